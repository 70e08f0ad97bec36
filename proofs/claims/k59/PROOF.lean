import PyProof.Rows.All
import HandS.ForMost
import HandS.ForExc
import HandS.TryMany
import HandS.ExcIs
import HandS.Lambda
import KE.KDictKeyed
import KE.KDictWalk
import KE.KDictCopyH
import HandS.Set
import PyProof.Rows.SortStr
import HandS.Wide
import HandS.TupAny
import HandS.TupMul
import PyProof.Rows.IntBool
import PyProof.PureInt
import HandS.IsInst
import HandS.RaiseMore
import PyProof.NeKinds
import HandS.Text
import HandS.Style
import HandS.Dict
import HandS.Ends
import HandS.EndBits
import PyProof.NoPylong
import HandS.EndTab
import HandS.DictComp
import HandS.More
import PyProof.DictUpdate
import HandS.List
import PyProof.Rows.StrMeet
import HandS.Comp
import HandS.Iter
import HandS.ExcInit
import HandS.ExcValue
import HandS.WordsExc
import KE.KExcIs
import HandS.EndOwn
import KE.KNestM
import HandS.Conv
import PyProof.Rows.MatchSeqLen
import PyProof.RulesMatch
import HandS.SortInts
import HandS.Strs
import HandS.SetFor
import PyProof.Rows.SetFrom
import KE.KUnpackStar
import HandS.Zip
import KE.GoesEnum
import KE.KEqDict
import KE.GoesMore
import PyProof.SetKind
import PyProof.Rows.JoinGen
import PyProof.SetRoads
import HandS.TupSets
import HandS.TupLe
import PyProof.StrOps2
import KE.SortKeyHeap
import KE.KDictSum
import KE.KDictPairs
import KE.KDictList
import HandS.Star
import HandS.SetTxt0
import HandS.SetBool
import KE.KDictZip
import HandS.ListItems
import PyProof.Rows.StrDigitsNeg
import PyProof.Rows.StrJoinMade
import PyProof.StrLawsRepr
import HandS.SortRule
import PySem.Challenge.RW_leanrefs_k59_fewest_spans_by_all_sets
set_option Elab.async false
set_option linter.all false
set_option maxRecDepth 100000
namespace Lr
open PySem PySem.Spec L2
open PyProof.Rows hiding St
structure Kap where
  ad : Nat → Addr
  T : List (Addr × Str) := []
  w : Option World := none
instance : CoeFun Kap (fun _ => Nat → Addr) := ⟨Kap.ad⟩
inductive AV where
  | non | bl (b : Bool) | int (i : Int) | str (x : Str)
  | tup (xs : List AV) | lst (xs : List AV) | dct (kvs : List (AV × AV))
  | loc (n : Nat) | obj (k : Nat) | scr (ns : List Int) | ty (n : String)
  deriving Inhabited
inductive AO where
  | lst (xs : List AV)
  | dct (kvs : List (Key × AV))
  | ins (c : Nat) (fs : List (Str × AV))
  | exc (c : Nat) (p : Option AV)
  | fdct (kvs : List (Key × AV))
  | dtn (kvs : List (AV × AV))
  | fdtn (kvs : List (AV × AV))
  | sts (xs : List Str)
  | tpx (xs : List AV)
  | dlf (kvs : List (PySem.Leaf × AV))
  | dead
  deriving Inhabited
abbrev Store := List AO
inductive Res (α : Type) where
  | ok (a : α) (μ : Store)
  | ex (c : Nat) (p : Option AV) (μ : Store)
  | bad
abbrev Loc := List (Option AV)
inductive Out where
  | nx (ρ : Loc) (μ : Store)
  | rt (v : AV) (μ : Store)
  | bk (ρ : Loc) (μ : Store)
  | ct (ρ : Loc) (μ : Store)
  | ex (c : Nat) (p : Option AV) (ρ : Loc) (μ : Store)
  | bad
abbrev AE := Loc → Store → Res AV
abbrev AT := Loc → Store → Res Bool
abbrev AA := Loc → Store → Res (List AV)
abbrev AS := Loc → Store → Out
abbrev Fn := List AV → Store → Res AV
def Res.bind {α β : Type} (r : Res α) (f : α → Store → Res β) : Res β :=
  match r with
  | .ok a μ => f a μ
  | .ex c p μ => .ex c p μ
  | .bad => .bad
@[simp] theorem Res.bind_ok {α β : Type} (a : α) (μ : Store) (f : α → Store → Res β) : (Res.ok a μ).bind f = f a μ := rfl
@[simp] theorem Res.bind_ex {α β : Type} (c : Nat) (p : Option AV) (μ : Store) (f : α → Store → Res β) : (Res.ex c p μ : Res α).bind f = .ex c p μ := rfl
@[simp] theorem Res.bind_bad {α β : Type} (f : α → Store → Res β) : (Res.bad : Res α).bind f = .bad := rfl
def Res.out {α : Type} (r : Res α) (ρ : Loc) (f : α → Store → Out) : Out :=
  match r with
  | .ok a μ => f a μ
  | .ex c p μ => .ex c p ρ μ
  | .bad => .bad
@[simp] theorem Res.out_ok {α : Type} (a : α) (μ : Store) (ρ : Loc) (f : α → Store → Out) : (Res.ok a μ).out ρ f = f a μ := rfl
@[simp] theorem Res.out_ex (c : Nat) (p : Option AV) (μ : Store) (ρ : Loc) {α : Type} (f : α → Store → Out) : (Res.ex c p μ).out ρ f = .ex c p ρ μ := rfl
@[simp] theorem Res.out_bad (ρ : Loc) {α : Type} (f : α → Store → Out) : (Res.bad).out ρ f = .bad := rfl
mutual

def keyN : AV → Option NestedKey
  | .non => some .none
  | .bl b => some (.num (if b = true then 1 else 0))
  | .int i => some (.num i)
  | .str x => some (.text x)
  | .tup xs => (keyNL xs).map .tup
  | _ => none
def keyNL : List AV → Option (List NestedKey)
  | [] => some []
  | x :: xs => match keyN x, keyNL xs with
    | some k, some ks => some (k :: ks)
    | _, _ => none
end
def RawN (w : World) (a : Addr) (xs : List (NestedKey × Addr × Value)) : Heap → Prop := fun h => ∃ o es ep, h.get? a = some o ∧ o.ExactDict ∧ o.data = .dict es ep ∧ es.toList = xs.map (fun x => (⟨x.1.hash w, .ref x.2.1, x.2.2⟩ : DictEntry)) ∧ (xs.map (·.1)).Nodup
abbrev DtnO (w : World) (a : Addr) (xs : List (NestedKey × Addr × Value)) : HO := .ext (RawN w a xs)
def RawL (w : World) (a : Addr) (xs : List (PySem.Leaf × Value)) : Heap → Prop := fun h => ∃ P : Program, h.DictOf (PySem.leafKind P w) a xs
abbrev DlfO (w : World) (a : Addr) (xs : List (PySem.Leaf × Value)) : HO := .ext (RawL w a xs)
def RawS (w : World) (a : Addr) (L : List Str) : Heap → Prop := fun h => ∃ es ep t, h.get? a = some ({ cls := .type "set", data := .set es ep t } : Obj) ∧ (∀ e ∈ es.toList, ∃ k tk, e = (hashStr w k, Value.str k tk)) ∧ (es.toList.map fun e => strOf e.2).Perm L ∧ L.Nodup ∧ t.fits es.size = true ∧
  L2.Ris t.place.toList ∧ (w.params.followText "set-order" = true ∨ t.led = true)
abbrev StsO (w : World) (a : Addr) (L : List Str) : HO := .ext (RawS w a L)
def Pres (K : PySem.W.Frag) (A : Addr) : Prop := (PySem.W.clsIn K A).isSome = true ∧ PySem.W.typeIn K (.ref A) = some (.type "type") ∧ PySem.W.subIn K (.ref A) (.type "BaseException") = some true
def FzL (K : PySem.W.Frag) (H : Hp) (a : Addr) (vs : List V) : Prop := ∃ o, H a = some (.frz o (.lst vs)) ∧ a ≠ sysModules
def ScL (K : PySem.W.Frag) (H : Hp) (a : Addr) (vs : List V) : Prop := (∃ o, H a = some (.frz o (.lst vs))) ∨ SqL K (fun _ => none) a vs
theorem ScL.sq {K : PySem.W.Frag} {H : Hp} {a : Addr} {vs : List V} (h : ScL K H a vs) : SqL K H a vs := by
  rcases h with h | (h | ⟨_, h⟩) | h
  · exact .inl (.inr h)
  · cases h
  · cases h
  · exact .inr h
mutual
inductive Rel (K : PySem.W.Frag) (κ : Kap) (ι : List Addr) (H : Hp) : AV → V → Prop
  | non : Rel K κ ι H .non .non
  | bl (b : Bool) : Rel K κ ι H (.bl b) (.bl b)
  | int (i : Int) : Rel K κ ι H (.int i) (.int i)
  | str (x : Str) : Rel K κ ι H (.str x) (.str x)
  | tup {xs : List AV} {a : Addr} {vs : List V} (h : SqT K H a vs) (r : RelL K κ ι H xs vs) : Rel K κ ι H (.tup xs) (.ref a)
  | lst {xs : List AV} {a : Addr} {vs : List V} (h : FzL K H a vs) (r : RelL K κ ι H xs vs) : Rel K κ ι H (.lst xs) (.ref a)
  | dct {kvs : List (AV × AV)} {a : Addr} {o : Obj} {es : Array DictEntry} {ep : Nat} (h : H a = some (.frz o (.ext fun h => h.get? a = some o))) (ho : o.ExactDict) (hd : o.data = .dict es ep) (hn : a ≠ sysModules) (r : RelD K κ ι H kvs es.toList) : Rel K κ ι H (.dct kvs) (.ref a)
  | loc {n : Nat} {a : Addr} (h : ι[n]? = some a) : Rel K κ ι H (.loc n) (.ref a)
  | obj (k : Nat) (h : Pres K (κ k)) : Rel K κ ι H (.obj k) (.ref (κ k))
  | scr {ns : List Int} {a : Addr} (h : ScL K H a (ns.map V.int)) : Rel K κ ι H (.scr ns) (.ref a)
  | ty (n : String) : Rel K κ ι H (.ty n) (.ty n)
inductive RelL (K : PySem.W.Frag) (κ : Kap) (ι : List Addr) (H : Hp) : List AV → List V → Prop
  | nil : RelL K κ ι H [] []
  | cons {x : AV} {v : V} {xs : List AV} {vs : List V} (h : Rel K κ ι H x v) (r : RelL K κ ι H xs vs) : RelL K κ ι H (x :: xs) (v :: vs)
inductive RelD (K : PySem.W.Frag) (κ : Kap) (ι : List Addr) (H : Hp) : List (AV × AV) → List DictEntry → Prop
  | nil : RelD K κ ι H [] []
  | cons {x y : AV} {v u : V} {e : DictEntry} {kvs : List (AV × AV)} {es : List DictEntry} (h : Rel K κ ι H x v) (hv : RelV v e.key) (g : Rel K κ ι H y u) (gv : RelV u e.val) (r : RelD K κ ι H kvs es) : RelD K κ ι H ((x, y) :: kvs) (e :: es)
end
structure HW (H H' : Hp) : Prop where
  tup : ∀ b xs, H b = some (.tup xs) → H' b = some (.tup xs)
  frz : ∀ b o u, H b = some (.frz o u) → H' b = some (.frz o u)
theorem HW.refl (H : Hp) : HW H H := ⟨fun _ _ h => h, fun _ _ _ h => h⟩
structure HM (ι : List Addr) (H : Hp) (ι' : List Addr) (H' : Hp) : Prop where
  pre : ι <+: ι'
  tup : ∀ b xs, H b = some (.tup xs) → H' b = some (.tup xs)
  frz : ∀ b o u, H b = some (.frz o u) → H' b = some (.frz o u)
  oth' : ∀ b u, b ∉ ι → H b = some u → (∀ ps, u ≠ .tbl ps) → H' b = some u
  new : ∀ b, b ∈ ι' → b ∉ ι → H b = none
  tb : ∀ b ps, H b = some (.tbl ps) → ∃ qs, H' b = some (.tbl qs)
theorem HM.oth {ι ι' : List Addr} {H H' : Hp} (m : HM ι H ι' H') (b : Addr) (u : HO) (h : b ∉ ι) (e : H b = some u) (hu : ∀ ps, u ≠ .tbl ps := by intro _ z; cases z) : H' b = some u := m.oth' b u h e hu
theorem HM.live {ι ι' : List Addr} {H H' : Hp} (m : HM ι H ι' H') {b : Addr} {u : HO} (h : b ∉ ι) (e : H b = some u) : H' b ≠ none := by
  by_cases hu : ∃ ps, u = .tbl ps
  · obtain ⟨ps, rfl⟩ := hu
    obtain ⟨qs, z⟩ := m.tb b ps e
    rw [z]; simp
  · rw [m.oth' b u h e fun ps z => hu ⟨ps, z⟩]; simp
theorem HM.w {ι ι' : List Addr} {H H' : Hp} (m : HM ι H ι' H') : HW H H' := ⟨m.tup, m.frz⟩
structure HV (ι : List Addr) (H : Hp) (ι' : List Addr) (H' : Hp) : Prop where
  pre : ι <+: ι'
  w : HW H H'
theorem HM.v {ι ι' : List Addr} {H H' : Hp} (m : HM ι H ι' H') : HV ι H ι' H' := ⟨m.pre, m.w⟩
theorem HM.refl {ι : List Addr} (H : Hp) : HM ι H ι H := ⟨List.prefix_refl _, fun _ _ h => h, fun _ _ _ h => h, fun _ _ _ h _ => h, fun _ h n => absurd h n, fun _ ps h => ⟨ps, h⟩⟩
theorem HM.trans {ι ι1 ι2 : List Addr} {H H1 H2 : Hp} (a : HM ι H ι1 H1) (b : HM ι1 H1 ι2 H2) : HM ι H ι2 H2 where
  pre := a.pre.trans b.pre
  tup := fun _ _ h => b.tup _ _ (a.tup _ _ h)
  frz := fun _ _ _ h => b.frz _ _ _ (a.frz _ _ _ h)
  oth' := fun c u n h hu => b.oth' c u (fun z => by rw [a.new c z n] at h; cases h) (a.oth' c u n h hu) hu
  tb := fun c ps h => let ⟨qs, z⟩ := a.tb c ps h; b.tb c qs z
  new := fun c h n => by
    by_cases z : c ∈ ι1
    · exact a.new c z n
    · have q := b.new c h z
      cases e : H c with
      | none => rfl
      | some u =>
        exact absurd q (a.live n e)
theorem HW.seqT {K : PySem.W.Frag} {H H' : Hp} {a : Addr} {vs : List V} (m : HW H H') (h : SqT K H a vs) : SqT K H' a vs := by
  rcases h with (h | ⟨o, h⟩) | h
  · exact .inl (.inl (m.tup _ _ h))
  · exact .inl (.inr ⟨o, m.frz _ _ _ h⟩)
  · exact .inr h
theorem HW.fz {K : PySem.W.Frag} {H H' : Hp} {a : Addr} {vs : List V} (m : HW H H') (h : FzL K H a vs) : FzL K H' a vs := let ⟨o, e, n⟩ := h; ⟨o, m.frz _ _ _ e, n⟩
theorem FzL.sq {K : PySem.W.Frag} {H : Hp} {a : Addr} {vs : List V} (h : FzL K H a vs) : SqL K H a vs := let ⟨o, e, _⟩ := h; .inl (.inr ⟨o, e⟩)
theorem HM.fresh {ι : List Addr} {H : Hp} {a : Addr} {o : HO} (h : H a = none) : HM ι H ι (upd H a o) :=
  ⟨List.prefix_refl _, fun b xs e => by rw [upd_ne (ne_of_none e h)]; exact e, fun b o' u e => by rw [upd_ne (ne_of_none e h)]; exact e, fun b u _ e _ => by rw [upd_ne (ne_of_none e h)]; exact e, fun _ h n => absurd h n, fun b ps e => ⟨ps, by rw [upd_ne (ne_of_none e h)]; exact e⟩⟩
theorem HM.wr {ι : List Addr} {H : Hp} {a : Addr} {o : HO} (h : Mut (H a)) (ha : a ∈ ι) : HM ι H ι (upd H a o) :=
  ⟨List.prefix_refl _, fun b xs e => by rw [upd_ne (fun z => by subst z; rw [e] at h; exact h)]; exact e, fun b o' u e => by rw [upd_ne (fun z => by subst z; rw [e] at h; exact h)]; exact e,
    fun b u n e _ => by rw [upd_ne (fun z => by subst z; exact n ha)]; exact e, fun _ h n => absurd h n, fun b ps e => ⟨ps, by rw [upd_ne (fun z => by subst z; rw [e] at h; exact h)]; exact e⟩⟩
section
variable {K : PySem.W.Frag} {κ : Kap} {ι ι' : List Addr} {H H' : Hp}
theorem get_prefix (p : ι <+: ι') {n : Nat} {a : Addr} (h : ι[n]? = some a) : ι'[n]? = some a := by
  obtain ⟨r, rfl⟩ := p
  have hn : n < ι.length := (List.getElem?_eq_some_iff.mp h).1
  rw [List.getElem?_append_left hn]
  exact h
end
section
variable {K : PySem.W.Frag} {κ : Kap} {ι ι' : List Addr} {H H' : Hp}
mutual
theorem Rel.monoW (p : ι <+: ι') (m : HW H H') : ∀ {x : AV} {v : V}, Rel K κ ι H x v → Rel K κ ι' H' x v
  | _, _, .non => .non
  | _, _, .bl b => .bl b
  | _, _, .int i => .int i
  | _, _, .str x => .str x
  | _, _, .tup h r => .tup (m.seqT h) (RelL.monoW p m r)
  | _, _, .lst h r => .lst (m.fz h) (RelL.monoW p m r)
  | _, _, .dct h ho hd hn r => .dct (m.frz _ _ _ h) ho hd hn (RelD.monoW p m r)
  | _, _, .loc h => .loc (get_prefix p h)
  | _, _, .obj k h => .obj k h
  | _, _, .scr h => .scr (h.imp (fun ⟨o, e⟩ => ⟨o, m.frz _ _ _ e⟩) id)
  | _, _, .ty n => .ty n
theorem RelL.monoW (p : ι <+: ι') (m : HW H H') : ∀ {xs : List AV} {vs : List V}, RelL K κ ι H xs vs → RelL K κ ι' H' xs vs
  | _, _, .nil => .nil
  | _, _, .cons h r => .cons (Rel.monoW p m h) (RelL.monoW p m r)
theorem RelD.monoW (p : ι <+: ι') (m : HW H H') : ∀ {xs : List (AV × AV)} {vs : List DictEntry}, RelD K κ ι H xs vs → RelD K κ ι' H' xs vs
  | _, _, .nil => .nil
  | _, _, .cons h hv g gv r => .cons (Rel.monoW p m h) hv (Rel.monoW p m g) gv (RelD.monoW p m r)
end
theorem Rel.mono (p : ι <+: ι') (m : HM ι H ι' H') {x : AV} {v : V} (h : Rel K κ ι H x v) : Rel K κ ι' H' x v := h.monoW p m.w
theorem RelL.mono (p : ι <+: ι') (m : HM ι H ι' H') {x : List AV} {v : List V} (h : RelL K κ ι H x v) : RelL K κ ι' H' x v := h.monoW p m.w
end
def RelF (K : PySem.W.Frag) (κ : Kap) (ι : List Addr) (H : Hp) : List (Str × AV) → List (Str × V) → Prop := Paired fun p q => p.1 = q.1 ∧ Rel K κ ι H p.2 q.2
def RelK (K : PySem.W.Frag) (κ : Kap) (ι : List Addr) (H : Hp) : List (Key × AV) → List (Key × V) → Prop := Paired fun p q => p.1 = q.1 ∧ Rel K κ ι H p.2 q.2
def RelN (K : PySem.W.Frag) (κ : Kap) (ι : List Addr) (H : Hp) : List (AV × AV) → List (NestedKey × Addr × Value) → Prop := Paired fun p q => (keyN p.1 = some q.1 ∧ q.1.depth ≤ 8 ∧ ∃ ks, p.1 = .tup ks) ∧ Rel K κ ι H p.1 (.ref q.2.1) ∧ ∃ u, RelV u q.2.2 ∧ Rel K κ ι H p.2 u
def RelLf (K : PySem.W.Frag) (κ : Kap) (ι : List Addr) (H : Hp) : List (PySem.Leaf × AV) → List (PySem.Leaf × Value) → Prop := Paired fun p q => p.1 = q.1 ∧ ∃ u, RelV u q.2 ∧ Rel K κ ι H p.2 u
def XDict (od : Obj) (x : V) : Prop := ∀ (h : Heap) (d : Addr), h.get? d = some od → ∃ mA, h.Ns1 d mA ∧ ∀ f, RelO (List.lookup f [(("value" : Str), x)]) (mA f)
abbrev KnO (H : Hp) (a : Addr) (o : Obj) : Prop := H a = some (.frz o (.ext fun h => h.get? a = some o))
def isub (c d : Nat) : Bool := c == d || d == 0
structure KC (K : PySem.W.Frag) (κ : Kap) (c : Nat) : Prop where
  ec : ExcC K (κ c)
  sub : ∀ d, Pres K (κ d) → PySem.W.subIn K (.ref (κ c)) (.ref (κ d)) = some (isub c d)
  ve : PySem.W.subIn K (.ref (κ c)) (.type "ValueError") = some true
  nv : PySem.W.findIn K (.ref (κ c)) "value" = some none
def ExcR (K : PySem.W.Frag) (κ : Kap) (ι : List Addr) (H : Hp) (oa : Obj) : Option AV → Prop
  | none => oa.dict = none
  | some v => ∃ d od x, oa.dict = some d ∧ KnO H d od ∧ XDict od x ∧ Rel K κ ι H v x
def ObjR (K : PySem.W.Frag) (κ : Kap) (ι : List Addr) (H : Hp) (a : Addr) : AO → Prop
  | .lst xs => ∃ vs, H a = some (.lst vs) ∧ RelL K κ ι H xs vs
  | .dct kvs => ∃ vs, H a = some (.dK vs) ∧ RelK K κ ι H kvs vs
  | .fdct kvs => ∃ o vs, H a = some (.frz o (.dK vs)) ∧ RelK K κ ι H kvs vs
  | .dtn kvs => a ≠ sysModules ∧ kvs.length ≤ 16777216 ∧ ∃ w xs, κ.w = some w ∧ H a = some (DtnO w a xs) ∧ RelN K κ ι H kvs xs
  | .fdtn kvs => a ≠ sysModules ∧ kvs.length ≤ 16777216 ∧ ∃ w o xs, κ.w = some w ∧ H a = some (.frz o (DtnO w a xs)) ∧ RelN K κ ι H kvs xs
  | .sts L => ∃ w, κ.w = some w ∧ H a = some (StsO w a L)
  | .ins c fs => ∃ dx vs, H a = some (.ins (κ c) dx vs) ∧ RelF K κ ι H fs vs
  | .exc c p => ∃ oa, KnO H a oa ∧ oa.cls = .ref (κ c) ∧ (∃ vs, oa.data = .fields vs) ∧ ExcR K κ ι H oa p ∧ KC K κ c
  | .dlf kvs => a ≠ sysModules ∧ kvs.length ≤ 16777216 ∧ ∃ w xs, κ.w = some w ∧ H a = some (DlfO w a xs) ∧ RelLf K κ ι H kvs xs
  | .tpx xs => ∃ o vs, H a = some (.frz o (.tup vs)) ∧ o.dict = none ∧ RelL K κ ι H xs vs
  | .dead => True
def NoE : Option HO → Prop
  | some (.tbl _) => False
  | some (.ext φ) => ∀ c q, HO.ext φ ≠ LamX.CodeO c q
  | _ => True
theorem noE_dtn (w : World) (a : Addr) (xs : List (NestedKey × Addr × Value)) : NoE (some (DtnO w a xs)) := fun c q e => by
  injection e with e
  let oc : Obj := { cls := .none, data := .fields #[.none, .str q 0] }
  let h : Heap := { objs := Array.replicate (a + c + 1) oc }
  have g : ∀ b, b < a + c + 1 → h.get? b = some oc := fun b hb => by
    simp [h, Heap.get?, hb]
    rfl
  have h1 : RawN w a xs h := by
    rw [e]
    exact ⟨oc, _, _, g c (Nat.lt_succ_of_le (Nat.le_add_left _ _)), rfl, rfl⟩
  obtain ⟨o, es, ep, h2, _, h3, _⟩ := h1
  rw [g a (Nat.lt_succ_of_le (Nat.le_add_right _ _))] at h2
  cases h2
  cases h3
theorem noE_dlf (w : World) (a : Addr) (xs : List (PySem.Leaf × Value)) : NoE (some (DlfO w a xs)) := fun c q e => by
  injection e with e
  let oc : Obj := { cls := .none, data := .fields #[.none, .str q 0] }
  let h : Heap := { objs := Array.replicate (a + c + 1) oc }
  have g : ∀ b, b < a + c + 1 → h.get? b = some oc := fun b hb => by
    simp [h, Heap.get?, hb]
    rfl
  have h1 : RawL w a xs h := by
    rw [e]
    exact ⟨oc, _, _, g c (Nat.lt_succ_of_le (Nat.le_add_left _ _)), rfl, rfl⟩
  obtain ⟨_, o, es, ep, h2, _, h3, _⟩ := h1
  rw [g a (Nat.lt_succ_of_le (Nat.le_add_right _ _))] at h2
  cases h2
  cases h3
theorem noE_sts (w : World) (a : Addr) (L : List Str) : NoE (some (StsO w a L)) := fun c q e => by
  injection e with e
  let oc : Obj := { cls := .none, data := .fields #[.none, .str q 0] }
  let h : Heap := { objs := Array.replicate (a + c + 1) oc }
  have g : ∀ b, b < a + c + 1 → h.get? b = some oc := fun b hb => by
    simp [h, Heap.get?, hb]
    rfl
  have h1 : RawS w a L h := by
    rw [e]
    exact ⟨oc, _, _, g c (Nat.lt_succ_of_le (Nat.le_add_left _ _)), rfl, rfl⟩
  obtain ⟨es, ep, t, h2, _⟩ := h1
  rw [g a (Nat.lt_succ_of_le (Nat.le_add_right _ _))] at h2
  have z : Value.none = Value.type "set" := congrArg Obj.cls (Option.some.inj h2)
  cases z
theorem tabs_wr {T : List (Addr × Str)} {H : Hp} {a : Addr} {u : HO} (t : LamX.Tabs T H) (h : NoE (H a)) : LamX.Tabs T (upd H a u) := fun p hp => by
  obtain ⟨ps, h1, h2, h3⟩ := t p hp
  refine ⟨ps, by rw [upd_ne (fun z => by rw [← z, h1] at h; exact h)]; exact h1, h2, fun pos cv hc => ?_⟩
  obtain ⟨c, e1, e2⟩ := h3 pos cv hc
  exact ⟨c, e1, by rw [upd_ne (fun z => by rw [← z, e2] at h; exact h _ _ rfl)]; exact e2⟩
structure SR (K : PySem.W.Frag) (κ : Kap) (ι : List Addr) (μ : Store) (H : Hp) : Prop where
  len : ι.length = μ.length
  nd : ι.Nodup
  on : ∀ a ∈ ι, H a ≠ none
  ne : ∀ a ∈ ι, NoE (H a)
  tabs : LamX.Tabs κ.T H
  obj : ∀ (n : Nat) (o : AO) (a : Addr), μ[n]? = some o → ι[n]? = some a → ObjR K κ ι H a o
def RelS (K : PySem.W.Frag) (κ : Kap) (ι : List Addr) (H : Hp) (ρ : Loc) (σ : St) : Prop :=
  ρ.length = σ.length ∧ ∀ (i : Nat) (v : AV), ρ[i]? = some (some v) → ∃ x, σ[i]? = some (some x) ∧ Rel K κ ι H v x
def ExR (K : PySem.W.Frag) (κ : Kap) (ι : List Addr) (H : Hp) (c : Nat) (d : Option Addr) (p : Option AV) : Prop := KC K κ c ∧ match p with
  | none => d = none
  | some v => ∃ dx od x, d = some dx ∧ KnO H dx od ∧ XDict od x ∧ Rel K κ ι H v x
section
variable {K : PySem.W.Frag} {κ : Kap} {ι ι' : List Addr} {H H' : Hp}
theorem RelF.mono (p : ι <+: ι') (m : HW H H') {xs : List (Str × AV)} {vs : List (Str × V)} (r : RelF K κ ι H xs vs) : RelF K κ ι' H' xs vs :=
  Paired.mapP r fun _ _ z => ⟨z.1, z.2.monoW p m⟩
theorem RelK.mono (p : ι <+: ι') (m : HW H H') {xs : List (Key × AV)} {vs : List (Key × V)} (r : RelK K κ ι H xs vs) : RelK K κ ι' H' xs vs :=
  Paired.mapP r fun _ _ z => ⟨z.1, z.2.monoW p m⟩
theorem RelN.mono (p : ι <+: ι') (m : HW H H') {xs : List (AV × AV)} {vs : List (NestedKey × Addr × Value)} (r : RelN K κ ι H xs vs) : RelN K κ ι' H' xs vs :=
  Paired.mapP r fun _ _ z => ⟨z.1, z.2.1.monoW p m, z.2.2.imp fun _ y => ⟨y.1, y.2.monoW p m⟩⟩
theorem RelLf.mono (p : ι <+: ι') (m : HW H H') {xs : List (PySem.Leaf × AV)} {vs : List (PySem.Leaf × Value)} (r : RelLf K κ ι H xs vs) : RelLf K κ ι' H' xs vs :=
  Paired.mapP r fun _ _ z => ⟨z.1, z.2.imp fun _ y => ⟨y.1, y.2.monoW p m⟩⟩
theorem RelS.mono (p : ι <+: ι') (m : HM ι H ι' H') {ρ : Loc} {σ : St} (r : RelS K κ ι H ρ σ) : RelS K κ ι' H' ρ σ :=
  ⟨r.1, fun i v e => let ⟨x, e1, r1⟩ := r.2 i v e; ⟨x, e1, r1.mono p m⟩⟩
theorem RelL.length : ∀ {xs : List AV} {vs : List V}, RelL K κ ι H xs vs → xs.length = vs.length
  | _, _, .nil => rfl
  | _, _, .cons _ r => congrArg (· + 1) (RelL.length r)
theorem RelL.get : ∀ {xs : List AV} {vs : List V} {i : Nat} {x : AV}, RelL K κ ι H xs vs → xs[i]? = some x → ∃ v, vs[i]? = some v ∧ Rel K κ ι H x v
  | _, _, _, _, .nil, e => by simp at e
  | _, _, 0, _, .cons h _, e => by simp at e; subst e; exact ⟨_, rfl, h⟩
  | _, _, i + 1, _, .cons _ r, e => by
    obtain ⟨v, e1, r1⟩ := RelL.get (i := i) r (by simpa using e)
    exact ⟨v, by simpa using e1, r1⟩
theorem RelL.get' : ∀ {xs : List AV} {vs : List V} {i : Nat} {v : V}, RelL K κ ι H xs vs → vs[i]? = some v → ∃ x, xs[i]? = some x ∧ Rel K κ ι H x v
  | _, _, _, _, .nil, e => by simp at e
  | _, _, 0, _, .cons h _, e => by simp at e; subst e; exact ⟨_, rfl, h⟩
  | _, _, i + 1, _, .cons _ r, e => by
    obtain ⟨v, e1, r1⟩ := RelL.get' (i := i) r (by simpa using e)
    exact ⟨v, by simpa using e1, r1⟩
theorem RelL.append : ∀ {xs ys : List AV} {vs ws : List V}, RelL K κ ι H xs vs → RelL K κ ι H ys ws → RelL K κ ι H (xs ++ ys) (vs ++ ws)
  | _, _, _, _, .nil, s => s
  | _, _, _, _, .cons h r, s => .cons h (RelL.append r s)
theorem RelL.set {x : AV} {v : V} (h : Rel K κ ι H x v) : ∀ {xs : List AV} {vs : List V} (i : Nat), RelL K κ ι H xs vs → RelL K κ ι H (xs.set i x) (vs.set i v)
  | _, _, _, .nil => .nil
  | _, _, 0, .cons _ r => .cons h r
  | _, _, i + 1, .cons q r => .cons q (RelL.set h i r)
theorem RelL.take : ∀ {xs : List AV} {vs : List V} (n : Nat), RelL K κ ι H xs vs → RelL K κ ι H (xs.take n) (vs.take n)
  | _, _, 0, _ => .nil
  | _, _, _ + 1, .nil => .nil
  | _, _, n + 1, .cons h r => .cons h (RelL.take n r)
theorem RelL.drop : ∀ {xs : List AV} {vs : List V} (n : Nat), RelL K κ ι H xs vs → RelL K κ ι H (xs.drop n) (vs.drop n)
  | _, _, 0, r => r
  | _, _, _ + 1, .nil => .nil
  | _, _, n + 1, .cons _ r => RelL.drop n r
theorem RelL.reverse : ∀ {xs : List AV} {vs : List V}, RelL K κ ι H xs vs → RelL K κ ι H xs.reverse vs.reverse
  | _, _, .nil => .nil
  | _, _, .cons h r => by
    rw [List.reverse_cons, List.reverse_cons]
    exact (RelL.reverse r).append (.cons h .nil)
theorem RelL.ints : ∀ (ns : List Int), RelL K κ ι H (ns.map AV.int) (ns.map V.int)
  | [] => .nil
  | n :: ns => .cons (.int n) (RelL.ints ns)
theorem ExcR.mono (p : ι <+: ι') (m : HW H H') {oa : Obj} : ∀ {v : Option AV}, ExcR K κ ι H oa v → ExcR K κ ι' H' oa v
  | none, h => h
  | some v, ⟨d, od, x, h1, h2, h3, h4⟩ => ⟨d, od, x, h1, m.frz _ _ _ h2, h3, h4.monoW p m⟩
theorem ObjR.mono (p : ι <+: ι') (m : HW H H') {a : Addr} {o : AO} (e : ∀ u, H a = some u → H' a = some u) (r : ObjR K κ ι H a o) : ObjR K κ ι' H' a o := by
  cases o with
  | lst xs => obtain ⟨vs, h, q⟩ := r; exact ⟨vs, e _ h, q.monoW p m⟩
  | dct kvs => obtain ⟨vs, h, q⟩ := r; exact ⟨vs, e _ h, q.mono p m⟩
  | fdct kvs => obtain ⟨o, vs, h, q⟩ := r; exact ⟨o, vs, m.frz _ _ _ h, q.mono p m⟩
  | dtn kvs => obtain ⟨hn, hz, w, xs, hw, h, q⟩ := r; exact ⟨hn, hz, w, xs, hw, e _ h, q.mono p m⟩
  | fdtn kvs => obtain ⟨hn, hz, w, o, xs, hw, h, q⟩ := r; exact ⟨hn, hz, w, o, xs, hw, m.frz _ _ _ h, q.mono p m⟩
  | sts L => obtain ⟨w, hw, h⟩ := r; exact ⟨w, hw, e _ h⟩
  | dlf kvs => obtain ⟨hn, hz, w, xs, hw, h, q⟩ := r; exact ⟨hn, hz, w, xs, hw, e _ h, q.mono p m⟩
  | tpx xs => obtain ⟨o, vs, h, hd, q⟩ := r; exact ⟨o, vs, m.frz _ _ _ h, hd, q.monoW p m⟩
  | ins c fs => obtain ⟨dx, vs, h, q⟩ := r; exact ⟨dx, vs, e _ h, q.mono p m⟩
  | exc c v => obtain ⟨oa, h1, h2, h3, h4, h5⟩ := r; exact ⟨oa, m.frz _ _ _ h1, h2, h3, h4.mono p m, h5⟩
  | dead => trivial
theorem SR.new {μ : Store} {a : Addr} {o : HO} (sr : SR K κ ι μ H) (h : H a = none) : SR K κ ι μ (upd H a o) :=
  ⟨sr.len, sr.nd, fun b hb => by
    by_cases z : b = a
    · subst z; exact absurd h (sr.on b hb)
    · rw [upd_ne z]; exact sr.on b hb, fun b hb => by
    by_cases z : b = a
    · subst z; exact absurd h (sr.on b hb)
    · rw [upd_ne z]; exact sr.ne b hb, tabs_wr sr.tabs (by rw [h]; trivial), fun n q b h1 h2 => (sr.obj n q b h1 h2).mono (List.prefix_refl _) (HM.fresh (ι := ι) h).w fun u e => by rw [upd_ne (ne_of_none e h)]; exact e⟩
theorem SR.alloc {μ : Store} {a : Addr} {o : AO} (sr : SR K κ ι μ H) (h : ObjR K κ ι H a o) (hn : a ∉ ι) (hs : H a ≠ none) (he : NoE (H a)) : SR K κ (ι ++ [a]) (μ ++ [o]) H := by
  have pre : ι <+: ι ++ [a] := List.prefix_append _ _
  refine ⟨by simp [sr.len], List.nodup_append.mpr ⟨sr.nd, by simp, fun x hx y hy => ?_⟩, fun b hb => ?_, fun b hb => (List.mem_append.mp hb).elim (sr.ne b) fun z => by rw [show b = a by simpa using z]; exact he, sr.tabs, fun n q b h1 h2 => ?_⟩
  · have e : y = a := by simpa using hy
    subst e
    exact fun z => hn (z ▸ hx)
  · rcases List.mem_append.mp hb with hb | hb
    · exact sr.on b hb
    · have z : b = a := by simpa using hb
      subst z
      exact hs
  · by_cases hl : n < μ.length
    · rw [List.getElem?_append_left hl] at h1
      rw [List.getElem?_append_left (by rw [sr.len]; exact hl)] at h2
      exact (sr.obj n q b h1 h2).mono pre (HW.refl _) fun _ e => e
    · have hn2 : n = μ.length := by
        have := (List.getElem?_eq_some_iff.mp h1).1
        simp at this
        omega
      subst hn2
      have e1 : o = q := by simpa using h1
      have e2 : a = b := by
        rw [← sr.len] at h2
        simpa using h2
      subst e1 e2
      exact h.mono pre (HW.refl _) fun _ e => e
theorem SR.write {μ : Store} {n : Nat} {a : Addr} {o : AO} {u : HO} (sr : SR K κ ι μ H) (e : ι[n]? = some a) (mu : Mut (H a)) (h : ObjR K κ ι (upd H a u) a o) (hu : NoE (some u) := by trivial) : SR K κ ι (μ.set n o) (upd H a u) := by
  refine ⟨by simp [sr.len], sr.nd, fun b hb => ?_, fun b hb => ?_, tabs_wr sr.tabs (sr.ne a (List.mem_of_getElem? e)), fun m q b h1 h2 => ?_⟩
  rotate_left
  · by_cases z : b = a
    · subst z; rw [upd_same]; exact hu
    · rw [upd_ne z]; exact sr.ne b hb
  rotate_left
  · by_cases z : b = a
    · subst z; rw [upd_same]; simp
    · rw [upd_ne z]; exact sr.on b hb
  by_cases hm : m = n
  · subst hm
    have hl : m < μ.length := by rw [← sr.len]; exact (List.getElem?_eq_some_iff.mp e).1
    rw [List.getElem?_set_self hl] at h1
    rw [e] at h2
    cases h1
    cases h2
    exact h
  · rw [List.getElem?_set_ne (Ne.symm hm)] at h1
    refine (sr.obj m q b h1 h2).mono (List.prefix_refl _) (HM.wr mu (List.mem_of_getElem? e)).w fun v hv => ?_
    rw [upd_ne]
    · exact hv
    · intro z
      subst z
      exact hm (L2.nd_ix sr.nd h2 e)
end
section
variable (K : PySem.W.Frag) (κ : Kap)
def PG {α : Type} (W : WX) (σ : St) (ι : List Addr) (H : Hp) (C : α → List Addr → Hp → Prop) : Res α → Prop
  | .ok v μ' => ∀ (ι' : List Addr) (H' : Hp), ι <+: ι' → HM ι H ι' H' → SR K κ ι' μ' H' → C v ι' H'
  | .ex c p μ' => ∀ (ι' : List Addr) (H' : Hp) (d : Option Addr), ι <+: ι' → HM ι H ι' H' → SR K κ ι' μ' H' → ExR K κ ι' H' c d p → W (.ref (κ c)) d σ H'
  | .bad => False
abbrev CV (Q : VK) : AV → List Addr → Hp → Prop := fun v ι' H' => ∀ x, Rel K κ ι' H' v x → Q x H'
abbrev CB (Q : Bool → Hp → Prop) : Bool → List Addr → Hp → Prop := fun b _ H' => Q b H'
abbrev CL (Q : List V → Hp → Prop) : List AV → List Addr → Hp → Prop := fun vs ι' H' => ∀ xs, RelL K κ ι' H' vs xs → Q xs H'
abbrev CN (H : Hp) (Q : VK) : List AV → List Addr → Hp → Prop := fun vs ι' H' => ∀ (a : Addr) (xs : List V), RelL K κ ι' H' vs xs → H' a = some (.lst xs) → a ∉ ι' → H a = none → a ≠ sysModules → Q (.ref a) H'
def PO' (W : WX) (ι : List Addr) (H : Hp) (D : Ends) : Out → Prop
  | .nx ρ' μ' => ∀ (ι' : List Addr) (H' : Hp) (σ' : St), ι <+: ι' → HM ι H ι' H' → SR K κ ι' μ' H' → RelS K κ ι' H' ρ' σ' → D.nx σ' H'
  | .rt v μ' => ∀ (ι' : List Addr) (H' : Hp) (x : V), ι <+: ι' → HM ι H ι' H' → SR K κ ι' μ' H' → Rel K κ ι' H' v x → D.rt x H'
  | .bk ρ' μ' => ∀ (ι' : List Addr) (H' : Hp) (σ' : St), ι <+: ι' → HM ι H ι' H' → SR K κ ι' μ' H' → RelS K κ ι' H' ρ' σ' → D.bk σ' H'
  | .ct ρ' μ' => ∀ (ι' : List Addr) (H' : Hp) (σ' : St), ι <+: ι' → HM ι H ι' H' → SR K κ ι' μ' H' → RelS K κ ι' H' ρ' σ' → D.ct σ' H'
  | .ex c p ρ' μ' => ∀ (ι' : List Addr) (H' : Hp) (σ' : St) (d : Option Addr), ι <+: ι' → HM ι H ι' H' → SR K κ ι' μ' H' → RelS K κ ι' H' ρ' σ' → ExR K κ ι' H' c d p → W (.ref (κ c)) d σ' H'
  | .bad => False
variable {K κ}
variable {W : WX} {σ : St} {ι ι1 : List Addr} {H H1 : Hp}
theorem PG.mono {α : Type} {C : α → List Addr → Hp → Prop} {r : Res α} (p : ι <+: ι1) (m : HM ι H ι1 H1) (h : PG K κ W σ ι H C r) : PG K κ W σ ι1 H1 C r := by
  cases r with
  | ok v μ => exact fun ι' H' q n => h ι' H' (p.trans q) (m.trans n)
  | ex c v μ => exact fun ι' H' x q n => h ι' H' x (p.trans q) (m.trans n)
  | bad => exact h
theorem PG.bind {α β : Type} {C : β → List Addr → Hp → Prop} {C' : α → List Addr → Hp → Prop} {r : Res α} {f : α → Store → Res β} (h : PG K κ W σ ι H C (r.bind f))
    (k : ∀ (a : α) (μ1 : Store) (ι1 : List Addr) (H1 : Hp), ι <+: ι1 → HM ι H ι1 H1 → SR K κ ι1 μ1 H1 → PG K κ W σ ι1 H1 C (f a μ1) → C' a ι1 H1) : PG K κ W σ ι H C' r := by
  cases r with
  | ok v μ => exact fun ι' H' q n s => k v μ ι' H' q n s (PG.mono q n h)
  | ex c v μ => exact h
  | bad => exact h
theorem PG.bind0 {α β : Type} {C : β → List Addr → Hp → Prop} {C' : α → List Addr → Hp → Prop} {r : Res α} {f : α → Store → Res β} (h : PG K κ W σ ι H C (r.bind f))
    (k : ∀ (a : α) (μ1 : Store) (ι1 : List Addr) (H1 : Hp), ι <+: ι1 → HM ι H ι1 H1 → SR K κ ι1 μ1 H1 → PG K κ W σ ι H C (f a μ1) → C' a ι1 H1) : PG K κ W σ ι H C' r := by
  cases r with
  | ok v μ => exact fun ι' H' q n s => k v μ ι' H' q n s h
  | ex c v μ => exact h
  | bad => exact h
theorem PG.bindF {α β : Type} {ι₀ : List Addr} {H₀ : Hp} {C : β → List Addr → Hp → Prop} {C' : α → List Addr → Hp → Prop} {r : Res α} {f : α → Store → Res β} (m₀ : HM ι H ι₀ H₀) (h : PG K κ W σ ι H C (r.bind f))
    (k : ∀ (a : α) (μ1 : Store) (ι1 : List Addr) (H1 : Hp), ι₀ <+: ι1 → HM ι₀ H₀ ι1 H1 → SR K κ ι1 μ1 H1 → PG K κ W σ ι H C (f a μ1) → C' a ι1 H1) : PG K κ W σ ι₀ H₀ C' r := by
  cases r with
  | ok v μ => exact fun ι' H' q n s => k v μ ι' H' q n s h
  | ex c v μ => exact PG.mono (r := Res.ex c v μ) (C := C') m₀.pre m₀ h
  | bad => exact h
theorem PO'.mono {D : Ends} {r : Out} (p : ι <+: ι1) (m : HM ι H ι1 H1) (h : PO' K κ W ι H D r) : PO' K κ W ι1 H1 D r := by
  cases r with
  | nx ρ μ => exact fun ι' H' x q n => h ι' H' x (p.trans q) (m.trans n)
  | rt v μ => exact fun ι' H' x q n => h ι' H' x (p.trans q) (m.trans n)
  | bk ρ μ => exact fun ι' H' x q n => h ι' H' x (p.trans q) (m.trans n)
  | ct ρ μ => exact fun ι' H' x q n => h ι' H' x (p.trans q) (m.trans n)
  | ex c v ρ μ => exact fun ι' H' x d q n => h ι' H' x d (p.trans q) (m.trans n)
  | bad => exact h
theorem PO'.bind {α : Type} {D : Ends} {ρ : Loc} {C' : α → List Addr → Hp → Prop} {r : Res α} {f : α → Store → Out} (rs : RelS K κ ι H ρ σ) (h : PO' K κ W ι H D (r.out ρ f))
    (k : ∀ (a : α) (μ1 : Store) (ι1 : List Addr) (H1 : Hp), ι <+: ι1 → HM ι H ι1 H1 → SR K κ ι1 μ1 H1 → PO' K κ W ι1 H1 D (f a μ1) → C' a ι1 H1) : PG K κ W σ ι H C' r := by
  cases r with
  | ok v μ => exact fun ι' H' q n s => k v μ ι' H' q n s (PO'.mono q n h)
  | ex c v μ => exact fun ι' H' d q n s e => h ι' H' σ d q n s (rs.mono q n) e
  | bad => exact h
end
section
variable (K : PySem.W.Frag) (κ : Kap) (W : WX)
def ImE (t : TE) (r : AE) : Prop := ∀ (σ : St) (H : Hp) (Q : VK) (ι : List Addr) (ρ : Loc) (μ : Store), SR K κ ι μ H → RelS K κ ι H ρ σ → PG K κ W σ ι H (CV K κ Q) (r ρ μ) → t σ H Q
def ImT (t : TT) (r : AT) : Prop := ∀ (σ : St) (H : Hp) (Q : Bool → Hp → Prop) (ι : List Addr) (ρ : Loc) (μ : Store), SR K κ ι μ H → RelS K κ ι H ρ σ → PG K κ W σ ι H (CB Q) (r ρ μ) → t σ H Q
def ImA (t : TA) (r : AA) : Prop := ∀ (σ : St) (H : Hp) (Q : List V → Hp → Prop) (ι : List Addr) (ρ : Loc) (μ : Store), SR K κ ι μ H → RelS K κ ι H ρ σ → PG K κ W σ ι H (CL K κ Q) (r ρ μ) → t σ H Q
def ImN (t : TE) (r : AA) : Prop := ∀ (σ : St) (H : Hp) (Q : VK) (ι : List Addr) (ρ : Loc) (μ : Store), SR K κ ι μ H → RelS K κ ι H ρ σ → PG K κ W σ ι H (CN K κ H Q) (r ρ μ) → t σ H Q
def ImS (t : TS) (r : AS) : Prop := ∀ (D : Ends) (σ : St) (H : Hp) (ι : List Addr) (ρ : Loc) (μ : Store), SR K κ ι μ H → RelS K κ ι H ρ σ → PO' K κ W ι H D (r ρ μ) → t D σ H
end
def DE (κ : Kap) (X : Cx) (e : Expr) (r : AE) : Prop := ∀ W : WX, Takes X W → ∃ t, PE X e t ∧ ImE X.K κ W t r
def DT (κ : Kap) (X : Cx) (e : Expr) (r : AT) : Prop := ∀ W : WX, Takes X W → ∃ t, PT X e t ∧ ImT X.K κ W t r
def DA (κ : Kap) (X : Cx) (es : List Expr) (r : AA) : Prop := ∀ W : WX, Takes X W → ∃ t, PA X es t ∧ ImA X.K κ W t r
def DN (κ : Kap) (X : Cx) (e : Expr) (r : AA) : Prop := ∀ W : WX, Takes X W → ∃ t, PE X e t ∧ ImN X.K κ W t r
def DS (κ : Kap) (X : Cx) (s : Stmt) (r : AS) : Prop := ∀ W : WX, Takes X W → ∃ t, PS X s t ∧ ImS X.K κ W t r
def DSs (κ : Kap) (X : Cx) (s : List Stmt) (r : AS) : Prop := ∀ W : WX, Takes X W → ∃ t, PSs X s t ∧ ImS X.K κ W t r
structure Cl (X : Cx) (k : Nat) : Prop where
  calm : X.calm = true
  nd : X.N.Nodup
  room : Room k X.A
  gd : X.A.guards = some []
  sm : ∃ o, X.base.get? sysModules = some o
end Lr
namespace Lr
open PySem PySem.Spec L2
open PyProof.Rows hiding St
def eVar (i : Nat) : AE := fun ρ μ => match ρ[i]? with
  | some (some v) => .ok v μ
  | _ => .bad
def eC (v : AV) : AE := fun _ μ => .ok v μ
section
variable {κ : Kap} {X : Cx}
theorem DE.var (i : Nat) {x : Str} {pos : Pos} (hN : X.N[i]? = some x := by rfl) (hv : Vis X.env.scope x := by first | exact Or.inl rfl | exact Or.inr (Or.inl rfl) | exact Or.inr (Or.inr rfl)) (hd : (x == ("__debug__" : Str)) = false := by decide)
    (hcd : (x == ("__classdict__" : Str)) = false := by decide) : DE κ X (.Name x pos) (eVar i) := fun W _ => by
  refine ⟨tVar i, pe_var hN hv hd hcd, fun σ H Q ι ρ μ sr rs h => ?_⟩
  unfold eVar at h
  split at h
  · rename_i v e
    obtain ⟨x, e1, r1⟩ := rs.2 i v e
    exact ⟨x, e1, h ι H (List.prefix_refl _) (HM.refl _) sr x r1⟩
  · exact False.elim h
theorem DE.con {e : Expr} {v : AV} {x : V} (h : PE X e (tC x)) (r : ∀ ι H, Rel X.K κ ι H v x) : DE κ X e (eC v) := fun W _ =>
  ⟨tC x, h, fun σ H Q ι ρ μ sr rs h => h ι H (List.prefix_refl _) (HM.refl _) sr x (r ι H)⟩
theorem DE.int {i : Int} {j pos} : DE κ X (.Constant (.int i) j pos) (eC (.int i)) := .con pe_int fun _ _ => .int i
theorem DE.bl {b : Bool} {j pos} : DE κ X (.Constant (.bool b) j pos) (eC (.bl b)) := .con pe_bl fun _ _ => .bl b
theorem DE.non {j pos} : DE κ X (.Constant .none j pos) (eC .non) := .con pe_non fun _ _ => .non
theorem DE.str {x : Str} {j pos} : DE κ X (.Constant (.str x) j pos) (eC (.str x)) := .con pe_str fun _ _ => .str x
end
def aNil : AA := fun _ μ => .ok [] μ
def aCons (a : AE) (r : AA) : AA := fun ρ μ => (a ρ μ).bind fun x μ1 => (r ρ μ1).bind fun xs μ2 => .ok (x :: xs) μ2
def eTup (r : AA) : AE := fun ρ μ => (r ρ μ).bind fun xs μ1 => if xs.length ≤ 16777216 then .ok (.tup xs) μ1 else .bad
def aLst (r : AA) : AA := fun ρ μ => (r ρ μ).bind fun xs μ1 => if xs.length ≤ 16777216 then .ok xs μ1 else .bad
section
variable {κ : Kap} {X : Cx} {e : Expr} {es : List Expr} {r : AE} {rs : AA} {pos : Pos}
theorem DA.nil : DA κ X [] aNil := fun W _ => ⟨tNil, pa_nil, fun σ H Q ι ρ μ sr rs h => h ι H (List.prefix_refl _) (HM.refl _) sr [] .nil⟩
theorem DA.cons (ha : DE κ X e r) (hr : DA κ X es rs) (hs : starEach (e :: es) X.env = (false, eval e X.env) :: starEach es X.env := by rfl) : DA κ X (e :: es) (aCons r rs) := fun W tk => by
  obtain ⟨t, p, i⟩ := ha W tk
  obtain ⟨u, q, j⟩ := hr W tk
  refine ⟨tCons t u, pa_cons p q hs, fun σ H Q ι ρ μ sr rl h => ?_⟩
  refine i σ H _ ι ρ μ sr rl (PG.bind h fun x μ1 ι1 H1 p1 m1 sr1 h1 v rv => ?_)
  refine j σ H1 _ ι1 ρ μ1 sr1 (rl.mono p1 m1) (PG.bind h1 fun xs μ2 ι2 H2 p2 m2 sr2 h2 vs rvs => ?_)
  exact h2 ι2 H2 (List.prefix_refl _) (HM.refl _) sr2 _ (.cons (rv.mono p2 m2) rvs)
theorem line16 : sizeLine = 16777216 := sizeLine_eq
theorem DE.tup {x1} (h : DA κ X es rs) : DE κ X (.Tuple es x1 pos) (eTup rs) := fun W tk => by
  obtain ⟨t, p, i⟩ := h W tk
  refine ⟨tTup t, pe_tup p, fun σ H Q ι ρ μ sr rl h => ?_⟩
  refine i σ H _ ι ρ μ sr rl (PG.bind h fun xs μ1 ι1 H1 p1 m1 sr1 h1 vs rv => ?_)
  by_cases hz : xs.length ≤ 16777216
  · rw [if_pos hz] at h1
    refine ⟨by rw [line16, ← rv.length]; exact hz, fun a hn => ?_⟩
    exact h1 ι1 _ (List.prefix_refl _) (HM.fresh hn) (sr1.new hn) _ (.tup (.inl (.inl upd_same)) (rv.mono (List.prefix_refl _) (HM.fresh hn)))
  · rw [if_neg hz] at h1
    exact False.elim h1
theorem SR.notin {K : PySem.W.Frag} {ι : List Addr} {μ : Store} {H : Hp} {a : Addr} (sr : SR K κ ι μ H) (h : H a = none) : a ∉ ι := fun z => sr.on a z h
theorem low {k : Nat} {e : Expr} {t : TE} (c : Cl X k) (h : PE X e t) : PE X e (fun σ H Q => t σ H fun x H1 => (∀ p u, H1 p = some u → p ≠ sysModules) → Q x H1) := by
  refine ⟨fun pins s σ H Q I hw => ?_⟩
  refine thn (h.run pins s σ H _ I hw) fun v s1 ⟨x, H1, I1, r1, q1⟩ => ⟨x, H1, I1, r1, q1 fun p u hp z => ?_⟩
  subst z
  obtain ⟨o, ho⟩ := c.sm
  have := (I1.bs _ o ho).2
  rw [hp] at this
  cases this
theorem DN.mk {k : Nat} {e : Expr} {r : AA} (c : Cl X k) (h : ∀ W, Takes X W → ∃ t, PE X e t ∧ ∀ σ H Q ι ρ μ, SR X.K κ ι μ H → RelS X.K κ ι H ρ σ →
    PG X.K κ W σ ι H (fun vs ι' H' => ∀ (a : Addr) (xs : List V), RelL X.K κ ι' H' vs xs → H' a = some (.lst xs) → a ∉ ι' → H a = none → Q (.ref a) H') (r ρ μ) → t σ H Q) : DN κ X e r := fun W tk => by
  obtain ⟨t, p, i⟩ := h W tk
  refine ⟨_, low c p, fun σ H Q ι ρ μ sr rl h => ?_⟩
  refine i σ H _ ι ρ μ sr rl ?_
  revert h
  cases r ρ μ with
  | ok v μ1 => exact fun h ι' H' p m s a xs r e hn h0 hlow => h ι' H' p m s a xs r e hn h0 (hlow a _ e)
  | ex c p μ1 => exact id
  | bad => exact id
theorem okNew {K : PySem.W.Frag} {W : WX} {σ : St} {ι ι1 : List Addr} {H H1 : Hp} {Q : VK} {vs : List AV} {xs : List V} {μ μ1 : Store} {q : Addr} (sr : SR K κ ι μ H) (sr1 : SR K κ ι1 μ1 H1) (m1 : HM ι H ι1 H1)
    (h : PG K κ W σ ι H (fun vs ι' H' => ∀ (a : Addr) (xs : List V), RelL K κ ι' H' vs xs → H' a = some (.lst xs) → a ∉ ι' → H a = none → Q (.ref a) H') (.ok vs μ1)) (r : RelL K κ ι1 H1 vs xs) (hn : H1 q = none) : Q (.ref q) (upd H1 q (.lst xs)) := by
  refine h ι1 _ m1.pre (m1.trans (HM.fresh hn)) (sr1.new hn) q xs (r.mono (List.prefix_refl _) (HM.fresh hn)) upd_same (sr1.notin hn) ?_
  cases e : H q with
  | none => rfl
  | some u =>
    by_cases z : q ∈ ι
    · exact absurd hn (sr1.on q (m1.pre.subset z))
    · exact absurd hn (m1.live z e)
theorem DN.lst {k : Nat} (c : Cl X k) (h : DA κ X es rs) : DN κ X (.List es pos) (aLst rs) := DN.mk c fun W tk => by
  obtain ⟨t, p, i⟩ := h W tk
  refine ⟨tLst t, pe_lst p, fun σ H Q ι ρ μ sr rl h => ?_⟩
  refine i σ H _ ι ρ μ sr rl (PG.bind0 h fun xs μ1 ι1 H1 p1 m1 sr1 h1 vs rv => ?_)
  by_cases hz : xs.length ≤ 16777216
  · rw [if_pos hz] at h1
    refine ⟨by rw [line16, ← rv.length]; exact hz, fun a hn => ?_⟩
    exact okNew sr sr1 m1 h1 rv hn
  · rw [if_neg hz] at h1
    exact False.elim h1
theorem HM.more {ι ι1 : List Addr} {H H1 : Hp} {a : Addr} (m : HM ι H ι1 H1) (h : H a = none) : HM ι H (ι1 ++ [a]) H1 :=
  ⟨m.pre.trans (List.prefix_append _ _), m.tup, m.frz, m.oth', fun b hb n => by
    rcases List.mem_append.mp hb with hb | hb
    · exact m.new b hb n
    · have e : b = a := by simpa using hb
      rw [e]
      exact h, m.tb⟩
def eNew (r : AA) : AE := fun ρ μ => (r ρ μ).bind fun xs μ1 => .ok (.loc μ1.length) (μ1 ++ [.lst xs])
theorem DN.new {r : AA} (h : DN κ X e r) : DE κ X e (eNew r) := fun W tk => by
  obtain ⟨t, p, i⟩ := h W tk
  refine ⟨t, p, fun σ H Q ι ρ μ sr rl h => ?_⟩
  refine i σ H _ ι ρ μ sr rl (PG.bind0 h fun xs μ1 ι1 H1 p1 m1 sr1 h1 a vs rv ea hn h0 hs => ?_)
  have h2 : SR X.K κ (ι1 ++ [a]) (μ1 ++ [.lst xs]) H1 := sr1.alloc ⟨vs, ea, rv⟩ hn (by rw [ea]; simp) (by rw [ea]; trivial)
  refine h1 (ι1 ++ [a]) H1 (p1.trans (List.prefix_append _ _)) (m1.more h0) h2 _ (.loc ?_)
  rw [← sr1.len]
  simp
def tFz (t : TE) : TE := fun σ H Q => t σ H fun x H1 => ∃ p vs, x = .ref p ∧ H1 p = some (.lst vs) ∧ ∀ o, Q x (upd H1 p (.frz o (.lst vs)))
theorem inv_frz {pins : List (Addr × Obj)} {σ : St} {H : Hp} {s : Shared} {p : Addr} {vs : List V} (I : Inv X pins σ H s) (h : H p = some (.lst vs)) : ∃ o, Inv X pins σ (upd H p (.frz o (.lst vs))) s := by
  have hk := I.hok p _ h
  obtain ⟨hz, its, n, r, e⟩ := id hk
  have ne : ∀ {b : Addr}, H b = none → b ≠ p := fun q z => by subst z; rw [h] at q; cases q
  have nt : ∀ {b : Addr} {u : HO}, H b = some u → (∀ xs, u ≠ .lst xs) → b ≠ p := fun q q2 z => by subst z; rw [h] at q; cases q; exact q2 _ rfl
  refine ⟨_, I.un (h' := s.heap) (t' := s.toks) (H' := upd H p (.frz { cls := .type "list", data := .seq its.toArray n } (.lst vs))) ⟨fun b o q _ _ _ => q, fun b o q _ _ _ => ⟨o.slots, q⟩, fun b o q n _ => by rw [upd_ne (ne n)]; exact n, fun b o q _ => ⟨o, q⟩, fun b xs q => by rw [upd_ne (nt q (fun _ => by simp))]; exact q, fun b o u q => by rw [upd_ne (nt q (fun _ => by simp))]; exact q, fun b ps q => ⟨#[], by rw [upd_ne (nt q (fun _ => by simp)), q]; simp⟩⟩ fun b u q => ?_⟩
  by_cases hb : b = p
  · subst hb
    rw [upd_same] at q
    cases q
    exact ⟨e, hz, its, n, r, e⟩
  · rw [upd_ne hb] at q
    exact (I.hok b u q).stay (fun c v _ z => z) (fun c z => by rw [upd_ne (nt z (fun _ => by simp))]; exact z) fun c xs z => by rw [upd_ne (nt z (fun _ => by simp))]; exact z
theorem pe_fz {e : Expr} {t : TE} (h : PE X e t) : PE X e (tFz t) := by
  refine ⟨fun pins s σ H Q I hw => ?_⟩
  refine thn (h.run pins s σ H _ I hw) fun v s1 ⟨x, H1, I1, r1, p, vs, ex, ep, q⟩ => ?_
  obtain ⟨o, I2⟩ := inv_frz I1 ep
  exact ⟨x, _, I2, r1, q o⟩
theorem HM.mine {ι ι1 : List Addr} {H H1 : Hp} {p : Addr} {u : HO} (m : HM ι H ι1 H1) (h : Mut (H1 p)) (h0 : H p = none ∨ p ∈ ι) : HM ι H ι1 (upd H1 p u) :=
  ⟨m.pre, fun b xs e => by rw [upd_ne (fun z => by subst z; rw [m.tup _ _ e] at h; exact h)]; exact m.tup _ _ e, fun b o v e => by rw [upd_ne (fun z => by subst z; rw [m.frz _ _ _ e] at h; exact h)]; exact m.frz _ _ _ e,
    fun b v n e hv => by
      rw [upd_ne (fun z => by
        subst z
        rcases h0 with h0 | h0
        · rw [e] at h0; cases h0
        · exact n h0)]
      exact m.oth' b v n e hv, m.new, fun b ps e => let ⟨qs, z⟩ := m.tb b ps e; ⟨qs, by rw [upd_ne (fun y => by subst y; rw [z] at h; exact h)]; exact z⟩⟩
def eDat (r : AA) : AE := fun ρ μ => (r ρ μ).bind fun xs μ1 => .ok (.lst xs) μ1
theorem SR.other {K : PySem.W.Frag} {ι : List Addr} {μ : Store} {H : Hp} {a : Addr} {u : HO} (sr : SR K κ ι μ H) (hm : HW H (upd H a u)) (hn : a ∉ ι) (he : NoE (H a)) : SR K κ ι μ (upd H a u) :=
  ⟨sr.len, sr.nd, fun b hb => by rw [upd_ne (show b ≠ a from fun z => by subst z; exact hn hb)]; exact sr.on b hb, fun b hb => by rw [upd_ne (show b ≠ a from fun z => by subst z; exact hn hb)]; exact sr.ne b hb, tabs_wr sr.tabs he, fun n q b h1 h2 => (sr.obj n q b h1 h2).mono (List.prefix_refl _) hm fun v e => by
    rw [upd_ne (show b ≠ a from fun z => by subst z; exact hn (List.mem_of_getElem? h2))]; exact e⟩
theorem DN.dat {r : AA} (h : DN κ X e r) : DE κ X e (eDat r) := fun W tk => by
  obtain ⟨t, p, i⟩ := h W tk
  refine ⟨_, pe_fz p, fun σ H Q ι ρ μ sr rl h => ?_⟩
  refine i σ H _ ι ρ μ sr rl (PG.bind0 h fun xs μ1 ι1 H1 p1 m1 sr1 h1 a vs rv ea hn h0 hs => ?_)
  refine ⟨a, vs, rfl, ea, fun o => ?_⟩
  have mu : Mut (H1 a) := by rw [ea]; trivial
  have w : HW H1 (upd H1 a (.frz o (.lst vs))) := (HM.mine (HM.refl (ι := [a]) H1) mu (.inr (by simp))).w
  exact h1 ι1 _ p1 (m1.mine mu (.inl h0)) (sr1.other w hn (by rw [ea]; trivial)) _ (.lst ⟨o, upd_same, hs⟩ (rv.monoW (List.prefix_refl _) w))
def eFrz (r : AE) : AE := fun ρ μ => (r ρ μ).bind fun v μ1 => match v with
  | .loc n => match μ1[n]? with
    | some (.lst xs) => .ok (.lst xs) (μ1.set n .dead)
    | _ => .bad
  | _ => .bad
theorem DE.frz {k : Nat} {r : AE} (c : Cl X k) (h : DE κ X e r) : DE κ X e (eFrz r) := fun W tk => by
  obtain ⟨t, p, i⟩ := h W tk
  refine ⟨_, pe_fz (low c p), fun σ H Q ι ρ μ sr rl h => ?_⟩
  refine i σ H _ ι ρ μ sr rl (PG.bind h fun v μ1 ι1 H1 p1 m1 sr1 h1 x rx hl => ?_)
  cases v with
  | loc n =>
    cases rx with
    | loc e1 =>
      rename_i a
      cases q : μ1[n]? with
      | none => simp only [q] at h1; exact False.elim h1
      | some o =>
        cases o with
        | lst xs =>
          simp only [q] at h1
          obtain ⟨vs, ea, rv⟩ := sr1.obj n _ a q e1
          refine ⟨a, vs, rfl, ea, fun o => ?_⟩
          have m2 : HM ι1 H1 ι1 (upd H1 a (.frz o (.lst vs))) := HM.wr (by rw [ea]; trivial) (List.mem_of_getElem? e1)
          exact h1 ι1 _ (List.prefix_refl _) m2 (sr1.write e1 (by rw [ea]; trivial) trivial) _ (.lst ⟨o, upd_same, hl _ _ ea⟩ (rv.mono (List.prefix_refl _) m2))
        | _ => simp only [q] at h1; exact False.elim h1
  | _ => exact False.elim h1
end
end Lr
set_option maxHeartbeats 4000000
namespace L2
open PySem PySem.Spec PyProof.Rows
theorem tuple_mul1 (l : Addr) (items : Array Value) (n : Nat) (dd : Option Addr) (sl : Array (Option Value)) (u : Tok) :
    Meets (Builtin.«tuple.__mul__» ⟨[.ref l, .int 1 u], []⟩) (fun _ R s => s.heap.get? l = some { cls := .type "tuple", dict := dd, data := .seq items n, slots := sl } ∧ R (.ok (.ret (.ref l))) s) :=
  .of_wp fun prog w A R s h => by
    obtain ⟨hp, g, d, tk, os⟩ := s
    obtain ⟨hl, h⟩ := h
    have f1 := AutoSeq1.idx_int
    wp_walk using wpAny_loadPart' hl
    repeat (first
      | (refine wpAny_ite_true (decide_eq_true (by rw [Bool.or_eq_true]; exact .inr rfl)) ?_; wp_walk using wpAny_loadPart' hl)
      | (refine wpAny_ite_false (decide_eq_false (by decide)) ?_; wp_walk using wpAny_loadPart' hl))
    exact ⟨_, rfl, h⟩
theorem tuple_mul0 (l : Addr) (items : Array Value) (n : Nat) (dd : Option Addr) (sl : Array (Option Value)) (u : Tok) (hi : items.isEmpty = false) :
    Meets (Builtin.«tuple.__mul__» ⟨[.ref l, .int 0 u], []⟩) (fun _ R s => s.heap.get? l = some { cls := .type "tuple", dict := dd, data := .seq items n, slots := sl } ∧
      R (.ok (.ret (Value.ref s.heap.objs.size))) { s with heap := s.heap.push { cls := Value.type "tuple", data := Data.seq #[] }, toks := s.toks }) :=
  .of_wp fun prog w A R s h => by
    obtain ⟨hp, g, d, tk, os⟩ := s
    obtain ⟨hl, h⟩ := h
    have f1 := AutoSeq1.idx_int
    wp_walk using wpAny_loadPart' hl
    repeat (first
      | (refine wpAny_ite_false (decide_eq_false (by rw [hi]; decide)) ?_; wp_walk using wpAny_loadPart' hl)
      | (refine wpAny_ite_true (decide_eq_true (by rfl)) ?_; wp_walk using wpAny_loadPart' hl)
      | (refine wpAny_ite_false (decide_eq_false (by decide)) ?_; wp_walk using wpAny_loadPart' hl))
    exact ⟨_, rfl, h⟩
theorem op_rep01 {X : Cx} : OpR X (binaryOp .Mult) (fun x y H Q => ∃ l k xs, x = V.ref l ∧ y = V.int k ∧ SqT X.K H l xs ∧ xs ≠ [] ∧ ((k = 1 ∧ Q x H) ∨ (k = 0 ∧ ∀ p, H p = none → Q (.ref p) (upd H p (.tup []))))) := by
  intro pins s σ H x y v u Q I rx ry h
  obtain ⟨l, k, xs, rfl, rfl, hT, hne, q⟩ := h
  cases rx
  obtain ⟨t, rfl⟩ := ry
  obtain ⟨its, r, ⟨⟨cls, dd, data, sl⟩, ho, hc, n, hd⟩, hs⟩ := I.tuple hT
  simp only at hc hd
  subst hc hd
  have hle : its.length = xs.length := r.length.symm
  have hi : its.toArray.isEmpty = false := by
    cases its with
    | nil => exact absurd (List.eq_nil_of_length_eq_zero hle.symm) hne
    | cons a b => rfl
  rcases q with ⟨rfl, q⟩ | ⟨rfl, q⟩
  · refine wpAny_binaryOp_repeat_ref (T := "tuple") (U := "int") (by decide) ⟨_, ho, rfl⟩ (fun s' => typeIs_int s' 1 t) noFill_tuple_mul F.fills_int_mul F.slot_int_rmul repeat_tuple F.slot_int_index.lookup
      (call_meets F.slot_int_rmul (typeIs_int s 1 t) F.entry_int_rmul (F.args_int_rmul_2 _ _) (int_rmul_tuple 1 t l its.toArray n dd sl)
        ⟨ho, rfl, ⟨_, ho, rfl⟩, call_meets F.slot_tuple_mul ⟨_, ho, rfl⟩ F.entry_tuple_mul (F.args_tuple_mul_2 _ _) (tuple_mul1 l its.toArray n dd sl t) ⟨ho, ?_⟩⟩)
    exact ⟨.ref l, H, I, rfl, q⟩
  · refine wpAny_binaryOp_repeat_ref (T := "tuple") (U := "int") (by decide) ⟨_, ho, rfl⟩ (fun s' => typeIs_int s' 0 t) noFill_tuple_mul F.fills_int_mul F.slot_int_rmul repeat_tuple F.slot_int_index.lookup
      (call_meets F.slot_int_rmul (typeIs_int s 0 t) F.entry_int_rmul (F.args_int_rmul_2 _ _) (int_rmul_tuple 0 t l its.toArray n dd sl)
        ⟨ho, rfl, ⟨_, ho, rfl⟩, call_meets F.slot_tuple_mul ⟨_, ho, rfl⟩ F.entry_tuple_mul (F.args_tuple_mul_2 _ _) (tuple_mul0 l its.toArray n dd sl t hi) ⟨ho, ?_⟩⟩)
    refine ⟨.ref s.heap.objs.size, _, I.laid (t' := s.toks) (o := .tup []) (fun b ob q => Heap.get?_push_of_some _ q) (Nat.le_refl _) ?_, rfl, q _ (I.hok.fresh (Nat.le_refl _))⟩
    exact ⟨Nat.zero_le _, [], .nil, IsTup.new _ _⟩
end L2
set_option maxHeartbeats 200000
namespace Lr
open PySem PySem.Spec L2
open PyProof.Rows hiding St
abbrev G2 := AV → AV → Store → Res AV
def rA (K : PySem.W.Frag) (κ : Kap) (W : WX) (g : G2) : R2 := fun x y H Q => ∃ (σ : St) (ι : List Addr) (μ : Store) (a b : AV), SR K κ ι μ H ∧ Rel K κ ι H a x ∧ Rel K κ ι H b y ∧ PG K κ W σ ι H (CV K κ Q) (g a b μ)
def OpA (κ : Kap) (X : Cx) (f : Value → Value → Sem Value) (g : G2) : Prop := ∀ W, Takes X W → OpR X f (rA X.K κ W g)
def eOp (g : G2) (a b : AE) : AE := fun ρ μ => (a ρ μ).bind fun x μ1 => (b ρ μ1).bind fun y μ2 => g x y μ2
section
variable {κ : Kap} {X : Cx} {a b e : Expr} {ra rb r : AE} {pos : Pos} {g : G2}
theorem im_op {K : PySem.W.Frag} {W : WX} {ta tb : TE} (ia : ImE K κ W ta ra) (ib : ImE K κ W tb rb) : ImE K κ W (tOp (rA K κ W g) ta tb) (eOp g ra rb) := fun σ H Q ι ρ μ sr rl h => by
  refine ia σ H _ ι ρ μ sr rl (PG.bind h fun x μ1 ι1 H1 p1 m1 sr1 h1 v rv => ?_)
  refine ib σ H1 _ ι1 ρ μ1 sr1 (rl.mono p1 m1) (PG.bind h1 fun y μ2 ι2 H2 p2 m2 sr2 h2 u ru => ?_)
  exact ⟨σ, ι2, μ2, x, y, sr2, rv.mono p2 m2, ru, h2⟩
theorem DE.op {op : Operator} (ho : OpA κ X (binaryOp op) g) (ha : DE κ X a ra) (hb : DE κ X b rb) : DE κ X (.BinOp a op b pos) (eOp g ra rb) := fun W tk => by
  obtain ⟨ta, pa, ia⟩ := ha W tk
  obtain ⟨tb, pb, ib⟩ := hb W tk
  exact ⟨_, pe_op (ho W tk) pa pb, im_op ia ib⟩
theorem DE.cmp {op : CmpOp} (ho : OpA κ X (compareOp op) g) (ha : DE κ X a ra) (hb : DE κ X b rb) (hm : behindInMarks op b = false := by first | exact nomark _ | rfl) : DE κ X (.Compare a [op] [b] pos) (eOp g ra rb) := fun W tk => by
  obtain ⟨ta, pa, ia⟩ := ha W tk
  obtain ⟨tb, pb, ib⟩ := hb W tk
  exact ⟨_, pe_cmpR (ho W tk) pa pb hm, im_op ia ib⟩
theorem ok1 {K : PySem.W.Frag} {W : WX} {σ : St} {ι : List Addr} {H : Hp} {Q : VK} {v : AV} {x : V} {μ : Store} (sr : SR K κ ι μ H) (h : PG K κ W σ ι H (CV K κ Q) (.ok v μ)) (r : Rel K κ ι H v x) : Q x H :=
  h ι H (List.prefix_refl _) (HM.refl _) sr x r
theorem okT {K : PySem.W.Frag} {W : WX} {σ : St} {ι : List Addr} {H : Hp} {Q : VK} {vs : List AV} {xs : List V} {μ : Store} {p : Addr} (sr : SR K κ ι μ H) (h : PG K κ W σ ι H (CV K κ Q) (.ok (.tup vs) μ)) (r : RelL K κ ι H vs xs) (hn : H p = none) : Q (.ref p) (upd H p (.tup xs)) :=
  h ι _ (List.prefix_refl _) (HM.fresh hn) (sr.new hn) _ (.tup (.inl (.inl upd_same)) (r.mono (List.prefix_refl _) (HM.fresh hn)))
def gAdd : G2 := fun x y μ => match x, y with
  | .int i, .int j => .ok (.int (i + j)) μ
  | .bl b, .int j => .ok (.int ((if b then 1 else 0) + j)) μ
  | .str a, .str b => if a.length + b.length ≤ 16777216 then .ok (.str (a ++ b)) μ else .bad
  | .tup xs, .tup ys => if xs.length + ys.length ≤ 16777216 then .ok (.tup (xs ++ ys)) μ else .bad
  | _, _ => .bad
theorem op_gAdd : OpA κ X (binaryOp .Add) gAdd := fun W tk pins s σ H x y v u Q I rx ry hh => by
  obtain ⟨σ0, ι, μ, a, b, sr, ra, rb, h⟩ := hh
  cases a <;> cases b <;> first | exact False.elim h | skip
  · cases ra; cases rb
    obtain ⟨t, rfl⟩ := ry
    cases rx
    exact IntBool.add_bool_int ⟨.int _, H, I.tok _, ⟨_, rfl⟩, ok1 sr h (.int _)⟩
  · cases ra; cases rb
    exact op_add pins s σ H _ _ v u Q I rx ry ⟨_, _, rfl, rfl, ok1 sr h (.int _)⟩
  · cases ra; cases rb
    rename_i a b
    by_cases hz : a.length + b.length ≤ 16777216
    · simp only [gAdd, if_pos hz] at h
      exact op_add_str pins s σ H _ _ v u Q I rx ry ⟨_, _, rfl, rfl, by rw [line16]; exact hz, ok1 sr h (.str _)⟩
    · simp only [gAdd, if_neg hz] at h
      exact False.elim h
  · rename_i as bs
    cases ra with
    | tup h1 r1 =>
      cases rb with
      | tup h2 r2 =>
        rename_i a1 vs1 a2 vs2
        by_cases hz : as.length + bs.length ≤ 16777216
        · simp only [gAdd, if_pos hz] at h
          refine op_catA pins s σ H _ _ v u Q I rx ry ⟨_, _, _, _, rfl, rfl, h1, h2, by rw [line16, ← r1.length, ← r2.length]; exact hz, fun e => ?_, fun _ e => ?_, fun _ _ p hn => ?_⟩
          · subst e
            cases r1
            exact ok1 sr h (.tup h2 r2)
          · subst e
            cases r2
            rw [List.append_nil] at h
            exact ok1 sr h (.tup h1 r1)
          · exact okT sr h (r1.append r2) hn
        · simp only [gAdd, if_neg hz] at h
          exact False.elim h
def gSub : G2 := fun x y μ => match x, y with
  | .int i, .int j => .ok (.int (i - j)) μ
  | .bl b, .int j => .ok (.int ((if b then 1 else 0) - j)) μ
  | _, _ => .bad
theorem op_gSub : OpA κ X (binaryOp .Sub) gSub := fun W tk pins s σ H x y v u Q I rx ry hh => by
  obtain ⟨σ0, ι, μ, a, b, sr, ra, rb, h⟩ := hh
  cases a <;> cases b <;> first | exact False.elim h | skip
  · cases ra; cases rb
    obtain ⟨t, rfl⟩ := ry
    cases rx
    exact IntBool.sub_bool_int ⟨.int _, H, I.tok _, ⟨_, rfl⟩, ok1 sr h (.int _)⟩
  cases ra; cases rb
  exact op_sub pins s σ H _ _ v u Q I rx ry ⟨_, _, rfl, rfl, ok1 sr h (.int _)⟩
def mulOk (i j : Int) : Bool := decide (i.natAbs < 2 ^ 64) || decide (j.natAbs < 2 ^ 64) || (decide (i.natAbs < 2 ^ 4000) && decide (j.natAbs < 2 ^ 4000))
theorem mulOk_ok {i j : Int} (h : mulOk i j = true) : IntMulOk i j := by
  unfold mulOk at h
  simp only [Bool.or_eq_true, Bool.and_eq_true, decide_eq_true_eq] at h
  rcases h with (h | h) | ⟨h1, h2⟩
  · exact .of_left (intBits_le_64 (by omega) (by omega))
  · exact .of_right (intBits_le_64 (by omega) (by omega))
  · exact (wide_mul h1 h2 (by decide) (by decide) (by decide)).ok
def gMul : G2 := fun x y μ => match x, y with
  | .int i, .int j => if mulOk i j then .ok (.int (i * j)) μ else .bad
  | .tup xs, .int k => if !xs.isEmpty && decide (0 ≤ k) && decide (k ≤ 1000) && decide (xs.length ≤ 1000) then .ok (.tup (List.replicate k.toNat xs).flatten) μ else .bad
  | _, _ => .bad
theorem RelL.rep {K : PySem.W.Frag} {ι : List Addr} {H : Hp} {xs : List AV} {vs : List V} (r : RelL K κ ι H xs vs) : ∀ k : Nat, RelL K κ ι H (List.replicate k xs).flatten (List.replicate k vs).flatten
  | 0 => .nil
  | k + 1 => by
    rw [List.replicate_succ, List.replicate_succ, List.flatten_cons, List.flatten_cons]
    exact r.append (RelL.rep r k)
theorem op_gMul : OpA κ X (binaryOp .Mult) gMul := fun W tk pins s σ H x y v u Q I rx ry hh => by
  obtain ⟨σ0, ι, μ, a, b, sr, ra, rb, h⟩ := hh
  cases a <;> cases b <;> first | exact False.elim h | skip
  · cases ra; cases rb
    rename_i i j
    by_cases hz : mulOk i j = true
    · simp only [gMul, if_pos hz] at h
      obtain ⟨t, rfl⟩ := rx
      obtain ⟨t', rfl⟩ := ry
      exact mul_int ⟨.int _, H, I.tok _, ⟨_, rfl⟩, ok1 sr h (.int _)⟩ (mulOk_ok hz)
    · simp only [gMul, if_neg hz] at h
      exact False.elim h
  · rename_i as k
    cases rb
    cases ra with
    | tup h1 r1 =>
      rename_i a1 vs1
      by_cases hz : (!as.isEmpty && decide (0 ≤ k) && decide (k ≤ 1000) && decide (as.length ≤ 1000)) = true
      · simp only [gMul, if_pos hz] at h
        simp only [Bool.and_eq_true, decide_eq_true_eq, Bool.not_eq_true'] at hz
        obtain ⟨⟨⟨z1, z2⟩, z3⟩, z4⟩ := hz
        have hne : vs1 ≠ [] := fun e => by
          subst e
          cases r1
          cases z1
        by_cases k2 : 2 ≤ k
        · exact op_repT pins s σ H _ _ v u Q I rx ry ⟨_, _, _, rfl, rfl, h1, hne, k2, z3, by rw [← r1.length]; exact z4, fun p hn => okT sr h (r1.rep _) hn⟩
        · refine op_rep01 pins s σ H _ _ v u Q I rx ry ⟨_, _, _, rfl, rfl, h1, hne, ?_⟩
          have hk : k = 1 ∨ k = 0 := by omega
          rcases hk with rfl | rfl
          · refine .inl ⟨rfl, ok1 sr h ?_⟩
            have e1 : (List.replicate (Int.toNat 1) as).flatten = as := by simp
            rw [e1]
            exact .tup h1 r1
          · exact .inr ⟨rfl, fun p hn => okT sr h .nil hn⟩
      · simp only [gMul, if_neg hz] at h
        exact False.elim h
def gDiv : G2 := fun x y μ => match x, y with
  | .int i, .int j => if decide (0 < j) && decide (j.natAbs < 2 ^ 4000) then .ok (.int (i / j)) μ else .bad
  | _, _ => .bad
theorem op_gDiv : OpA κ X (binaryOp .FloorDiv) gDiv := fun W tk pins s σ H x y v u Q I rx ry hh => by
  obtain ⟨σ0, ι, μ, a, b, sr, ra, rb, h⟩ := hh
  cases a <;> cases b <;> first | exact False.elim h | skip
  cases ra; cases rb
  rename_i i j
  by_cases hz : (decide (0 < j) && decide (j.natAbs < 2 ^ 4000)) = true
  · simp only [gDiv, if_pos hz] at h
    simp only [Bool.and_eq_true, decide_eq_true_eq] at hz
    exact op_fdivW pins s σ H _ _ v u Q I rx ry ⟨_, _, rfl, rfl, wide_div hz.1 hz.2 (by decide) (by decide), ok1 sr h (.int _)⟩
  · simp only [gDiv, if_neg hz] at h
    exact False.elim h
def gMod : G2 := fun x y μ => match x, y with
  | .int i, .int j => if decide (0 < j) then .ok (.int (i % j)) μ else .bad
  | _, _ => .bad
theorem op_gMod : OpA κ X (binaryOp .Mod) gMod := fun W tk pins s σ H x y v u Q I rx ry hh => by
  obtain ⟨σ0, ι, μ, a, b, sr, ra, rb, h⟩ := hh
  cases a <;> cases b <;> first | exact False.elim h | skip
  cases ra; cases rb
  rename_i i j
  by_cases hz : decide (0 < j) = true
  · simp only [gMod, if_pos hz] at h
    exact op_mod pins s σ H _ _ v u Q I rx ry ⟨_, _, rfl, rfl, of_decide_eq_true hz, ok1 sr h (.int _)⟩
  · simp only [gMod, if_neg hz] at h
    exact False.elim h
def gPow : G2 := fun x y μ => match x, y with
  | .int i, .int j => if decide (0 ≤ j) && decide (j ≤ 1000) && decide (i.natAbs < 2 ^ 64) then .ok (.int (i ^ j.toNat)) μ else .bad
  | _, _ => .bad
theorem op_gPow : OpA κ X (binaryOp .Pow) gPow := fun W tk pins s σ H x y v u Q I rx ry hh => by
  obtain ⟨σ0, ι, μ, a, b, sr, ra, rb, h⟩ := hh
  cases a <;> cases b <;> first | exact False.elim h | skip
  cases ra; cases rb
  rename_i i j
  by_cases hz : (decide (0 ≤ j) && decide (j ≤ 1000) && decide (i.natAbs < 2 ^ 64)) = true
  · simp only [gPow, if_pos hz] at h
    simp only [Bool.and_eq_true, decide_eq_true_eq] at hz
    exact op_pow pins s σ H _ _ v u Q I rx ry ⟨_, _, rfl, rfl, ⟨hz.1.1, by omega, hz.2⟩, ok1 sr h (.int _)⟩
  · simp only [gPow, if_neg hz] at h
    exact False.elim h
def gLt : G2 := fun x y μ => match x, y with
  | .int i, .int j => .ok (.bl (decide (i < j))) μ
  | _, _ => .bad
def gLe : G2 := fun x y μ => match x, y with
  | .int i, .int j => .ok (.bl (decide (i ≤ j))) μ
  | _, _ => .bad
def gGt : G2 := fun x y μ => match x, y with
  | .int i, .int j => .ok (.bl (decide (j < i))) μ
  | _, _ => .bad
def gGe : G2 := fun x y μ => match x, y with
  | .int i, .int j => .ok (.bl (decide (j ≤ i))) μ
  | _, _ => .bad
theorem op_gLt : OpA κ X (compareOp .Lt) gLt := fun W tk pins s σ H x y v u Q I rx ry hh => by
  obtain ⟨σ0, ι, μ, a, b, sr, ra, rb, h⟩ := hh
  cases a <;> cases b <;> first | exact False.elim h | skip
  cases ra; cases rb
  exact op_lt pins s σ H _ _ v u Q I rx ry ⟨_, _, rfl, rfl, ok1 sr h (.bl _)⟩
theorem op_gLe : OpA κ X (compareOp .LtE) gLe := fun W tk pins s σ H x y v u Q I rx ry hh => by
  obtain ⟨σ0, ι, μ, a, b, sr, ra, rb, h⟩ := hh
  cases a <;> cases b <;> first | exact False.elim h | skip
  cases ra; cases rb
  exact op_le pins s σ H _ _ v u Q I rx ry ⟨_, _, rfl, rfl, ok1 sr h (.bl _)⟩
theorem op_gGt : OpA κ X (compareOp .Gt) gGt := fun W tk pins s σ H x y v u Q I rx ry hh => by
  obtain ⟨σ0, ι, μ, a, b, sr, ra, rb, h⟩ := hh
  cases a <;> cases b <;> first | exact False.elim h | skip
  cases ra; cases rb
  exact op_gt pins s σ H _ _ v u Q I rx ry ⟨_, _, rfl, rfl, ok1 sr h (.bl _)⟩
theorem op_gGe : OpA κ X (compareOp .GtE) gGe := fun W tk pins s σ H x y v u Q I rx ry hh => by
  obtain ⟨σ0, ι, μ, a, b, sr, ra, rb, h⟩ := hh
  cases a <;> cases b <;> first | exact False.elim h | skip
  cases ra; cases rb
  exact op_ge pins s σ H _ _ v u Q I rx ry ⟨_, _, rfl, rfl, ok1 sr h (.bl _)⟩
def isNon : AV → Bool
  | .non => true
  | _ => false
def gIsNot : G2 := fun x y μ => match y with
  | .non => .ok (.bl (!isNon x)) μ
  | _ => .bad
theorem non_rel {K : PySem.W.Frag} {ι : List Addr} {H : Hp} {a : AV} {x : V} (r : Rel K κ ι H a x) : decide (x = .non) = isNon a := by
  cases r <;> rfl
theorem op_gIsNot : OpA κ X (compareOp .IsNot) gIsNot := fun W tk pins s σ H x y v u Q I rx ry hh => by
  obtain ⟨σ0, ι, μ, a, b, sr, ra, rb, h⟩ := hh
  cases b <;> first | exact False.elim h | skip
  cases rb
  exact op_notN pins s σ H _ _ v u Q I rx ry ⟨rfl, by rw [non_rel ra]; exact ok1 sr h (.bl _)⟩
theorem gives_neg_bool (b : Bool) : Gives (Builtin.«int.__neg__» ⟨[.bool b], []⟩) (.int (-(if b = true then (1 : Int) else 0))) := .of_eq rfl
theorem neg_bool {prog : Program} {w : World} {A : Around} {E : Value → Shared → Prop} {s : Shared} {b : Bool} {Q : Value → Shared → Prop} (h : Q (.int (-(if b = true then (1 : Int) else 0)) s.toks) { s with toks := s.toks + 1 }) : wpAny (model prog w) A (unaryOp .USub (.bool b)) Q E s :=
  unaryOp_gives (op := .USub) (T := "bool") rfl rfl F.slot_bool_neg F.entry_int_neg (F.args_int_neg_1 _) (gives_neg_bool b) h
theorem un_negB : UnR X (unaryOp .USub) (fun x H Q => (∃ i, x = .int i ∧ Q (.int (-i)) H) ∨ ∃ b : Bool, x = .bl b ∧ Q (.int (-(if b = true then (1 : Int) else 0))) H) := by
  intro pins s σ H x v Q I rx h
  rcases h with ⟨i, rfl, q⟩ | ⟨b, rfl, q⟩
  · obtain ⟨t, rfl⟩ := rx
    exact neg_int ⟨.int _, H, I.tok _, ⟨_, rfl⟩, q⟩
  · cases rx
    exact neg_bool ⟨.int _, H, I.tok _, ⟨_, rfl⟩, q⟩
def eNeg (a : AE) : AE := fun ρ μ => (a ρ μ).bind fun x μ1 => match x with
  | .int i => .ok (.int (-i)) μ1
  | .bl b => .ok (.int (-(if b then 1 else 0))) μ1
  | _ => .bad
theorem DE.neg (ha : DE κ X a ra) : DE κ X (.UnaryOp .USub a pos) (eNeg ra) := fun W tk => by
  obtain ⟨ta, pa, ia⟩ := ha W tk
  refine ⟨_, pe_un un_negB pa, fun σ H Q ι ρ μ sr rl h => ?_⟩
  refine ia σ H _ ι ρ μ sr rl (PG.bind h fun x μ1 ι1 H1 p1 m1 sr1 h1 v rv => ?_)
  cases x <;> first | exact False.elim h1 | skip
  · cases rv
    exact .inr ⟨_, rfl, ok1 sr1 h1 (.int _)⟩
  · cases rv
    exact .inl ⟨_, rfl, ok1 sr1 h1 (.int _)⟩
end
end Lr
namespace Lr
open PySem PySem.Spec L2
open PyProof.Rows hiding St
mutual
def dep : AV → Nat
  | .tup xs => depL xs + 1
  | .lst xs => depL xs + 1
  | .dct kvs => depD kvs + 1
  | _ => 0
def depL : List AV → Nat
  | [] => 0
  | x :: xs => max (dep x) (depL xs)
def depD : List (AV × AV) → Nat
  | [] => 0
  | (x, y) :: xs => max (max (dep x) (dep y)) (depD xs)
end
mutual
def eqv : AV → AV → Option Bool
  | .non, .non => some true
  | .bl a, .bl b => some (a == b)
  | .bl a, .int j => some ((if a then 1 else 0) == j)
  | .int i, .bl b => some (i == (if b then 1 else 0))
  | .int i, .int j => some (i == j)
  | .str x, .str y => some (x == y)
  | .tup xs, .tup ys => eqvL xs ys
  | .lst xs, .lst ys => if xs.length = ys.length then eqvL xs ys else some false
  | .non, .bl _ => some false | .non, .int _ => some false | .non, .str _ => some false | .non, .tup _ => some false | .non, .lst _ => some false
  | .bl _, .non => some false | .bl _, .str _ => some false | .bl _, .tup _ => some false | .bl _, .lst _ => some false
  | .int _, .non => some false | .int _, .str _ => some false | .int _, .tup _ => some false | .int _, .lst _ => some false
  | .str _, .non => some false | .str _, .bl _ => some false | .str _, .int _ => some false | .str _, .tup _ => some false | .str _, .lst _ => some false
  | .tup _, .non => some false | .tup _, .bl _ => some false | .tup _, .int _ => some false | .tup _, .str _ => some false | .tup _, .lst _ => some false
  | .lst _, .non => some false | .lst _, .bl _ => some false | .lst _, .int _ => some false | .lst _, .str _ => some false | .lst _, .tup _ => some false
  | _, _ => none
def eqvL : List AV → List AV → Option Bool
  | [], [] => some true
  | [], _ :: _ => some false
  | _ :: _, [] => some false
  | x :: xs, y :: ys => match eqv x y, eqvL xs ys with
    | some a, some b => some (a && b)
    | _, _ => none
end
section
variable {κ : Kap} {X : Cx} {pins : List (Addr × Obj)} {σ : St} {H : Hp} {s : Shared} {ι : List Addr}
mutual
theorem rel_same (I : Inv X pins σ H s) : ∀ (a b : AV) (x : V) (r : Bool), Rel X.K κ ι H a x → Rel X.K κ ι H b x → eqv a b = some r → r = true
  | .non, b, x, r, h, g, e => by
    cases h; cases g
    simpa [eqv] using e.symm
  | .bl p, b, x, r, h, g, e => by
    cases h; cases g
    simpa [eqv] using e.symm
  | .int p, b, x, r, h, g, e => by
    cases h; cases g
    simpa [eqv] using e.symm
  | .str p, b, x, r, h, g, e => by
    cases h; cases g
    simpa [eqv] using e.symm
  | .tup xs, b, x, r, h, g, e => by
    cases b <;> first | (simp only [eqv] at e; cases e; done) | skip
    all_goals first | (cases h; cases g; done) | skip
    · rename_i ys
      cases h with
      | tup h1 r1 =>
        cases g with
        | tup h2 r2 =>
          have ev := I.tuple_inj h1 h2
          subst ev
          exact rel_sameL I xs ys _ r r1 r2 (by simpa [eqv] using e)
    · rename_i ys
      cases h with
      | tup h1 r1 =>
        cases g with
        | lst h2 r2 =>
          obtain ⟨_, _, ⟨o1, g1, c1, _⟩, _⟩ := I.tuple h1
          obtain ⟨_, _, ⟨o2, n2, g2, c2, _⟩, _⟩ := I.list h2.sq
          rw [g1] at g2
          cases g2
          rw [c1] at c2
          injection c2 with q
          exact absurd q (by decide)
  | .lst xs, b, x, r, h, g, e => by
    cases b <;> first | (simp only [eqv] at e; cases e; done) | skip
    all_goals first | (cases h; cases g; done) | skip
    · rename_i ys
      cases h with
      | lst h1 r1 =>
        cases g with
        | tup h2 r2 =>
          obtain ⟨_, _, ⟨o1, g1, c1, _⟩, _⟩ := I.tuple h2
          obtain ⟨_, _, ⟨o2, n2, g2, c2, _⟩, _⟩ := I.list h1.sq
          rw [g1] at g2
          cases g2
          rw [c1] at c2
          injection c2 with q
          exact absurd q (by decide)
    · rename_i ys
      cases h with
      | lst h1 r1 =>
        cases g with
        | lst h2 r2 =>
          have ev := I.list_inj h1.sq h2.sq
          subst ev
          have el : xs.length = ys.length := r1.length.trans r2.length.symm
          rw [eqv, if_pos el] at e
          exact rel_sameL I xs ys _ r r1 r2 e
  | .dct _, b, _, _, _, _, e => by cases b <;> (simp only [eqv] at e; cases e)
  | .loc _, b, _, _, _, _, e => by cases b <;> (simp only [eqv] at e; cases e)
  | .obj _, b, _, _, _, _, e => by cases b <;> (simp only [eqv] at e; cases e)
  | .scr _, b, _, _, _, _, e => by cases b <;> (simp only [eqv] at e; cases e)
  | .ty _, b, _, _, _, _, e => by cases b <;> (simp only [eqv] at e; cases e)
theorem rel_sameL (I : Inv X pins σ H s) : ∀ (as bs : List AV) (xs : List V) (r : Bool), RelL X.K κ ι H as xs → RelL X.K κ ι H bs xs → eqvL as bs = some r → r = true
  | [], bs, xs, r, h, g, e => by
    cases h; cases g
    simpa [eqvL] using e.symm
  | a :: as, bs, xs, r, h, g, e => by
    cases h with
    | cons h1 h2 =>
      cases g with
      | cons g1 g2 =>
        rename_i b bs'
        unfold eqvL at e
        cases q1 : eqv a b with
        | none => rw [q1] at e; cases e
        | some r1 =>
          cases q2 : eqvL as bs' with
          | none => rw [q1, q2] at e; cases e
          | some r2 =>
            rw [q1, q2] at e
            cases e
            rw [rel_same I a b _ r1 h1 g1 q1, rel_sameL I as bs' _ r2 h2 g2 q2]
            rfl
end
theorem all_eqvL : ∀ {as bs : List AV} {r : Bool}, eqvL as bs = some r → ∃ f : Nat → Bool, (∀ (j : Nat) (a b : AV), as[j]? = some a → bs[j]? = some b → eqv a b = some (f j)) ∧ r = ((List.range (min as.length bs.length)).all f && as.length == bs.length)
  | [], [], r, e => ⟨fun _ => true, fun j a b h => by simp at h, by simpa [eqvL] using e.symm⟩
  | [], _ :: _, r, e => ⟨fun _ => true, fun j a b h => by simp at h, by simpa [eqvL] using e.symm⟩
  | _ :: _, [], r, e => ⟨fun _ => true, fun j a b _ h => by simp at h, by simpa [eqvL] using e.symm⟩
  | x :: xs, y :: ys, r, e => by
    unfold eqvL at e
    cases q1 : eqv x y with
    | none => rw [q1] at e; cases e
    | some r1 =>
      cases q2 : eqvL xs ys with
      | none => rw [q1, q2] at e; cases e
      | some r2 =>
        rw [q1, q2] at e
        cases e
        obtain ⟨f, h1, h2⟩ := all_eqvL q2
        refine ⟨fun j => match j with | 0 => r1 | j + 1 => f j, fun j a b ha hb => ?_, ?_⟩
        · cases j with
          | zero => simp at ha hb; subst ha hb; exact q1
          | succ j => exact h1 j a b (by simpa using ha) (by simpa using hb)
        · rw [h2, List.length_cons, List.length_cons, show min (xs.length + 1) (ys.length + 1) = min xs.length ys.length + 1 by omega, List.range_succ_eq_map, List.all_cons, List.all_map, Bool.and_assoc]
          have : (xs.length + 1 == ys.length + 1) = (xs.length == ys.length) := by simp
          rw [this]
          rfl
theorem depL_get : ∀ {xs : List AV} {j : Nat} {a : AV}, xs[j]? = some a → dep a ≤ depL xs
  | [], _, _, h => by simp at h
  | x :: xs, 0, a, h => by
    simp at h; subst h
    unfold depL
    exact Nat.le_max_left _ _
  | x :: xs, j + 1, a, h => by
    unfold depL
    exact Nat.le_trans (depL_get (j := j) (by simpa using h)) (Nat.le_max_right _ _)
theorem eqAt_rel (I : Inv X pins σ H s) : ∀ (n : Nat) (a b : AV) (x y : V) (u w : Value) (r : Bool) (A : Around), min (dep a) (dep b) ≤ n → Rel X.K κ ι H a x → Rel X.K κ ι H b y → RelV x u → RelV y w → eqv a b = some r → A.units + n < cLine → SeqAt.EqAt A s u w r
  | n, .non, b, x, y, u, w, r, A, hn, h, g, ru, rw', e, hu => by
    cases h; cases ru
    cases b <;> first | (simp only [eqv] at e; cases e; done) | skip
    all_goals simp only [eqv, Option.some.injEq] at e; subst e
    · cases g; cases rw'; exact SeqAt.EqAt.same _
    · cases g; cases rw'; exact SeqAt.EqAt.none_bool _
    · cases g; obtain ⟨t, rfl⟩ := rw'; exact SeqAt.EqAt.none_int _ t
    · cases g; obtain ⟨t, rfl⟩ := rw'; exact SeqAt.EqAt.none_str _ t
    · cases g with
      | tup h2 r2 => cases rw'; obtain ⟨_, _, p, _⟩ := I.tuple h2; exact SeqAt.EqAt.none_tuple p (by omega)
    · cases g with
      | lst h2 r2 => cases rw'; obtain ⟨_, _, p, _⟩ := I.list h2.sq; exact SeqAt.EqAt.none_list p.isList (by omega)
  | n, .bl k, b, x, y, u, w, r, A, hn, h, g, ru, rw', e, hu => by
    cases h; cases ru
    cases b <;> first | (simp only [eqv] at e; cases e; done) | skip
    all_goals simp only [eqv, Option.some.injEq] at e; subst e
    · cases g; cases rw'; exact SeqAt.EqAt.bool_none _
    · cases g; cases rw'; exact SeqAt.EqAt.bool_bool _ _
    · cases g; obtain ⟨t, rfl⟩ := rw'; exact SeqAt.EqAt.bool_int _ _ t
    · cases g; obtain ⟨t, rfl⟩ := rw'; exact SeqAt.EqAt.bool_str _ _ t
    · cases g with
      | tup h2 r2 => cases rw'; obtain ⟨_, _, p, _⟩ := I.tuple h2; exact SeqAt.EqAt.bool_tuple _ p (by omega)
    · cases g with
      | lst h2 r2 => cases rw'; obtain ⟨_, _, p, _⟩ := I.list h2.sq; exact SeqAt.EqAt.bool_list _ p.isList (by omega)
  | n, .int k, b, x, y, u, w, r, A, hn, h, g, ru, rw', e, hu => by
    cases h; obtain ⟨t0, rfl⟩ := ru
    cases b <;> first | (simp only [eqv] at e; cases e; done) | skip
    all_goals simp only [eqv, Option.some.injEq] at e; subst e
    · cases g; cases rw'; exact SeqAt.EqAt.int_none _ t0
    · cases g; cases rw'; exact SeqAt.EqAt.int_bool _ t0 _
    · cases g; obtain ⟨t, rfl⟩ := rw'; exact SeqAt.EqAt.int_int _ t0 _ t
    · cases g; obtain ⟨t, rfl⟩ := rw'; exact SeqAt.EqAt.int_str _ t0 _ t
    · cases g with
      | tup h2 r2 => cases rw'; obtain ⟨_, _, p, _⟩ := I.tuple h2; exact SeqAt.EqAt.int_tuple _ t0 p (by omega)
    · cases g with
      | lst h2 r2 => cases rw'; obtain ⟨_, _, p, _⟩ := I.list h2.sq; exact SeqAt.EqAt.int_list _ t0 p.isList (by omega)
  | n, .str k, b, x, y, u, w, r, A, hn, h, g, ru, rw', e, hu => by
    cases h; obtain ⟨t0, rfl⟩ := ru
    cases b <;> first | (simp only [eqv] at e; cases e; done) | skip
    all_goals simp only [eqv, Option.some.injEq] at e; subst e
    · cases g; cases rw'; exact SeqAt.EqAt.str_none _ t0
    · cases g; cases rw'; exact SeqAt.EqAt.str_bool _ t0 _
    · cases g; obtain ⟨t, rfl⟩ := rw'; exact SeqAt.EqAt.str_int _ t0 _ t
    · cases g; obtain ⟨t, rfl⟩ := rw'; exact SeqAt.EqAt.str_str _ t0 _ t
    · cases g with
      | tup h2 r2 => cases rw'; obtain ⟨_, _, p, _⟩ := I.tuple h2; exact SeqAt.EqAt.str_tuple _ t0 p (by omega)
    · cases g with
      | lst h2 r2 => cases rw'; obtain ⟨_, _, p, _⟩ := I.list h2.sq; exact SeqAt.EqAt.str_list _ t0 p.isList (by omega)
  | n, .tup xs, b, x, y, u, w, r, A, hn, h, g, ru, rw', e, hu => by
    have e0 := e
    have h0 := h
    cases h with
    | tup h1 r1 =>
      rename_i a1 vs1
      obtain ⟨its, rv, p1, hz1⟩ := I.tuple h1
      cases ru
      cases b <;> first | (simp only [eqv] at e; cases e; done) | skip
      all_goals simp only [eqv] at e
      · cases e; cases g; cases rw'; exact SeqAt.EqAt.tuple_none p1 (by omega)
      · cases e; cases g; cases rw'; exact SeqAt.EqAt.tuple_bool _ p1 (by omega)
      · cases e; cases g; obtain ⟨t, rfl⟩ := rw'; exact SeqAt.EqAt.tuple_int _ t p1 (by omega)
      · cases e; cases g; obtain ⟨t, rfl⟩ := rw'; exact SeqAt.EqAt.tuple_str _ t p1 (by omega)
      · have g0 := g
        cases g with
        | tup h2 r2 =>
          rename_i ys a2 vs2
          obtain ⟨its2, rv2, p2, hz2⟩ := I.tuple h2
          cases rw'
          by_cases ea : a1 = a2
          · subst ea
            rw [rel_same I _ _ _ r h0 g0 e0]
            exact SeqAt.EqAt.same _
          · obtain ⟨f, hf, er⟩ := all_eqvL e
            have l1 : its.toArray.size = xs.length := by rw [List.size_toArray, ← rv.length, ← r1.length]
            have l2 : its2.toArray.size = ys.length := by rw [List.size_toArray, ← rv2.length, ← r2.length]
            rw [er, ← l1, ← l2]
            simp only [dep] at hn
            refine SeqAt.EqAt.of_refs ea (SeqAt.RcAt.tuples (e := f) p1 p2 (by omega) fun j k1 k2 => ?_)
            obtain ⟨xa, ex⟩ : ∃ xa, xs[j]? = some xa := ⟨_, List.getElem?_eq_getElem (by omega)⟩
            obtain ⟨ya, ey⟩ : ∃ ya, ys[j]? = some ya := ⟨_, List.getElem?_eq_getElem (by omega)⟩
            obtain ⟨v1, e1, q1⟩ := r1.get ex
            obtain ⟨v2, e2, q2⟩ := r2.get ey
            obtain ⟨u1, g1, s1⟩ := rv.get e1
            obtain ⟨u2, g2, s2⟩ := rv2.get e2
            have z1 : its.toArray[j] = u1 := by simpa [List.getElem?_eq_some_iff.mp g1] using (List.getElem?_eq_some_iff.mp g1).2
            have z2 : its2.toArray[j] = u2 := by simpa using (List.getElem?_eq_some_iff.mp g2).2
            rw [z1, z2]
            have d1 := depL_get ex
            have d2 := depL_get ey
            match n, hn, hu with
            | 0, hn, hu => omega
            | n + 1, hn, hu => exact eqAt_rel I n xa ya v1 v2 u1 u2 (f j) A.in1 (by omega) q1 q2 s1 s2 (hf j xa ya ex ey) (by show A.units + 1 + n < cLine; omega)
      · cases e
        cases g with
        | lst h2 r2 => cases rw'; obtain ⟨_, _, p, _⟩ := I.list h2.sq; exact SeqAt.EqAt.tuple_list p1 p.isList (by omega)
  | n, .lst xs, b, x, y, u, w, r, A, hn, h, g, ru, rw', e, hu => by
    have e0 := e
    have h0 := h
    cases h with
    | lst h1 r1 =>
      rename_i a1 vs1
      obtain ⟨its, rv, p1, hz1⟩ := I.list h1.sq
      cases ru
      cases b <;> first | (simp only [eqv] at e; cases e; done) | skip
      all_goals simp only [eqv] at e
      · cases e; cases g; cases rw'; exact SeqAt.EqAt.list_none p1.isList (by omega)
      · cases e; cases g; cases rw'; exact SeqAt.EqAt.list_bool _ p1.isList (by omega)
      · cases e; cases g; obtain ⟨t, rfl⟩ := rw'; exact SeqAt.EqAt.list_int _ t p1.isList (by omega)
      · cases e; cases g; obtain ⟨t, rfl⟩ := rw'; exact SeqAt.EqAt.list_str _ t p1.isList (by omega)
      · cases e
        cases g with
        | tup h2 r2 => cases rw'; obtain ⟨_, _, p, _⟩ := I.tuple h2; exact SeqAt.EqAt.list_tuple p1.isList p (by omega)
      · have g0 := g
        cases g with
        | lst h2 r2 =>
          rename_i ys a2 vs2
          obtain ⟨its2, rv2, p2, hz2⟩ := I.list h2.sq
          cases rw'
          by_cases ea : a1 = a2
          · subst ea
            rw [rel_same I _ _ _ r h0 g0 e0]
            exact SeqAt.EqAt.same _
          · have l1 : its.toArray.size = xs.length := by rw [List.size_toArray, ← rv.length, ← r1.length]
            have l2 : its2.toArray.size = ys.length := by rw [List.size_toArray, ← rv2.length, ← r2.length]
            simp only [dep] at hn
            by_cases el : xs.length = ys.length
            · rw [if_pos el] at e
              obtain ⟨f, hf, er⟩ := all_eqvL e
              have er' : r = (List.range its.toArray.size).all f := by rw [er, l1, el]; simp
              rw [er']
              refine SeqAt.EqAt.of_refs ea (SeqAt.RcAt.lists (e := f) p1.isList p2.isList (by omega) (by omega) fun j k1 k2 => ?_)
              obtain ⟨xa, ex⟩ : ∃ xa, xs[j]? = some xa := ⟨_, List.getElem?_eq_getElem (by omega)⟩
              obtain ⟨ya, ey⟩ : ∃ ya, ys[j]? = some ya := ⟨_, List.getElem?_eq_getElem (by omega)⟩
              obtain ⟨v1, e1, q1⟩ := r1.get ex
              obtain ⟨v2, e2, q2⟩ := r2.get ey
              obtain ⟨u1, g1, s1⟩ := rv.get e1
              obtain ⟨u2, g2, s2⟩ := rv2.get e2
              have z1 : its.toArray[j] = u1 := by simpa using (List.getElem?_eq_some_iff.mp g1).2
              have z2 : its2.toArray[j] = u2 := by simpa using (List.getElem?_eq_some_iff.mp g2).2
              rw [z1, z2]
              have d1 := depL_get ex
              have d2 := depL_get ey
              match n, hn, hu with
              | 0, hn, hu => omega
              | n + 1, hn, hu => exact eqAt_rel I n xa ya v1 v2 u1 u2 (f j) A.in1 (by omega) q1 q2 s1 s2 (hf j xa ya ex ey) (by show A.units + 1 + n < cLine; omega)
            · rw [if_neg el] at e
              cases e
              exact SeqAt.EqAt.of_refs ea (SeqAt.RcAt.lists_lengths p1.isList p2.isList (by simp only [bne_iff_ne]; omega) (by omega))
  | n, .dct _, b, x, y, u, w, r, A, hn, h, g, ru, rw', e, hu => by cases b <;> (simp only [eqv] at e; cases e)
  | n, .loc _, b, x, y, u, w, r, A, hn, h, g, ru, rw', e, hu => by cases b <;> (simp only [eqv] at e; cases e)
  | n, .obj _, b, x, y, u, w, r, A, hn, h, g, ru, rw', e, hu => by cases b <;> (simp only [eqv] at e; cases e)
  | n, .scr _, b, x, y, u, w, r, A, hn, h, g, ru, rw', e, hu => by cases b <;> (simp only [eqv] at e; cases e)
  | n, .ty _, b, x, y, u, w, r, A, hn, h, g, ru, rw', e, hu => by cases b <;> (simp only [eqv] at e; cases e)
end
end Lr
namespace Lr
open PySem PySem.Spec L2
open PyProof.Rows hiding St
section
variable {κ : Kap} {X : Cx} {pins : List (Addr × Obj)} {σ : St} {H : Hp} {s : Shared} {ι : List Addr}
theorem seqT (I : Inv X pins σ H s) (n : Nat) {xs ys : List AV} {a1 a2 : Addr} {vs1 vs2 : List V} {r : Bool} {A : Around} (h1 : SqT X.K H a1 vs1) (r1 : RelL X.K κ ι H xs vs1) (h2 : SqT X.K H a2 vs2) (r2 : RelL X.K κ ι H ys vs2) (e : eqvL xs ys = some r) (hn : min (depL xs) (depL ys) + 1 ≤ n) (hu : A.units + n < cLine) : SeqAt.RcAt A s (.ref a1) (.ref a2) r := by
  obtain ⟨its, rv, p1, _⟩ := I.tuple h1
  obtain ⟨its2, rv2, p2, _⟩ := I.tuple h2
  obtain ⟨f, hf, er⟩ := all_eqvL e
  have l1 : its.toArray.size = xs.length := by rw [List.size_toArray, ← rv.length, ← r1.length]
  have l2 : its2.toArray.size = ys.length := by rw [List.size_toArray, ← rv2.length, ← r2.length]
  rw [er, ← l1, ← l2]
  refine SeqAt.RcAt.tuples (e := f) p1 p2 (by omega) fun j k1 k2 => ?_
  obtain ⟨xa, ex⟩ : ∃ xa, xs[j]? = some xa := ⟨_, List.getElem?_eq_getElem (by omega)⟩
  obtain ⟨ya, ey⟩ : ∃ ya, ys[j]? = some ya := ⟨_, List.getElem?_eq_getElem (by omega)⟩
  obtain ⟨v1, e1, q1⟩ := r1.get ex
  obtain ⟨v2, e2, q2⟩ := r2.get ey
  obtain ⟨u1, g1, s1⟩ := rv.get e1
  obtain ⟨u2, g2, s2⟩ := rv2.get e2
  have z1 : its.toArray[j] = u1 := by simpa using (List.getElem?_eq_some_iff.mp g1).2
  have z2 : its2.toArray[j] = u2 := by simpa using (List.getElem?_eq_some_iff.mp g2).2
  rw [z1, z2]
  have d1 := depL_get ex
  have d2 := depL_get ey
  match n, hn, hu with
  | 0, hn, hu => omega
  | n + 1, hn, hu => exact eqAt_rel I n xa ya v1 v2 u1 u2 (f j) A.in1 (by omega) q1 q2 s1 s2 (hf j xa ya ex ey) (by show A.units + 1 + n < cLine; omega)
theorem seqL (I : Inv X pins σ H s) (n : Nat) {xs ys : List AV} {a1 a2 : Addr} {vs1 vs2 : List V} {r : Bool} {A : Around} (h1 : SqL X.K H a1 vs1) (r1 : RelL X.K κ ι H xs vs1) (h2 : SqL X.K H a2 vs2) (r2 : RelL X.K κ ι H ys vs2) (e : (if xs.length = ys.length then eqvL xs ys else some false) = some r) (hn : min (depL xs) (depL ys) + 1 ≤ n) (hu : A.units + n < cLine) : SeqAt.RcAt A s (.ref a1) (.ref a2) r := by
  obtain ⟨its, rv, p1, _⟩ := I.list h1
  obtain ⟨its2, rv2, p2, _⟩ := I.list h2
  have l1 : its.toArray.size = xs.length := by rw [List.size_toArray, ← rv.length, ← r1.length]
  have l2 : its2.toArray.size = ys.length := by rw [List.size_toArray, ← rv2.length, ← r2.length]
  by_cases el : xs.length = ys.length
  · rw [if_pos el] at e
    obtain ⟨f, hf, er⟩ := all_eqvL e
    have er' : r = (List.range its.toArray.size).all f := by rw [er, l1, el]; simp
    rw [er']
    refine SeqAt.RcAt.lists (e := f) p1.isList p2.isList (by omega) (by omega) fun j k1 k2 => ?_
    obtain ⟨xa, ex⟩ : ∃ xa, xs[j]? = some xa := ⟨_, List.getElem?_eq_getElem (by omega)⟩
    obtain ⟨ya, ey⟩ : ∃ ya, ys[j]? = some ya := ⟨_, List.getElem?_eq_getElem (by omega)⟩
    obtain ⟨v1, e1, q1⟩ := r1.get ex
    obtain ⟨v2, e2, q2⟩ := r2.get ey
    obtain ⟨u1, g1, s1⟩ := rv.get e1
    obtain ⟨u2, g2, s2⟩ := rv2.get e2
    have z1 : its.toArray[j] = u1 := by simpa using (List.getElem?_eq_some_iff.mp g1).2
    have z2 : its2.toArray[j] = u2 := by simpa using (List.getElem?_eq_some_iff.mp g2).2
    rw [z1, z2]
    have d1 := depL_get ex
    have d2 := depL_get ey
    match n, hn, hu with
    | 0, hn, hu => omega
    | n + 1, hn, hu => exact eqAt_rel I n xa ya v1 v2 u1 u2 (f j) A.in1 (by omega) q1 q2 s1 s2 (hf j xa ya ex ey) (by show A.units + 1 + n < cLine; omega)
  · rw [if_neg el] at e
    cases e
    exact SeqAt.RcAt.lists_lengths p1.isList p2.isList (by simp only [bne_iff_ne]; omega) (by omega)
theorem rc_rel (I : Inv X pins σ H s) (n : Nat) (a b : AV) (x y : V) (u w : Value) (r : Bool) (A : Around) (hn : min (dep a) (dep b) ≤ n) (h : Rel X.K κ ι H a x) (g : Rel X.K κ ι H b y) (ru : RelV x u) (rw' : RelV y w) (e : eqv a b = some r) (hu : A.units + n < cLine) : SeqAt.RcAt A s u w r := by
  cases h <;> cases g <;> first | (simp only [eqv] at e; cases e; done) | skip
  all_goals simp only [eqv, Option.some.injEq] at e
  · subst e; cases ru; cases rw'; exact SeqAt.RcAt.none_none
  · subst e; cases ru; cases rw'; exact SeqAt.RcAt.none_bool _
  · subst e; cases ru; obtain ⟨tr, rfl⟩ := rw'; exact SeqAt.RcAt.none_int _ _
  · subst e; cases ru; obtain ⟨tr, rfl⟩ := rw'; exact SeqAt.RcAt.none_str _ _
  · subst e; cases ru; cases rw'; rename_i h2 r2; obtain ⟨_, _, p, _⟩ := I.tuple h2; exact SeqAt.RcAt.none_tuple p (by omega)
  · subst e; cases ru; cases rw'; rename_i h2 r2; obtain ⟨_, _, p, _⟩ := I.list h2.sq; exact SeqAt.RcAt.none_list p.isList (by omega)
  · subst e; cases ru; cases rw'; exact SeqAt.RcAt.bool_none _
  · subst e; cases ru; cases rw'; exact SeqAt.RcAt.bool_bool _ _
  · subst e; cases ru; obtain ⟨tr, rfl⟩ := rw'; exact SeqAt.RcAt.bool_int _ _ _
  · subst e; cases ru; obtain ⟨tr, rfl⟩ := rw'; exact SeqAt.RcAt.bool_str _ _ _
  · subst e; cases ru; cases rw'; rename_i h2 r2; obtain ⟨_, _, p, _⟩ := I.tuple h2; exact SeqAt.RcAt.bool_tuple _ p (by omega)
  · subst e; cases ru; cases rw'; rename_i h2 r2; obtain ⟨_, _, p, _⟩ := I.list h2.sq; exact SeqAt.RcAt.bool_list _ p.isList (by omega)
  · subst e; obtain ⟨tr, rfl⟩ := ru; cases rw'; exact SeqAt.RcAt.int_none _ _
  · subst e; obtain ⟨tr, rfl⟩ := ru; cases rw'; exact SeqAt.RcAt.int_bool _ _ _
  · subst e; obtain ⟨tr, rfl⟩ := ru; obtain ⟨tr, rfl⟩ := rw'; exact SeqAt.RcAt.int_int _ _ _ _
  · subst e; obtain ⟨tr, rfl⟩ := ru; obtain ⟨tr, rfl⟩ := rw'; exact SeqAt.RcAt.int_str _ _ _ _
  · subst e; obtain ⟨tr, rfl⟩ := ru; cases rw'; rename_i h2 r2; obtain ⟨_, _, p, _⟩ := I.tuple h2; exact SeqAt.RcAt.int_tuple _ _ p (by omega)
  · subst e; obtain ⟨tr, rfl⟩ := ru; cases rw'; rename_i h2 r2; obtain ⟨_, _, p, _⟩ := I.list h2.sq; exact SeqAt.RcAt.int_list _ _ p.isList (by omega)
  · subst e; obtain ⟨tr, rfl⟩ := ru; cases rw'; exact SeqAt.RcAt.str_none _ _
  · subst e; obtain ⟨tr, rfl⟩ := ru; cases rw'; exact SeqAt.RcAt.str_bool _ _ _
  · subst e; obtain ⟨tr, rfl⟩ := ru; obtain ⟨tr, rfl⟩ := rw'; exact SeqAt.RcAt.str_int _ _ _ _
  · subst e; obtain ⟨tr, rfl⟩ := ru; obtain ⟨tr, rfl⟩ := rw'; exact SeqAt.RcAt.str_str _ _ _ _
  · subst e; obtain ⟨tr, rfl⟩ := ru; cases rw'; rename_i h2 r2; obtain ⟨_, _, p, _⟩ := I.tuple h2; exact SeqAt.RcAt.str_tuple _ _ p (by omega)
  · subst e; obtain ⟨tr, rfl⟩ := ru; cases rw'; rename_i h2 r2; obtain ⟨_, _, p, _⟩ := I.list h2.sq; exact SeqAt.RcAt.str_list _ _ p.isList (by omega)
  · subst e; cases rw'; cases ru; rename_i h2 r2; obtain ⟨_, _, p, _⟩ := I.tuple h2; exact SeqAt.RcAt.tuple_none p (by omega)
  · subst e; cases rw'; cases ru; rename_i h2 r2 _; obtain ⟨_, _, p, _⟩ := I.tuple h2; exact SeqAt.RcAt.tuple_bool _ p (by omega)
  · subst e; obtain ⟨tr, rfl⟩ := rw'; cases ru; rename_i h2 r2 _; obtain ⟨_, _, p, _⟩ := I.tuple h2; exact SeqAt.RcAt.tuple_int _ _ p (by omega)
  · subst e; obtain ⟨tr, rfl⟩ := rw'; cases ru; rename_i h2 r2 _; obtain ⟨_, _, p, _⟩ := I.tuple h2; exact SeqAt.RcAt.tuple_str _ _ p (by omega)
  · cases ru; cases rw'; rename_i h1 r1 _ _ _ h2 r2; exact seqT I n h1 r1 h2 r2 e (by simp only [dep] at hn; omega) hu
  · subst e; cases ru; cases rw'; rename_i h1 r1 _ _ _ h2 r2; obtain ⟨_, _, p1, _⟩ := I.tuple h1; obtain ⟨_, _, p, _⟩ := I.list h2.sq; exact SeqAt.RcAt.tuple_list p1 p.isList (by omega)
  · subst e; cases rw'; cases ru; rename_i h2 r2; obtain ⟨_, _, p, _⟩ := I.list h2.sq; exact SeqAt.RcAt.list_none p.isList (by omega)
  · subst e; cases rw'; cases ru; rename_i h2 r2 _; obtain ⟨_, _, p, _⟩ := I.list h2.sq; exact SeqAt.RcAt.list_bool _ p.isList (by omega)
  · subst e; obtain ⟨tr, rfl⟩ := rw'; cases ru; rename_i h2 r2 _; obtain ⟨_, _, p, _⟩ := I.list h2.sq; exact SeqAt.RcAt.list_int _ _ p.isList (by omega)
  · subst e; obtain ⟨tr, rfl⟩ := rw'; cases ru; rename_i h2 r2 _; obtain ⟨_, _, p, _⟩ := I.list h2.sq; exact SeqAt.RcAt.list_str _ _ p.isList (by omega)
  · subst e; cases ru; cases rw'; rename_i h1 r1 _ _ _ h2 r2; obtain ⟨_, _, p1, _⟩ := I.list h1.sq; obtain ⟨_, _, p, _⟩ := I.tuple h2; exact SeqAt.RcAt.list_tuple p1.isList p (by omega)
  · cases ru; cases rw'; rename_i h1 r1 _ _ _ h2 r2; exact seqL I n h1.sq r1 h2.sq r2 e (by simp only [dep] at hn; omega) hu
theorem seqNeT (I : Inv X pins σ H s) (n : Nat) {xs ys : List AV} {a1 a2 : Addr} {vs1 vs2 : List V} {r : Bool} {A : Around} (h1 : SqT X.K H a1 vs1) (r1 : RelL X.K κ ι H xs vs1) (h2 : SqT X.K H a2 vs2) (r2 : RelL X.K κ ι H ys vs2) (e : eqvL xs ys = some r) (hn : min (depL xs) (depL ys) + 1 ≤ n) (hu : A.units + n < cLine) : SeqAt.RcNeAt A s (.ref a1) (.ref a2) (!r) := by
  obtain ⟨its, rv, p1, _⟩ := I.tuple h1
  obtain ⟨its2, rv2, p2, _⟩ := I.tuple h2
  obtain ⟨f, hf, er⟩ := all_eqvL e
  have l1 : its.toArray.size = xs.length := by rw [List.size_toArray, ← rv.length, ← r1.length]
  have l2 : its2.toArray.size = ys.length := by rw [List.size_toArray, ← rv2.length, ← r2.length]
  rw [er, ← l1, ← l2]
  refine SeqAt.RcNeAt.tuples (e := f) p1 p2 (by omega) fun j k1 k2 => ?_
  obtain ⟨xa, ex⟩ : ∃ xa, xs[j]? = some xa := ⟨_, List.getElem?_eq_getElem (by omega)⟩
  obtain ⟨ya, ey⟩ : ∃ ya, ys[j]? = some ya := ⟨_, List.getElem?_eq_getElem (by omega)⟩
  obtain ⟨v1, e1, q1⟩ := r1.get ex
  obtain ⟨v2, e2, q2⟩ := r2.get ey
  obtain ⟨u1, g1, s1⟩ := rv.get e1
  obtain ⟨u2, g2, s2⟩ := rv2.get e2
  have z1 : its.toArray[j] = u1 := by simpa using (List.getElem?_eq_some_iff.mp g1).2
  have z2 : its2.toArray[j] = u2 := by simpa using (List.getElem?_eq_some_iff.mp g2).2
  rw [z1, z2]
  have d1 := depL_get ex
  have d2 := depL_get ey
  match n, hn, hu with
  | 0, hn, hu => omega
  | n + 1, hn, hu => exact eqAt_rel I n xa ya v1 v2 u1 u2 (f j) A.in1 (by omega) q1 q2 s1 s2 (hf j xa ya ex ey) (by show A.units + 1 + n < cLine; omega)
theorem seqNeL (I : Inv X pins σ H s) (n : Nat) {xs ys : List AV} {a1 a2 : Addr} {vs1 vs2 : List V} {r : Bool} {A : Around} (h1 : SqL X.K H a1 vs1) (r1 : RelL X.K κ ι H xs vs1) (h2 : SqL X.K H a2 vs2) (r2 : RelL X.K κ ι H ys vs2) (e : (if xs.length = ys.length then eqvL xs ys else some false) = some r) (hn : min (depL xs) (depL ys) + 1 ≤ n) (hu : A.units + n < cLine) : SeqAt.RcNeAt A s (.ref a1) (.ref a2) (!r) := by
  obtain ⟨its, rv, p1, _⟩ := I.list h1
  obtain ⟨its2, rv2, p2, _⟩ := I.list h2
  have l1 : its.toArray.size = xs.length := by rw [List.size_toArray, ← rv.length, ← r1.length]
  have l2 : its2.toArray.size = ys.length := by rw [List.size_toArray, ← rv2.length, ← r2.length]
  by_cases el : xs.length = ys.length
  · rw [if_pos el] at e
    obtain ⟨f, hf, er⟩ := all_eqvL e
    have er' : r = (List.range its.toArray.size).all f := by rw [er, l1, el]; simp
    rw [er']
    refine SeqAt.RcNeAt.lists (e := f) p1.isList p2.isList (by omega) (by omega) fun j k1 k2 => ?_
    obtain ⟨xa, ex⟩ : ∃ xa, xs[j]? = some xa := ⟨_, List.getElem?_eq_getElem (by omega)⟩
    obtain ⟨ya, ey⟩ : ∃ ya, ys[j]? = some ya := ⟨_, List.getElem?_eq_getElem (by omega)⟩
    obtain ⟨v1, e1, q1⟩ := r1.get ex
    obtain ⟨v2, e2, q2⟩ := r2.get ey
    obtain ⟨u1, g1, s1⟩ := rv.get e1
    obtain ⟨u2, g2, s2⟩ := rv2.get e2
    have z1 : its.toArray[j] = u1 := by simpa using (List.getElem?_eq_some_iff.mp g1).2
    have z2 : its2.toArray[j] = u2 := by simpa using (List.getElem?_eq_some_iff.mp g2).2
    rw [z1, z2]
    have d1 := depL_get ex
    have d2 := depL_get ey
    match n, hn, hu with
    | 0, hn, hu => omega
    | n + 1, hn, hu => exact eqAt_rel I n xa ya v1 v2 u1 u2 (f j) A.in1 (by omega) q1 q2 s1 s2 (hf j xa ya ex ey) (by show A.units + 1 + n < cLine; omega)
  · rw [if_neg el] at e
    cases e
    exact SeqAt.RcNeAt.lists_lengths p1.isList p2.isList (by simp only [bne_iff_ne]; omega) (by omega)
theorem rcNe_rel (I : Inv X pins σ H s) (n : Nat) (a b : AV) (x y : V) (u w : Value) (r : Bool) (A : Around) (hn : min (dep a) (dep b) ≤ n) (h : Rel X.K κ ι H a x) (g : Rel X.K κ ι H b y) (ru : RelV x u) (rw' : RelV y w) (e : eqv a b = some r) (hu : A.units + n < cLine) : SeqAt.RcNeAt A s u w (!r) := by
  cases h <;> cases g <;> first | (simp only [eqv] at e; cases e; done) | skip
  all_goals simp only [eqv, Option.some.injEq] at e
  · subst e; cases ru; cases rw'; exact SeqAt.RcNeAt.none_none
  · subst e; cases ru; cases rw'; exact SeqAt.RcNeAt.none_bool _
  · subst e; cases ru; obtain ⟨tr, rfl⟩ := rw'; exact SeqAt.RcNeAt.none_int _ _
  · subst e; cases ru; obtain ⟨tr, rfl⟩ := rw'; exact SeqAt.RcNeAt.none_str _ _
  · subst e; cases ru; cases rw'; rename_i h2 r2; obtain ⟨_, _, p, _⟩ := I.tuple h2; exact SeqAt.RcNeAt.none_tuple p (by omega)
  · subst e; cases ru; cases rw'; rename_i h2 r2; obtain ⟨_, _, p, _⟩ := I.list h2.sq; exact SeqAt.RcNeAt.none_list p.isList (by omega)
  · subst e; cases ru; cases rw'; exact SeqAt.RcNeAt.bool_none _
  · subst e; cases ru; cases rw'; exact SeqAt.RcNeAt.bool_bool _ _
  · subst e; cases ru; obtain ⟨tr, rfl⟩ := rw'; exact SeqAt.RcNeAt.bool_int _ _ _
  · subst e; cases ru; obtain ⟨tr, rfl⟩ := rw'; exact SeqAt.RcNeAt.bool_str _ _ _
  · subst e; cases ru; cases rw'; rename_i h2 r2; obtain ⟨_, _, p, _⟩ := I.tuple h2; exact SeqAt.RcNeAt.bool_tuple _ p (by omega)
  · subst e; cases ru; cases rw'; rename_i h2 r2; obtain ⟨_, _, p, _⟩ := I.list h2.sq; exact SeqAt.RcNeAt.bool_list _ p.isList (by omega)
  · subst e; obtain ⟨tr, rfl⟩ := ru; cases rw'; exact SeqAt.RcNeAt.int_none _ _
  · subst e; obtain ⟨tr, rfl⟩ := ru; cases rw'; exact SeqAt.RcNeAt.int_bool _ _ _
  · subst e; obtain ⟨tr, rfl⟩ := ru; obtain ⟨tr, rfl⟩ := rw'; exact SeqAt.RcNeAt.int_int _ _ _ _
  · subst e; obtain ⟨tr, rfl⟩ := ru; obtain ⟨tr, rfl⟩ := rw'; exact SeqAt.RcNeAt.int_str _ _ _ _
  · subst e; obtain ⟨tr, rfl⟩ := ru; cases rw'; rename_i h2 r2; obtain ⟨_, _, p, _⟩ := I.tuple h2; exact SeqAt.RcNeAt.int_tuple _ _ p (by omega)
  · subst e; obtain ⟨tr, rfl⟩ := ru; cases rw'; rename_i h2 r2; obtain ⟨_, _, p, _⟩ := I.list h2.sq; exact SeqAt.RcNeAt.int_list _ _ p.isList (by omega)
  · subst e; obtain ⟨tr, rfl⟩ := ru; cases rw'; exact SeqAt.RcNeAt.str_none _ _
  · subst e; obtain ⟨tr, rfl⟩ := ru; cases rw'; exact SeqAt.RcNeAt.str_bool _ _ _
  · subst e; obtain ⟨tr, rfl⟩ := ru; obtain ⟨tr, rfl⟩ := rw'; exact SeqAt.RcNeAt.str_int _ _ _ _
  · subst e; obtain ⟨tr, rfl⟩ := ru; obtain ⟨tr, rfl⟩ := rw'; exact SeqAt.RcNeAt.str_str _ _ _ _
  · subst e; obtain ⟨tr, rfl⟩ := ru; cases rw'; rename_i h2 r2; obtain ⟨_, _, p, _⟩ := I.tuple h2; exact SeqAt.RcNeAt.str_tuple _ _ p (by omega)
  · subst e; obtain ⟨tr, rfl⟩ := ru; cases rw'; rename_i h2 r2; obtain ⟨_, _, p, _⟩ := I.list h2.sq; exact SeqAt.RcNeAt.str_list _ _ p.isList (by omega)
  · subst e; cases rw'; cases ru; rename_i h2 r2; obtain ⟨_, _, p, _⟩ := I.tuple h2; exact SeqAt.RcNeAt.tuple_none p (by omega)
  · subst e; cases rw'; cases ru; rename_i h2 r2 _; obtain ⟨_, _, p, _⟩ := I.tuple h2; exact SeqAt.RcNeAt.tuple_bool _ p (by omega)
  · subst e; obtain ⟨tr, rfl⟩ := rw'; cases ru; rename_i h2 r2 _; obtain ⟨_, _, p, _⟩ := I.tuple h2; exact SeqAt.RcNeAt.tuple_int _ _ p (by omega)
  · subst e; obtain ⟨tr, rfl⟩ := rw'; cases ru; rename_i h2 r2 _; obtain ⟨_, _, p, _⟩ := I.tuple h2; exact SeqAt.RcNeAt.tuple_str _ _ p (by omega)
  · cases ru; cases rw'; rename_i h1 r1 _ _ _ h2 r2; exact seqNeT I n h1 r1 h2 r2 e (by simp only [dep] at hn; omega) hu
  · subst e; cases ru; cases rw'; rename_i h1 r1 _ _ _ h2 r2; obtain ⟨_, _, p1, _⟩ := I.tuple h1; obtain ⟨_, _, p, _⟩ := I.list h2.sq; exact SeqAt.RcNeAt.tuple_list p1 p.isList (by omega)
  · subst e; cases rw'; cases ru; rename_i h2 r2; obtain ⟨_, _, p, _⟩ := I.list h2.sq; exact SeqAt.RcNeAt.list_none p.isList (by omega)
  · subst e; cases rw'; cases ru; rename_i h2 r2 _; obtain ⟨_, _, p, _⟩ := I.list h2.sq; exact SeqAt.RcNeAt.list_bool _ p.isList (by omega)
  · subst e; obtain ⟨tr, rfl⟩ := rw'; cases ru; rename_i h2 r2 _; obtain ⟨_, _, p, _⟩ := I.list h2.sq; exact SeqAt.RcNeAt.list_int _ _ p.isList (by omega)
  · subst e; obtain ⟨tr, rfl⟩ := rw'; cases ru; rename_i h2 r2 _; obtain ⟨_, _, p, _⟩ := I.list h2.sq; exact SeqAt.RcNeAt.list_str _ _ p.isList (by omega)
  · subst e; cases ru; cases rw'; rename_i h1 r1 _ _ _ h2 r2; obtain ⟨_, _, p1, _⟩ := I.list h1.sq; obtain ⟨_, _, p, _⟩ := I.tuple h2; exact SeqAt.RcNeAt.list_tuple p1.isList p (by omega)
  · cases ru; cases rw'; rename_i h1 r1 _ _ _ h2 r2; exact seqNeL I n h1.sq r1 h2.sq r2 e (by simp only [dep] at hn; omega) hu
end
end Lr
namespace Lr
open PySem PySem.Spec L2
open PyProof.Rows hiding St
def lsOf (μ : Store) : AV → Option (List AV)
  | .lst xs => some xs
  | .loc n => match μ[n]? with
    | some (.lst xs) => some xs
    | _ => none
  | _ => none
@[simp] theorem lsOf_lst (μ : Store) (xs : List AV) : lsOf μ (.lst xs) = some xs := rfl
section
variable {κ : Kap} {X : Cx} {K : PySem.W.Frag} {ι : List Addr} {H : Hp} {μ : Store}
theorem ls_rel (sr : SR K κ ι μ H) {a : AV} {x : V} {xs : List AV} (r : Rel K κ ι H a x) (e : lsOf μ a = some xs) : ∃ p vs, x = .ref p ∧ SqL K H p vs ∧ RelL K κ ι H xs vs := by
  cases r with
  | lst h r => cases e; exact ⟨_, _, rfl, h.sq, r⟩
  | loc h =>
    rename_i n p
    simp only [lsOf] at e
    cases q : μ[n]? with
    | none => rw [q] at e; cases e
    | some o =>
      rw [q] at e
      cases o <;> first | (cases e; done) | skip
      cases e
      obtain ⟨vs, e1, r1⟩ := sr.obj n _ p q h
      exact ⟨p, vs, rfl, .inl (.inl e1), r1⟩
  | _ => cases e
end
def eqB (x y : AV) (μ : Store) : Option Bool := match lsOf μ x, lsOf μ y with
  | some xs, some ys => if xs.length = ys.length then eqvL xs ys else some false
  | _, _ => eqv x y
def depM (μ : Store) (x : AV) : Nat := match lsOf μ x with
  | some xs => depL xs + 1
  | none => dep x
def gEq : G2 := fun x y μ => match eqB x y μ with
  | some r => if min (depM μ x) (depM μ y) ≤ 150 then .ok (.bl r) μ else .bad
  | none => .bad
def gNe : G2 := fun x y μ => match eqB x y μ with
  | some r => if min (depM μ x) (depM μ y) ≤ 150 then .ok (.bl (!r)) μ else .bad
  | none => .bad
section
variable {κ : Kap} {X : Cx} {a b c e : Expr} {ra rb rc r : AE} {pos : Pos} {g : G2} {k : Nat}
theorem lsOf_dep {μ : Store} {x : AV} (h : ∀ n, x ≠ .loc n) : depM μ x = dep x := by
  unfold depM
  cases x <;> first | rfl | (exact absurd rfl (h _))
theorem room_eq (c : Cl X k) : X.A.units + 150 < cLine := by have := c.room.un; omega
theorem eqv_loc {a b : AV} {r : Bool} (e : eqv a b = some r) : (∀ n, a ≠ .loc n) ∧ (∀ n, b ≠ .loc n) := by
  constructor
  · rintro n rfl
    cases b <;> (simp only [eqv] at e; cases e)
  · rintro n rfl
    cases a <;> (simp only [eqv] at e; cases e)
theorem op_gEq (c : Cl X k) : OpA κ X (compareOp .Eq) gEq := fun W tk pins s σ H x y v u Q I rx ry hh => by
  obtain ⟨σ0, ι, μ, a, b, sr, ra, rb, h⟩ := hh
  unfold gEq at h
  split at h
  · rename_i r er
    by_cases hd : min (depM μ a) (depM μ b) ≤ 150
    · rw [if_pos hd] at h
      have fin : EP X pins σ Q (.bool r) s := ⟨.bl r, H, I, rfl, ok1 sr h (.bl _)⟩
      have hu := room_eq c
      unfold eqB at er
      split at er
      · rename_i xs ys e1 e2
        obtain ⟨p, vs, rfl, h1, r1⟩ := ls_rel sr ra e1
        obtain ⟨q, ws, rfl, h2, r2⟩ := ls_rel sr rb e2
        cases rx
        cases ry
        unfold depM at hd
        rw [e1, e2] at hd
        exact seqL I 150 h1 r1 h2 r2 er (by simp only at hd; omega) hu X.prog X.w X.xe _ fin
      · obtain ⟨n1, n2⟩ := eqv_loc er
        rw [lsOf_dep n1, lsOf_dep n2] at hd
        exact rc_rel I 150 a b x y v u r X.A hd ra rb rx ry er hu X.prog X.w X.xe _ fin
    · rw [if_neg hd] at h
      exact False.elim h
  · exact False.elim h
theorem op_gNe (c : Cl X k) : OpA κ X (compareOp .NotEq) gNe := fun W tk pins s σ H x y v u Q I rx ry hh => by
  obtain ⟨σ0, ι, μ, a, b, sr, ra, rb, h⟩ := hh
  unfold gNe at h
  split at h
  · rename_i r er
    by_cases hd : min (depM μ a) (depM μ b) ≤ 150
    · rw [if_pos hd] at h
      have fin : EP X pins σ Q (.bool (!r)) s := ⟨.bl (!r), H, I, rfl, ok1 sr h (.bl _)⟩
      have hu := room_eq c
      unfold eqB at er
      split at er
      · rename_i xs ys e1 e2
        obtain ⟨p, vs, rfl, h1, r1⟩ := ls_rel sr ra e1
        obtain ⟨q, ws, rfl, h2, r2⟩ := ls_rel sr rb e2
        cases rx
        cases ry
        unfold depM at hd
        rw [e1, e2] at hd
        exact seqNeL I 150 h1 r1 h2 r2 er (by simp only at hd; omega) hu X.prog X.w X.xe _ fin
      · obtain ⟨n1, n2⟩ := eqv_loc er
        rw [lsOf_dep n1, lsOf_dep n2] at hd
        exact rcNe_rel I 150 a b x y v u r X.A hd ra rb rx ry er hu X.prog X.w X.xe _ fin
    · rw [if_neg hd] at h
      exact False.elim h
  · exact False.elim h
end
mutual
def isD : AV → Bool
  | .non => true | .bl _ => true | .int _ => true | .str _ => true
  | .tup xs => isDL xs
  | .lst xs => isDL xs
  | .dct kvs => isDD kvs
  | .loc _ => false | .obj _ => false | .scr _ => false | .ty _ => false
def isDL : List AV → Bool
  | [] => true
  | x :: xs => isD x && isDL xs
def isDD : List (AV × AV) → Bool
  | [] => true
  | (x, y) :: xs => isD x && isD y && isDD xs
end
section
variable {κ : Kap} {X : Cx} {pins : List (Addr × Obj)} {σ : St} {H : Hp} {s : Shared} {ι : List Addr}
theorem dct_seq (I : Inv X pins σ H s) {a : Addr} {o : Obj} {es : Array DictEntry} {ep : Nat} (h : H a = some (.frz o (.ext fun h => h.get? a = some o))) (ho : o.ExactDict) (hd : o.data = .dict es ep) {its : Array Value} {n : Nat} {o' : Obj} (g : s.heap.get? a = some o') (hd' : o'.data = .seq its n) : False := by
  obtain ⟨e, _⟩ := I.hok a _ h
  rw [e] at g
  cases g
  rw [hd] at hd'
  cases hd'
mutual
theorem rel_fun (I : Inv X pins σ H s) : ∀ (a b : AV) (x : V), isD a = true → isD b = true → Rel X.K κ ι H a x → Rel X.K κ ι H b x → a = b
  | .non, b, x, _, hb, h, g => by cases h; cases g; rfl
  | .bl _, b, x, _, hb, h, g => by cases h; cases g; rfl
  | .int _, b, x, _, hb, h, g => by cases h; cases g; rfl
  | .str _, b, x, _, hb, h, g => by cases h; cases g; rfl
  | .tup xs, b, x, ha, hb, h, g => by
    cases h with
    | tup h1 r1 =>
      obtain ⟨its1, _, ⟨o1, g1, c1, n1, d1⟩, _⟩ := I.tuple h1
      cases g with
      | tup h2 r2 =>
        have ev := I.tuple_inj h1 h2
        subst ev
        rw [rel_funL I xs _ _ (by simpa [isD] using ha) (by simpa [isD] using hb) r1 r2]
      | lst h2 r2 =>
        obtain ⟨_, _, ⟨o2, n2, g2, c2, _⟩, _⟩ := I.list h2.sq
        rw [g1] at g2; cases g2; rw [c1] at c2
        injection c2 with q
        exact absurd q (by decide)
      | dct h2 ho hd hn r2 => exact (dct_seq I h2 ho hd g1 d1).elim
      | loc _ => cases hb
      | obj _ => cases hb
      | scr _ => cases hb
  | .lst xs, b, x, ha, hb, h, g => by
    cases h with
    | lst h1 r1 =>
      obtain ⟨its1, _, ⟨o1, n1, g1, c1, _, d1⟩, _⟩ := I.list h1.sq
      cases g with
      | tup h2 r2 =>
        obtain ⟨_, _, ⟨o2, g2, c2, _⟩, _⟩ := I.tuple h2
        rw [g1] at g2; cases g2; rw [c1] at c2
        injection c2 with q
        exact absurd q (by decide)
      | lst h2 r2 =>
        have ev := I.list_inj h1.sq h2.sq
        subst ev
        rw [rel_funL I xs _ _ (by simpa [isD] using ha) (by simpa [isD] using hb) r1 r2]
      | dct h2 ho hd hn r2 => exact (dct_seq I h2 ho hd g1 d1).elim
      | loc _ => cases hb
      | obj _ => cases hb
      | scr _ => cases hb
  | .dct xs, b, x, ha, hb, h, g => by
    cases h with
    | dct h1 ho hd hn r1 =>
      cases g with
      | tup h2 r2 => obtain ⟨its1, _, ⟨o1, g1, c1, n1, d1⟩, _⟩ := I.tuple h2; exact (dct_seq I h1 ho hd g1 d1).elim
      | lst h2 r2 => obtain ⟨its1, _, ⟨o1, n1, g1, c1, _, d1⟩, _⟩ := I.list h2.sq; exact (dct_seq I h1 ho hd g1 d1).elim
      | dct h2 ho2 hd2 hn2 r2 =>
        rw [h1] at h2
        injection h2 with h2
        injection h2 with h2
        subst h2
        rw [hd] at hd2
        injection hd2 with e1 e2
        subst e1
        rw [rel_funD I xs _ _ (by simpa [isD] using ha) (by simpa [isD] using hb) r1 r2]
      | loc _ => cases hb
      | obj _ => cases hb
      | scr _ => cases hb
  | .loc _, _, _, ha, _, _, _ => by cases ha
  | .obj _, _, _, ha, _, _, _ => by cases ha
  | .scr _, _, _, ha, _, _, _ => by cases ha
  | .ty _, _, _, ha, _, _, _ => by cases ha
theorem rel_funL (I : Inv X pins σ H s) : ∀ (as bs : List AV) (xs : List V), isDL as = true → isDL bs = true → RelL X.K κ ι H as xs → RelL X.K κ ι H bs xs → as = bs
  | [], bs, xs, _, _, h, g => by cases h; cases g; rfl
  | a :: as, bs, xs, ha, hb, h, g => by
    cases h with
    | cons h1 h2 =>
      cases g with
      | cons g1 g2 =>
        simp only [isDL, Bool.and_eq_true] at ha hb
        rw [rel_fun I a _ _ ha.1 hb.1 h1 g1, rel_funL I as _ _ ha.2 hb.2 h2 g2]
theorem rel_funD (I : Inv X pins σ H s) : ∀ (as bs : List (AV × AV)) (xs : List DictEntry), isDD as = true → isDD bs = true → RelD X.K κ ι H as xs → RelD X.K κ ι H bs xs → as = bs
  | [], bs, xs, _, _, h, g => by cases h; cases g; rfl
  | (a, a') :: as, bs, xs, ha, hb, h, g => by
    cases h with
    | cons h1 v1 h2 v2 h3 =>
      cases g with
      | cons g1 w1 g2 w2 g3 =>
        simp only [isDD, Bool.and_eq_true] at ha hb
        have e1 := v1.inj w1
        have e2 := v2.inj w2
        subst e1 e2
        rw [rel_fun I a _ _ ha.1.1 hb.1.1 h1 g1, rel_fun I a' _ _ ha.1.2 hb.1.2 h2 g2, rel_funD I as _ _ ha.2 hb.2 h3 g3]
end
end
def anyEq (x : AV) : List AV → Option Bool
  | [] => some false
  | y :: ys => match eqv y x, anyEq x ys with
    | some a, some b => some (a || b)
    | _, _ => none
def seqOf (μ : Store) : AV → Option (List AV)
  | .tup xs => some xs
  | v => lsOf μ v
def inB (x y : AV) (μ : Store) : Option Bool := match x, y with
  | .str a, .str b => if a.length = 1 then some (decide (a.cps.getD 0 0 ∈ b.cps.toList)) else none
  | x, y => match seqOf μ y with
    | some ys => if isD x && isDL ys && decide (dep x ≤ 140) then anyEq x ys else none
    | none => none
def gIn : G2 := fun x y μ => match inB x y μ with
  | some r => .ok (.bl r) μ
  | none => .bad
end Lr
namespace Lr
open PySem PySem.Spec L2
open PyProof.Rows hiding St
theorem anyEq_some : ∀ {x : AV} {ys : List AV} {r : Bool}, anyEq x ys = some r → (∀ y ∈ ys, ∃ b, eqv y x = some b) ∧ (r = true ↔ ∃ y ∈ ys, eqv y x = some true)
  | x, [], r, e => by simp [anyEq] at e; subst e; simp
  | x, y :: ys, r, e => by
    unfold anyEq at e
    cases q1 : eqv y x with
    | none => rw [q1] at e; cases e
    | some a =>
      cases q2 : anyEq x ys with
      | none => rw [q1, q2] at e; cases e
      | some b =>
        rw [q1, q2] at e
        cases e
        obtain ⟨h1, h2⟩ := anyEq_some q2
        refine ⟨fun z hz => ?_, ?_⟩
        · rcases List.mem_cons.mp hz with rfl | hz
          · exact ⟨a, q1⟩
          · exact h1 z hz
        · cases a with
          | true => simp [q1]
          | false => simp [q1, h2]
section
variable {κ : Kap} {X : Cx} {a b c e : Expr} {ra rb rc r : AE} {pos : Pos} {g g' : G2} {k : Nat}
variable {pins : List (Addr × Obj)} {σ : St} {H : Hp} {s : Shared} {ι : List Addr}
open Classical in
theorem in_items (I : Inv X pins σ H s) {x : AV} {xv : V} {u : Value} {ys : List AV} {vs : List V} {its : List Value} {r : Bool} {A : Around} (hx : isD x = true) (hy : isDL ys = true) (hd : dep x ≤ 140) (rx : Rel X.K κ ι H x xv) (ru : RelV xv u)
    (rl : RelL X.K κ ι H ys vs) (rv : Vals vs its) (h : anyEq x ys = some r) (hu : A.units + 140 < cLine) : ∃ e : Value → Bool, (∀ y, y ∈ its.toArray → SeqAt.EqAt A s y u (e y)) ∧ its.toArray.any e = r := by
  obtain ⟨h1, h2⟩ := anyEq_some h
  have dm : ∀ {y : AV}, y ∈ ys → isD y = true := by
    intro y hm
    clear h1 h2 h rl
    induction ys with
    | nil => cases hm
    | cons z zs ih =>
      simp only [isDL, Bool.and_eq_true] at hy
      rcases List.mem_cons.mp hm with rfl | hm
      · exact hy.1
      · exact ih hy.2 hm
  refine ⟨fun w => decide (∃ y v, y ∈ ys ∧ Rel X.K κ ι H y v ∧ RelV v w ∧ eqv y x = some true), fun w hw => ?_, ?_⟩
  · have hw : w ∈ its := by simpa using hw
    obtain ⟨j, hj⟩ := List.mem_iff_getElem?.mp hw
    obtain ⟨v, ev⟩ : ∃ v, vs[j]? = some v := by
      have : j < vs.length := by rw [rv.length]; exact (List.getElem?_eq_some_iff.mp hj).1
      exact ⟨_, List.getElem?_eq_getElem this⟩
    obtain ⟨w', ew, rw'⟩ := rv.get ev
    rw [hj] at ew; cases ew
    obtain ⟨y, ey, ry⟩ := rl.get' ev
    have hm := List.mem_of_getElem? ey
    obtain ⟨b, eb⟩ := h1 y hm
    have key : decide (∃ y v, y ∈ ys ∧ Rel X.K κ ι H y v ∧ RelV v w ∧ eqv y x = some true) = b := by
      cases b with
      | true => exact decide_eq_true ⟨y, v, hm, ry, rw', eb⟩
      | false =>
        refine decide_eq_false ?_
        rintro ⟨y', v', hm', ry', rv', eb'⟩
        have := rv'.inj rw'
        subst this
        have := rel_fun I y' y _ (dm hm') (dm hm) ry' ry
        subst this
        rw [eb] at eb'
        cases eb'
    show SeqAt.EqAt A s w u (decide _)
    rw [key]
    exact eqAt_rel I 140 y x v xv w u b A (Nat.le_trans (Nat.min_le_right _ _) hd) ry rx rw' ru eb hu
  · have e1 : (its.toArray.any fun w => decide (∃ y v, y ∈ ys ∧ Rel X.K κ ι H y v ∧ RelV v w ∧ eqv y x = some true)) = true ↔ r = true := by
      rw [h2]
      simp only [List.any_toArray, List.any_eq_true, decide_eq_true_eq]
      constructor
      · rintro ⟨w, _, y, v, hm, _, _, eb⟩
        exact ⟨y, hm, eb⟩
      · rintro ⟨y, hm, eb⟩
        obtain ⟨j, hj⟩ := List.mem_iff_getElem?.mp hm
        obtain ⟨v, ev, rv1⟩ := rl.get hj
        obtain ⟨w, ew, rw1⟩ := rv.get ev
        exact ⟨w, List.mem_of_getElem? ew, y, v, hm, rv1, rw1, eb⟩
    cases r with
    | true => exact e1.mpr rfl
    | false =>
      cases q : its.toArray.any fun w => decide (∃ y v, y ∈ ys ∧ Rel X.K κ ι H y v ∧ RelV v w ∧ eqv y x = some true) with
      | false => rfl
      | true => exact (e1.mp q).symm
theorem str_one {a : Str} (h : a.length = 1) : a = ⟨#[a.cps.getD 0 0]⟩ := by
  obtain ⟨cs⟩ := a
  obtain ⟨l⟩ := cs
  match l, h with
  | [c], _ => rfl
theorem seqOf_rel {μ : Store} (sr : SR X.K κ ι μ H) {y : AV} {v : V} {ys : List AV} (ry : Rel X.K κ ι H y v) (e : seqOf μ y = some ys) : ∃ p vs, v = .ref p ∧ (SqL X.K H p vs ∨ SqT X.K H p vs) ∧ RelL X.K κ ι H ys vs := by
  cases ry with
  | tup h r => cases e; exact ⟨_, _, rfl, .inr h, r⟩
  | lst h r => obtain ⟨p, vs, e1, h1, r1⟩ := ls_rel sr (.lst h r) e; exact ⟨p, vs, e1, .inl h1, r1⟩
  | loc h => obtain ⟨p, vs, e1, h1, r1⟩ := ls_rel sr (.loc h) e; exact ⟨p, vs, e1, .inl h1, r1⟩
  | _ => cases e
theorem inB_cases {x y : AV} {μ : Store} {r : Bool} (h : inB x y μ = some r) : (∃ a b, x = .str a ∧ y = .str b ∧ a.length = 1 ∧ r = decide (a.cps.getD 0 0 ∈ b.cps.toList)) ∨
    ∃ ys, seqOf μ y = some ys ∧ isD x = true ∧ isDL ys = true ∧ dep x ≤ 140 ∧ anyEq x ys = some r := by
  unfold inB at h
  split at h
  · rename_i a b
    by_cases hl : a.length = 1
    · rw [if_pos hl] at h
      exact .inl ⟨a, b, rfl, rfl, hl, (Option.some.inj h).symm⟩
    · rw [if_neg hl] at h; cases h
  · split at h
    · rename_i ys e1
      by_cases hc : (isD x && isDL ys && decide (dep x ≤ 140)) = true
      · rw [if_pos hc] at h
        simp only [Bool.and_eq_true, decide_eq_true_eq] at hc
        exact .inr ⟨ys, e1, hc.1.1, hc.1.2, hc.2, h⟩
      · rw [if_neg hc] at h; cases h
    · cases h
theorem op_gIn (cl : Cl X k) : OpA κ X (compareOp .In) gIn := fun W tk pins s σ H x y v u Q I rx ry hh => by
  obtain ⟨σ0, ι, μ, a, b, sr, ra, rb, h⟩ := hh
  unfold gIn at h
  have hu : X.A.in1.units + 140 < cLine := by have := cl.room.un; show X.A.units + 1 + 140 < cLine; omega
  split at h
  · rename_i r er
    rcases inB_cases er with ⟨a', b', rfl, rfl, hl, rfl⟩ | ⟨ys, e1, h1, h2, h3, h4⟩
    · cases ra; cases rb
      rw [str_one hl] at rx
      exact op_in_sign pins s σ H _ _ v u Q I rx ry ⟨_, _, rfl, rfl, ok1 sr h (.bl _)⟩
    · obtain ⟨p, vs, rfl, hq, rl⟩ := seqOf_rel sr rb e1
      cases ry
      rcases hq with hq | hq
      · obtain ⟨its, rv, pl, hz⟩ := I.list hq
        obtain ⟨e, he, hr⟩ := in_items I h1 h2 h3 ra rx rl rv h4 hu
        exact SeqAt.in_listAt e pl.isList he ⟨.bl _, H, I, rfl, by rw [hr]; exact ok1 sr h (.bl _)⟩
      · obtain ⟨its, rv, pl, hz⟩ := I.tuple hq
        obtain ⟨e, he, hr⟩ := in_items I h1 h2 h3 ra rx rl rv h4 hu
        exact SeqAt.in_tupleAt e pl he ⟨.bl _, H, I, rfl, by rw [hr]; exact ok1 sr h (.bl _)⟩
  · exact False.elim h
def tB1 (r : AE) : AT := fun ρ μ => (r ρ μ).bind fun x μ1 => match x with
  | .bl k => .ok k μ1
  | _ => .bad
def truA (μ : Store) : AV → Option Bool
  | .non => some false
  | .bl k => some k
  | .int i => some (i != 0)
  | .str x => if x.length ≤ 16777216 then some ((x.length : Int) != 0) else none
  | .tup xs => some (!xs.isEmpty)
  | .lst xs => some (!xs.isEmpty)
  | .loc n => match μ[n]? with
    | some (.lst xs) => some (!xs.isEmpty)
    | _ => none
  | _ => none
def tTr (r : AE) : AT := fun ρ μ => (r ρ μ).bind fun x μ1 => match truA μ1 x with
  | some k => .ok k μ1
  | none => .bad
theorem im_b1 {K : PySem.W.Frag} {W : WX} {t : TE} (i : ImE K κ W t r) : ImT K κ W (tB t) (tB1 r) := fun σ H Q ι ρ μ sr rl h => by
  refine i σ H _ ι ρ μ sr rl (PG.bind h fun x μ1 ι1 H1 p1 m1 sr1 h1 v rv => ?_)
  cases x <;> first | exact False.elim h1 | skip
  cases rv
  exact ⟨_, rfl, h1 ι1 H1 (List.prefix_refl _) (HM.refl _) sr1⟩
theorem DT.cmp {op : CmpOp} (ho : OpA κ X (compareOp op) g) (ha : DE κ X a ra) (hb : DE κ X b rb) (hm : behindInMarks op b = false := by first | exact nomark _ | rfl) : DT κ X (.Compare a [op] [b] pos) (tB1 (eOp g ra rb)) := fun W tk => by
  obtain ⟨ta, pa, ia⟩ := ha W tk
  obtain ⟨tb, pb, ib⟩ := hb W tk
  exact ⟨_, pt_cmpR (ho W tk) pa pb hm, im_b1 (im_op ia ib)⟩
theorem DT.val (h : DE κ X e r) (he : ∀ whole, isTrue e X.env whole = (do let v ← whole; standAt e.pos; holding [v] (truthy v)) := by intro _; rfl) : DT κ X e (tB1 r) := fun W tk => by
  obtain ⟨t, p, i⟩ := h W tk
  exact ⟨_, pt_val p he, im_b1 i⟩
theorem tru_rel {μ : Store} (sr : SR X.K κ ι μ H) {x : AV} {v : V} {b : Bool} (r : Rel X.K κ ι H x v) (e : truA μ x = some b) : TruV X.K v H b := by
  cases r with
  | non => exact (Option.some.inj e).symm
  | bl k => exact (Option.some.inj e).symm
  | int i => exact (Option.some.inj e).symm
  | str y =>
    simp only [truA] at e
    split at e
    · rename_i hz
      exact ⟨by rw [line16]; exact hz, (Option.some.inj e).symm⟩
    · cases e
  | tup h r =>
    refine .inr (.inl ⟨_, h, ?_⟩)
    rw [← Option.some.inj e]
    cases r <;> rfl
  | lst h r =>
    refine .inl ⟨_, h.sq, ?_⟩
    rw [← Option.some.inj e]
    cases r <;> rfl
  | loc h =>
    rename_i n p
    simp only [truA] at e
    split at e
    · rename_i xs q
      obtain ⟨vs, e1, r1⟩ := sr.obj n _ p q h
      refine .inl ⟨vs, .inl (.inl e1), ?_⟩
      rw [← Option.some.inj e]
      cases r1 <;> rfl
    · cases e
  | _ => cases e
theorem DT.truth (h : DE κ X e r) (he : ∀ whole, isTrue e X.env whole = (do let v ← whole; standAt e.pos; holding [v] (truthy v)) := by intro _; rfl) : DT κ X e (tTr r) := fun W tk => by
  obtain ⟨t, p, i⟩ := h W tk
  refine ⟨_, pt_truth p he, fun σ H Q ι ρ μ sr rl h => ?_⟩
  refine i σ H _ ι ρ μ sr rl (PG.bind h fun x μ1 ι1 H1 p1 m1 sr1 h1 v rv => ?_)
  split at h1
  · rename_i b eb
    exact ⟨b, tru_rel sr1 rv eb, h1 ι1 H1 (List.prefix_refl _) (HM.refl _) sr1⟩
  · exact False.elim h1
def tNt (t : AT) : AT := fun ρ μ => (t ρ μ).bind fun b μ1 => .ok (!b) μ1
def tAn (t u : AT) : AT := fun ρ μ => (t ρ μ).bind fun b μ1 => if b then u ρ μ1 else .ok false μ1
def tOrr (t u : AT) : AT := fun ρ μ => (t ρ μ).bind fun b μ1 => if b then .ok true μ1 else u ρ μ1
variable {ta tb : AT}
theorem DT.not (h : DT κ X a ta) : DT κ X (.UnaryOp .Not a pos) (tNt ta) := fun W tk => by
  obtain ⟨t, p, i⟩ := h W tk
  refine ⟨_, pt_not p, fun σ H Q ι ρ μ sr rl h => ?_⟩
  exact i σ H _ ι ρ μ sr rl (PG.bind h fun b μ1 ι1 H1 p1 m1 sr1 h1 => h1 ι1 H1 (List.prefix_refl _) (HM.refl _) sr1)
def DW (κ : Kap) (X : Cx) (e : Expr) (r : AT) : Prop := ∀ W : WX, Takes X W → ∃ t, PW X e t ∧ ImT X.K κ W t r
variable {rest : List Expr}
theorem DW.t (h : DW κ X e ta) : DT κ X e ta := fun W tk => let ⟨t, p, i⟩ := h W tk; ⟨t, p.pt, i⟩
theorem DW.and1 (h : DT κ X a ta) : DW κ X (.BoolOp .And [a] pos) ta := fun W tk => let ⟨t, p, i⟩ := h W tk; ⟨t, pw_and1 p, i⟩
theorem DW.or1 (h : DT κ X a ta) : DW κ X (.BoolOp .Or [a] pos) ta := fun W tk => let ⟨t, p, i⟩ := h W tk; ⟨t, pw_or1 p, i⟩
theorem DW.and (ha : DT κ X a ta) (hb : DW κ X (.BoolOp .And (b :: rest) pos) tb) : DW κ X (.BoolOp .And (a :: b :: rest) pos) (tAn ta tb) := fun W tk => by
  obtain ⟨t, p, i⟩ := ha W tk
  obtain ⟨u, q, j⟩ := hb W tk
  refine ⟨_, pw_and p q, fun σ H Q ι ρ μ sr rl h => ?_⟩
  refine i σ H _ ι ρ μ sr rl (PG.bind h fun b μ1 ι1 H1 p1 m1 sr1 h1 => ?_)
  cases b with
  | true => exact iteT (j σ H1 Q ι1 ρ μ1 sr1 (rl.mono p1 m1) h1)
  | false => exact iteF (h1 ι1 H1 (List.prefix_refl _) (HM.refl _) sr1)
theorem DW.or (ha : DT κ X a ta) (hb : DW κ X (.BoolOp .Or (b :: rest) pos) tb) : DW κ X (.BoolOp .Or (a :: b :: rest) pos) (tOrr ta tb) := fun W tk => by
  obtain ⟨t, p, i⟩ := ha W tk
  obtain ⟨u, q, j⟩ := hb W tk
  refine ⟨_, pw_or p q, fun σ H Q ι ρ μ sr rl h => ?_⟩
  refine i σ H _ ι ρ μ sr rl (PG.bind h fun b μ1 ι1 H1 p1 m1 sr1 h1 => ?_)
  cases b with
  | true => exact iteT (h1 ι1 H1 (List.prefix_refl _) (HM.refl _) sr1)
  | false => exact iteF (j σ H1 Q ι1 ρ μ1 sr1 (rl.mono p1 m1) h1)
def eAn (a b : AE) : AE := fun ρ μ => (a ρ μ).bind fun x μ1 => match x with
  | .bl true => b ρ μ1
  | .bl false => .ok (.bl false) μ1
  | _ => .bad
def eOr (a b : AE) : AE := fun ρ μ => (a ρ μ).bind fun x μ1 => match x with
  | .bl true => .ok (.bl true) μ1
  | .bl false => b ρ μ1
  | _ => .bad
def eNt (a : AE) : AE := fun ρ μ => (a ρ μ).bind fun x μ1 => match x with
  | .bl k => .ok (.bl (!k)) μ1
  | _ => .bad
theorem DE.one {op : BoolOp} (h : DE κ X a ra) : DE κ X (.BoolOp op [a] pos) ra := fun W tk => let ⟨t, p, i⟩ := h W tk; ⟨t, pe_one p, i⟩
theorem DE.and (ha : DE κ X a ra) (hb : DE κ X (.BoolOp .And (b :: rest) pos) rb) : DE κ X (.BoolOp .And (a :: b :: rest) pos) (eAn ra rb) := fun W tk => by
  obtain ⟨t, p, i⟩ := ha W tk
  obtain ⟨u, q, j⟩ := hb W tk
  refine ⟨_, pe_and p q, fun σ H Q ι ρ μ sr rl h => ?_⟩
  refine i σ H _ ι ρ μ sr rl (PG.bind h fun x μ1 ι1 H1 p1 m1 sr1 h1 v rv => ?_)
  cases x <;> first | exact False.elim h1 | skip
  rename_i b
  cases rv
  refine ⟨b, rfl, ?_⟩
  cases b with
  | true => exact iteT (j σ H1 Q ι1 ρ μ1 sr1 (rl.mono p1 m1) h1)
  | false => exact iteF (ok1 sr1 h1 (.bl _))
def eIf (t : AT) (a b : AE) : AE := fun ρ μ => (t ρ μ).bind fun k μ1 => if k then a ρ μ1 else b ρ μ1
theorem DE.ifx {t : Expr} (ht : DT κ X t ta) (ha : DE κ X a ra) (hb : DE κ X b rb) : DE κ X (.IfExp t a b pos) (eIf ta ra rb) := fun W tk => by
  obtain ⟨t0, p0, i0⟩ := ht W tk
  obtain ⟨t1, p1, i1⟩ := ha W tk
  obtain ⟨t2, p2, i2⟩ := hb W tk
  refine ⟨_, pe_ifExp p0 p1 p2, fun σ H Q ι ρ μ sr rl h => ?_⟩
  refine i0 σ H _ ι ρ μ sr rl (PG.bind h fun b μ1 ι1 H1 p1 m1 sr1 h1 => ?_)
  cases b with
  | true => exact iteT (i1 σ H1 Q ι1 ρ μ1 sr1 (rl.mono p1 m1) h1)
  | false => exact iteF (i2 σ H1 Q ι1 ρ μ1 sr1 (rl.mono p1 m1) h1)
def eChain (g g' : G2) (a b c : AE) : AE := fun ρ μ => (a ρ μ).bind fun x μ1 => (b ρ μ1).bind fun y μ2 => (g x y μ2).bind fun z μ3 => match z with
  | .bl true => (c ρ μ3).bind fun w μ4 => g' y w μ4
  | .bl false => .ok (.bl false) μ3
  | _ => .bad
theorem im_chain {K : PySem.W.Frag} {W : WX} {t1 t2 t3 : TE} (i1 : ImE K κ W t1 ra) (i2 : ImE K κ W t2 rb) (i3 : ImE K κ W t3 rc) : ImE K κ W (tChain (rA K κ W g) (rA K κ W g') t1 t2 t3) (eChain g g' ra rb rc) := fun σ H Q ι ρ μ sr rl h => by
  refine i1 σ H _ ι ρ μ sr rl (PG.bind h fun x μ1 ι1 H1 p1 m1 sr1 h1 v rv => ?_)
  refine i2 σ H1 _ ι1 ρ μ1 sr1 (rl.mono p1 m1) (PG.bind h1 fun y μ2 ι2 H2 p2 m2 sr2 h2 u ru => ?_)
  refine ⟨σ, ι2, μ2, x, y, sr2, rv.mono p2 m2, ru, PG.bind h2 fun z μ3 ι3 H3 p3 m3 sr3 h3 w rw' => ?_⟩
  cases z <;> first | exact False.elim h3 | skip
  rename_i b
  cases rw'
  refine ⟨b, rfl, ?_⟩
  cases b with
  | true =>
    refine iteT (i3 σ H3 _ ι3 ρ μ3 sr3 (rl.mono ((p1.trans p2).trans p3) ((m1.trans m2).trans m3)) (PG.bind h3 fun z μ4 ι4 H4 p4 m4 sr4 h4 w rw4 => ?_))
    exact ⟨σ, ι4, μ4, y, z, sr4, ru.mono (p3.trans p4) (m3.trans m4), rw4, h4⟩
  | false => exact iteF (ok1 sr3 h3 (.bl _))
theorem DE.chain {op op' : CmpOp} (ho : OpA κ X (compareOp op) g) (ho' : OpA κ X (compareOp op') g') (ha : DE κ X a ra) (hb : DE κ X b rb) (hc : DE κ X c rc) (hm : lastMarks [op, op'] [b, c] = false := by with_unfolding_all rfl) :
    DE κ X (.Compare a [op, op'] [b, c] pos) (eChain g g' ra rb rc) := fun W tk => by
  obtain ⟨t1, p1, i1⟩ := ha W tk
  obtain ⟨t2, p2, i2⟩ := hb W tk
  obtain ⟨t3, p3, i3⟩ := hc W tk
  exact ⟨_, pe_chain (ho W tk) (ho' W tk) p1 p2 p3 hm, im_chain i1 i2 i3⟩
theorem DT.chain {op op' : CmpOp} (ho : OpA κ X (compareOp op) g) (ho' : OpA κ X (compareOp op') g') (ha : DE κ X a ra) (hb : DE κ X b rb) (hc : DE κ X c rc) (hm : lastMarks [op, op'] [b, c] = false := by with_unfolding_all rfl) :
    DT κ X (.Compare a [op, op'] [b, c] pos) (tB1 (eChain g g' ra rb rc)) := fun W tk => by
  obtain ⟨t1, p1, i1⟩ := ha W tk
  obtain ⟨t2, p2, i2⟩ := hb W tk
  obtain ⟨t3, p3, i3⟩ := hc W tk
  exact ⟨_, pt_chain (ho W tk) (ho' W tk) p1 p2 p3 hm, im_b1 (im_chain i1 i2 i3)⟩
end
end Lr
namespace Lr
open PySem PySem.Spec L2
open PyProof.Rows hiding St
def IxA (κ : Kap) (X : Cx) (g : G2) : Prop := ∀ W, Takes X W → IxR X (rA X.K κ W g)
def gIx : G2 := fun x y μ => match y with
  | .int i => match x with
    | .str z => if z.length ≤ 16777216 then (match atI z.cps.toList i with
      | some c => .ok (.str ⟨#[c]⟩) μ
      | none => .bad) else .bad
    | .scr ns => match atI ns i with
      | some n => .ok (.int n) μ
      | none => .bad
    | x => match seqOf μ x with
      | some xs => match atI xs i with
        | some v => .ok v μ
        | none => .bad
      | none => .bad
  | _ => .bad
section
variable {κ : Kap} {X : Cx} {a b c e : Expr} {ra rb rc r : AE} {pos p2 : Pos} {g g' : G2} {k : Nat} {es : List Expr} {rs : AA}
theorem atI_rel {K : PySem.W.Frag} {ι : List Addr} {H : Hp} {xs : List AV} {vs : List V} {i : Int} {x : AV} (r : RelL K κ ι H xs vs) (e : atI xs i = some x) : ∃ v, atI vs i = some v ∧ Rel K κ ι H x v := by
  unfold atI at e ⊢
  rw [← r.length]
  cases q : ixN xs.length i with
  | none => rw [q] at e; cases e
  | some j =>
    rw [q] at e
    exact r.get e
theorem ix_gIx : IxA κ X gIx := fun W tk value slice pins s σ H x y v u Q I rx ry hh hs => by
  obtain ⟨σ0, ι, μ, a, b, sr, ra, rb, h⟩ := hh
  unfold gIx at h
  cases b <;> first | exact False.elim h | skip
  rename_i i
  cases rb
  have seq : ∀ {xs : List AV}, seqOf μ a = some xs → PG X.K κ W σ0 ι H (CV X.K κ Q) (match atI xs i with | some v => Res.ok v μ | none => .bad) → wpAny (model X.prog X.w) X.A (subscriptTail value slice v u) (EP X pins σ Q) X.xe s := fun {xs} e1 h => by
    cases q : atI xs i with
    | none => rw [q] at h; exact False.elim h
    | some z =>
      rw [q] at h
      obtain ⟨p, vs, rfl, hq, rl⟩ := seqOf_rel sr ra e1
      obtain ⟨zv, ez, rz⟩ := atI_rel rl q
      rcases hq with hq | hq
      · exact ix_list value slice pins s σ H _ _ v u Q I rx ry ⟨p, vs, i, zv, rfl, rfl, hq, ez, ok1 sr h rz⟩ hs
      · exact ix_tup value slice pins s σ H _ _ v u Q I rx ry ⟨p, vs, i, zv, rfl, rfl, hq, ez, ok1 sr h rz⟩ hs
  cases a with
  | str z =>
    cases ra
    simp only at h
    by_cases hz : z.length ≤ 16777216
    · rw [if_pos hz] at h
      cases q : atI z.cps.toList i with
      | none => rw [q] at h; exact False.elim h
      | some c =>
        rw [q] at h
        exact ix_str value slice pins s σ H _ _ v u Q I rx ry ⟨z, i, c, rfl, rfl, by rw [line16]; exact hz, q, ok1 sr h (.str _)⟩ hs
    · rw [if_neg hz] at h
      exact False.elim h
  | scr ns =>
    cases ra with
    | scr hq =>
      simp only at h
      cases q : atI ns i with
      | none => rw [q] at h; exact False.elim h
      | some n =>
        rw [q] at h
        have e2 : atI (ns.map V.int) i = some (.int n) := by
          unfold atI at q ⊢
          rw [List.length_map]
          cases q2 : ixN ns.length i with
          | none => rw [q2] at q; cases q
          | some j =>
            rw [q2] at q
            simp only [Option.bind_some] at q ⊢
            rw [List.getElem?_map, q]
            rfl
        exact ix_list value slice pins s σ H _ _ v u Q I rx ry ⟨_, _, i, _, rfl, rfl, hq.sq, e2, ok1 sr h (.int n)⟩ hs
  | tup xs => exact seq rfl h
  | lst xs => exact seq rfl h
  | loc n =>
    cases q : seqOf μ (.loc n) with
    | none => simp only [q] at h; exact False.elim h
    | some xs => simp only [q] at h; exact seq q h
  | _ => exact False.elim h
theorem DE.ix (hr : IxA κ X g) (ha : DE κ X a ra) (hb : DE κ X b rb) (hs : PlainIx b := by intro _ _; rfl) : DE κ X (.Subscript a b pos) (eOp g ra rb) := fun W tk => by
  obtain ⟨t1, p1, i1⟩ := ha W tk
  obtain ⟨t2, p2, i2⟩ := hb W tk
  exact ⟨_, pe_ix (hr W tk) p1 p2 hs, im_op i1 i2⟩
abbrev AO' := Loc → Store → Res (Option Int)
def oNone : AO' := fun _ μ => .ok none μ
def oSome (r : AE) : AO' := fun ρ μ => (r ρ μ).bind fun x μ1 => match x with
  | .int i => .ok (some i) μ1
  | _ => .bad
def DO (κ : Kap) (X : Cx) (e : Option Expr) (r : AO') : Prop := ∀ W : WX, Takes X W → ∃ t : TO, PO X e t ∧ ∀ (σ : St) (H : Hp) (Q : Option Int → Hp → Prop) (ι : List Addr) (ρ : Loc) (μ : Store), SR X.K κ ι μ H → RelS X.K κ ι H ρ σ → PG X.K κ W σ ι H (fun o _ H' => Q o H') (r ρ μ) → t σ H Q
theorem DO.none : DO κ X none oNone := fun W _ => ⟨_, po_none, fun σ H Q ι ρ μ sr rl h => h ι H (List.prefix_refl _) (HM.refl _) sr⟩
theorem DO.some (ha : DE κ X a ra) : DO κ X (some a) (oSome ra) := fun W tk => by
  obtain ⟨t, p, i⟩ := ha W tk
  refine ⟨_, po_some p, fun σ H Q ι ρ μ sr rl h => ?_⟩
  refine i σ H _ ι ρ μ sr rl (PG.bind h fun x μ1 ι1 H1 p1 m1 sr1 h1 v rv => ?_)
  cases x <;> first | exact False.elim h1 | skip
  cases rv
  exact ⟨_, rfl, h1 ι1 H1 (List.prefix_refl _) (HM.refl _) sr1⟩
def cutA {α : Type} (xs : List α) (lo hi : Option Int) : List α := (xs.drop (HT.sIx xs.length 0 lo)).take (HT.sIx xs.length xs.length hi - HT.sIx xs.length 0 lo)
def eSl (a : AE) (lo hi : AO') : AE := fun ρ μ => (a ρ μ).bind fun x μ1 => (lo ρ μ1).bind fun l μ2 => (hi ρ μ2).bind fun h μ3 => match x with
  | .tup xs => .ok (.tup (cutA xs l h)) μ3
  | .str z => if z.length ≤ 16777216 then .ok (.str ⟨(cutA z.cps.toList l h).toArray⟩) μ3 else .bad
  | _ => .bad
variable {lo hi : Option Expr} {rl rh : AO'}
def rC (K : PySem.W.Frag) (κ : Kap) (W : WX) (g : Fn) : List V → Hp → VK → Prop := fun xs H Q => ∃ (σ : St) (ι : List Addr) (μ : Store) (as : List AV), SR K κ ι μ H ∧ RelL K κ ι H as xs ∧ PG K κ W σ ι H (CV K κ Q) (g as μ)
def CallA (κ : Kap) (X : Cx) (f : Value) (g : Fn) : Prop := ∀ W, Takes X W → CallR X f (rC X.K κ W g)
abbrev FnN := List AV → Store → Res (List AV)
abbrev CN' (K : PySem.W.Frag) (κ : Kap) (H : Hp) (Q : VK) : List AV → List Addr → Hp → Prop := fun vs ι' H' => ∀ (a : Addr) (xs : List V), RelL K κ ι' H' vs xs → H' a = some (.lst xs) → a ∉ ι' → H a = none → Q (.ref a) H'
def rCN (K : PySem.W.Frag) (κ : Kap) (W : WX) (g : FnN) : List V → Hp → VK → Prop := fun xs H Q => ∃ (σ : St) (ι₀ : List Addr) (H₀ : Hp) (μ₀ : Store) (ι : List Addr) (μ : Store) (as : List AV), SR K κ ι₀ μ₀ H₀ ∧ HM ι₀ H₀ ι H ∧ SR K κ ι μ H ∧ RelL K κ ι H as xs ∧ PG K κ W σ ι₀ H₀ (CN' K κ H₀ Q) (g as μ)
def CallN (κ : Kap) (X : Cx) (f : Value) (g : FnN) : Prop := ∀ W, Takes X W → CallR X f (rCN X.K κ W g)
def eCB (g : Fn) (r : AA) : AE := fun ρ μ => (r ρ μ).bind fun xs μ1 => g xs μ1
def aCB (g : FnN) (r : AA) : AA := fun ρ μ => (r ρ μ).bind fun xs μ1 => g xs μ1
variable {x : Str} {p : Pos} {id T : String} {f : Fn} {fn : FnN}
theorem DE.callB (hc : CallA κ X (.builtin id) f) (hg : Gl X x) (hm : X.mg x = none) (hv : bootBuiltins x = some (.builtin id)) (ha : DA κ X (e :: es) rs) (hn : x ≠ "__name__" := by decide) (hdb : (x == ("__debug__" : Str)) = false := by decide)
    (he : starEach (e :: es) X.env = (false, eval e X.env) :: starEach es X.env := by rfl) (hpl : (backTo pos (starEach es X.env)).any (·.1) = false := by rfl) : DE κ X (.Call (.Name x p) (e :: es) [] pos) (eCB f rs) := fun W tk => by
  obtain ⟨t, q, i⟩ := ha W tk
  refine ⟨_, pe_callB (hc W tk) hg hm hv q hn hdb he hpl, fun σ H Q ι ρ μ sr rl h => ?_⟩
  exact i σ H _ ι ρ μ sr rl (PG.bind h fun xs μ1 ι1 H1 p1 m1 sr1 h1 vs rv => ⟨σ, ι1, μ1, xs, sr1, rv, h1⟩)
theorem DE.callTy (hc : CallA κ X (.type T) f) (hg : Gl X x) (hm : X.mg x = none) (hv : bootBuiltins x = some (.type T)) (ha : DA κ X (e :: es) rs) (hn : x ≠ "__name__" := by decide) (hdb : (x == ("__debug__" : Str)) = false := by decide)
    (he : starEach (e :: es) X.env = (false, eval e X.env) :: starEach es X.env := by rfl) (hpl : (backTo pos (starEach es X.env)).any (·.1) = false := by rfl) : DE κ X (.Call (.Name x p) (e :: es) [] pos) (eCB f rs) := fun W tk => by
  obtain ⟨t, q, i⟩ := ha W tk
  refine ⟨_, pe_callTy (hc W tk) hg hm hv q hn hdb he hpl, fun σ H Q ι ρ μ sr rl h => ?_⟩
  exact i σ H _ ι ρ μ sr rl (PG.bind h fun xs μ1 ι1 H1 p1 m1 sr1 h1 vs rv => ⟨σ, ι1, μ1, xs, sr1, rv, h1⟩)
theorem DN.callB (cl : Cl X k) (hc : CallN κ X (.builtin id) fn) (hg : Gl X x) (hm : X.mg x = none) (hv : bootBuiltins x = some (.builtin id)) (ha : DA κ X (e :: es) rs) (hn : x ≠ "__name__" := by decide) (hdb : (x == ("__debug__" : Str)) = false := by decide)
    (he : starEach (e :: es) X.env = (false, eval e X.env) :: starEach es X.env := by rfl) (hpl : (backTo pos (starEach es X.env)).any (·.1) = false := by rfl) : DN κ X (.Call (.Name x p) (e :: es) [] pos) (aCB fn rs) := DN.mk cl fun W tk => by
  obtain ⟨t, q, i⟩ := ha W tk
  refine ⟨_, pe_callB (hc W tk) hg hm hv q hn hdb he hpl, fun σ H Q ι ρ μ sr rl h => ?_⟩
  exact i σ H _ ι ρ μ sr rl (PG.bind0 h fun xs μ1 ι1 H1 p1 m1 sr1 h1 vs rv => ⟨σ, ι, H, μ, ι1, μ1, xs, sr, m1, sr1, rv, h1⟩)
def gLen : Fn := fun as μ => match as with
  | [.str z] => if z.length ≤ 16777216 then .ok (.int z.length) μ else .bad
  | [.scr ns] => .ok (.int ns.length) μ
  | [x] => match seqOf μ x with
    | some xs => .ok (.int xs.length) μ
    | none => .bad
  | _ => .bad
theorem ca_len : CallA κ X (.builtin "len") gLen := fun W tk pins s σ H xs us Q I r hh => by
  obtain ⟨σ0, ι, μ, as, sr, rl, h⟩ := hh
  unfold gLen at h
  split at h
  · rename_i z
    cases rl with
    | cons r1 r2 =>
      cases r2; cases r1
      by_cases hz : z.length ≤ 16777216
      · rw [if_pos hz] at h
        exact call_len pins s σ H _ us Q I r ⟨_, _, rfl, ⟨by rw [line16]; exact hz, rfl⟩, ok1 sr h (.int _)⟩
      · rw [if_neg hz] at h
        exact False.elim h
  · rename_i ns
    cases rl with
    | cons r1 r2 =>
      cases r2
      cases r1 with
      | scr hq => exact call_len pins s σ H _ us Q I r ⟨_, ns.length, rfl, .inl ⟨_, hq.sq, by simp⟩, ok1 sr h (.int _)⟩
  · rename_i x n1 n2
    split at h
    · rename_i ys e1
      cases rl with
      | cons r1 r2 =>
        cases r2
        obtain ⟨p, vs, rfl, hq, rl⟩ := seqOf_rel sr r1 e1
        refine call_len pins s σ H _ us Q I r ⟨_, ys.length, rfl, ?_, ok1 sr h (.int _)⟩
        rcases hq with hq | hq
        · exact .inl ⟨vs, hq, rl.length⟩
        · exact .inr ⟨vs, hq, rl.length⟩
    · exact False.elim h
  · exact False.elim h
def gAbs : Fn := fun as μ => match as with
  | [.int i] => .ok (.int (if i < 0 then -i else i)) μ
  | _ => .bad
theorem ca_abs : CallA κ X (.builtin "abs") gAbs := fun W tk pins s σ H xs us Q I r hh => by
  obtain ⟨σ0, ι, μ, as, sr, rl, h⟩ := hh
  unfold gAbs at h
  split at h
  · cases rl with
    | cons r1 r2 =>
      cases r2; cases r1
      exact call_abs pins s σ H _ us Q I r ⟨_, rfl, ok1 sr h (.int _)⟩
  · exact False.elim h
def gMax : Fn := fun as μ => match as with
  | [.int i, .int j] => .ok (.int (if j > i then j else i)) μ
  | _ => .bad
def gMin : Fn := fun as μ => match as with
  | [.int i, .int j] => .ok (.int (if j < i then j else i)) μ
  | _ => .bad
theorem ca_max (cl : Cl X k) : CallA κ X (.builtin "max") gMax := fun W tk pins s σ H xs us Q I r hh => by
  obtain ⟨σ0, ι, μ, as, sr, rl, h⟩ := hh
  unfold gMax at h
  split at h
  · cases rl with
    | cons r1 r2 =>
      cases r2 with
      | cons r2 r3 =>
        cases r3; cases r1; cases r2
        exact call_max2 cl.calm pins s σ H _ us Q I r ⟨_, _, rfl, ok1 sr h (.int _)⟩
  · exact False.elim h
theorem ca_min (cl : Cl X k) : CallA κ X (.builtin "min") gMin := fun W tk pins s σ H xs us Q I r hh => by
  obtain ⟨σ0, ι, μ, as, sr, rl, h⟩ := hh
  unfold gMin at h
  split at h
  · cases rl with
    | cons r1 r2 =>
      cases r2 with
      | cons r2 r3 =>
        cases r3; cases r1; cases r2
        exact call_min2 cl.calm pins s σ H _ us Q I r ⟨_, _, rfl, ok1 sr h (.int _)⟩
  · exact False.elim h
def gInt : Fn := fun as μ => match as with
  | [.int i] => .ok (.int i) μ
  | [.bl b] => .ok (.int (if b then 1 else 0)) μ
  | _ => .bad
theorem ca_int : CallA κ X (.type "int") gInt := fun W tk pins s σ H xs us Q I r hh => by
  obtain ⟨σ0, ι, μ, as, sr, rl, h⟩ := hh
  unfold gInt at h
  split at h
  · cases rl with
    | cons r1 r2 =>
      cases r2; cases r1
      exact call_int1 pins s σ H _ us Q I r (.inl ⟨_, rfl, ok1 sr h (.int _)⟩)
  · cases rl with
    | cons r1 r2 =>
      cases r2; cases r1
      exact call_int1 pins s σ H _ us Q I r (.inr ⟨_, rfl, ok1 sr h (.int _)⟩)
  · exact False.elim h
def gStr : Fn := fun as μ => match as with
  | [.int i] => if i.natAbs.log2 < 1920 then .ok (.str (toString i)) μ else .bad
  | [.str z] => .ok (.str z) μ
  | [.bl b] => .ok (.str (if b then "True" else "False")) μ
  | _ => .bad
def blsOf : List AV → Option (List Bool)
  | [] => some []
  | .bl b :: r => (blsOf r).map (b :: ·)
  | _ => none
theorem bls_map : ∀ {xs : List AV} {bs : List Bool}, blsOf xs = some bs → xs = bs.map AV.bl
  | [], bs, e => by cases e; rfl
  | x :: xs, bs, e => by
    cases x <;> first | (cases e; done) | skip
    simp only [blsOf, Option.map_eq_some_iff] at e
    obtain ⟨r, e1, e2⟩ := e
    subst e2
    rw [bls_map e1]
    rfl
theorem RelL.bls {K : PySem.W.Frag} {ι : List Addr} {H : Hp} : ∀ {bs : List Bool} {vs : List V}, RelL K κ ι H (bs.map AV.bl) vs → vs = bs.map V.bl
  | [], _, .nil => rfl
  | b :: bs, _, .cons h r => by
    cases h
    rw [RelL.bls r]
    rfl
def gAll : Fn := fun as μ => match as with
  | [x] => match lsOf μ x with
    | some xs => match blsOf xs with
      | some bs => .ok (.bl (bs.all _root_.id)) μ
      | none => .bad
    | none => .bad
  | _ => .bad
def gAny : Fn := fun as μ => match as with
  | [x] => match lsOf μ x with
    | some xs => match blsOf xs with
      | some bs => .ok (.bl (bs.any _root_.id)) μ
      | none => .bad
    | none => .bad
  | _ => .bad
theorem ca_all (cl : Cl X k) : CallA κ X (.builtin "all") gAll := fun W tk pins s σ H xs us Q I r hh => by
  obtain ⟨σ0, ι, μ, as, sr, rl, h⟩ := hh
  unfold gAll at h
  split at h <;> first | exact False.elim h | skip
  split at h <;> first | exact False.elim h | skip
  split at h <;> first | exact False.elim h | skip
  rename_i x _ xs e1 _ bs e2
  cases rl with
  | cons r1 r2 =>
    cases r2
    obtain ⟨p, vs, rfl, hq, rl⟩ := ls_rel sr r1 e1
    rw [bls_map e2] at rl
    rw [rl.bls] at hq
    exact cr_all cl.calm pins s σ H _ us Q I r ⟨p, bs, rfl, hq, ok1 sr h (.bl _)⟩
theorem ca_any (cl : Cl X k) : CallA κ X (.builtin "any") gAny := fun W tk pins s σ H xs us Q I r hh => by
  obtain ⟨σ0, ι, μ, as, sr, rl, h⟩ := hh
  unfold gAny at h
  split at h <;> first | exact False.elim h | skip
  split at h <;> first | exact False.elim h | skip
  split at h <;> first | exact False.elim h | skip
  rename_i x _ xs e1 _ bs e2
  cases rl with
  | cons r1 r2 =>
    cases r2
    obtain ⟨p, vs, rfl, hq, rl⟩ := ls_rel sr r1 e1
    rw [bls_map e2] at rl
    rw [rl.bls] at hq
    exact cr_any cl.calm pins s σ H _ us Q I r ⟨p, bs, rfl, hq, ok1 sr h (.bl _)⟩
def gTuple : Fn := fun as μ => match as with
  | [x] => match seqOf μ x with
    | some xs => .ok (.tup xs) μ
    | none => .bad
  | _ => .bad
theorem ca_tuple : CallA κ X (.type "tuple") gTuple := fun W tk pins s σ H xs us Q I r hh => by
  obtain ⟨σ0, ι, μ, as, sr, rl, h⟩ := hh
  unfold gTuple at h
  split at h <;> first | exact False.elim h | skip
  split at h <;> first | exact False.elim h | skip
  rename_i x _ xs e1
  cases rl with
  | cons r1 r2 =>
    cases r2
    obtain ⟨p, vs, rfl, hq, rl⟩ := seqOf_rel sr r1 e1
    refine call_tuple_of pins s σ H _ us Q I r ⟨p, vs, rfl, ?_⟩
    rcases hq with hq | hq
    · exact .inl ⟨hq, fun l hn => okT sr h rl hn⟩
    · exact .inr ⟨hq, ok1 sr h (.tup hq rl)⟩
def gList : FnN := fun as μ => match as with
  | [x] => match seqOf μ x with
    | some xs => .ok xs μ
    | none => .bad
  | _ => .bad
end
end Lr
namespace Lr
open PySem PySem.Spec L2
open PyProof.Rows hiding St
section
variable {κ : Kap} {X : Cx} {a b c e : Expr} {ra rb rc r : AE} {pos p2 : Pos} {g g' : G2} {k : Nat} {es : List Expr} {rs : AA}
mutual
def toD : AV → Option PyData
  | .non => some .none
  | .bl b => some (.bool b)
  | .int i => some (.int i)
  | .str x => some (.str x)
  | .tup xs => (toDL xs).map .tuple
  | .lst xs => (toDL xs).map .list
  | .dct kvs => (toDD kvs).map .dict
  | .loc _ => none | .obj _ => none | .scr _ => none | .ty _ => none
def toDL : List AV → Option (List PyData)
  | [] => some []
  | x :: xs => match toD x, toDL xs with
    | some d, some ds => some (d :: ds)
    | _, _ => none
def toDD : List (AV × AV) → Option (List (PyData × PyData))
  | [] => some []
  | (x, y) :: xs => match toD x, toD y, toDD xs with
    | some d, some e, some ds => some ((d, e) :: ds)
    | _, _, _ => none
end
mutual
theorem reads_of {pins : List (Addr × Obj)} {σ : St} {H : Hp} {s : Shared} {ι : List Addr} (I : Inv X pins σ H s) : ∀ (x : AV) (v : V) (u : Value) (d : PyData), Rel X.K κ ι H x v → RelV v u → toD x = some d → ∃ as, Reads s.heap u d as ∧ sysModules ∉ as
  | .non, v, u, d, r, ru, e => by cases r; cases ru; cases e; exact ⟨_, .none, by simp⟩
  | .bl b, v, u, d, r, ru, e => by cases r; cases ru; cases e; exact ⟨_, .bool b, by simp⟩
  | .int i, v, u, d, r, ru, e => by cases r; obtain ⟨t, rfl⟩ := ru; cases e; exact ⟨_, .int i t, by simp⟩
  | .str y, v, u, d, r, ru, e => by cases r; obtain ⟨t, rfl⟩ := ru; cases e; exact ⟨_, .str y t, by simp⟩
  | .tup xs, v, u, d, r, ru, e => by
    cases r with
    | tup h r =>
      cases ru
      simp only [toD, Option.map_eq_some_iff] at e
      obtain ⟨ds, e1, rfl⟩ := e
      obtain ⟨its, rv, ⟨o, h1, h2, n, h3⟩, _⟩ := I.tuple h
      obtain ⟨as, q, nm⟩ := reads_ofL I xs _ its ds r rv e1
      exact ⟨as, .tuple h1 h2 h3 q, nm⟩
  | .lst xs, v, u, d, r, ru, e => by
    cases r with
    | lst h r =>
      cases ru
      simp only [toD, Option.map_eq_some_iff] at e
      obtain ⟨ds, e1, rfl⟩ := e
      obtain ⟨its, rv, ⟨o, n, h1, h2, _, h3⟩, _⟩ := I.list h.sq
      obtain ⟨as, q, nm⟩ := reads_ofL I xs _ its ds r rv e1
      obtain ⟨_, _, hn⟩ := h
      exact ⟨_, .list h1 h2 h3 q, by simp only [List.mem_cons, not_or]; exact ⟨fun z => hn z.symm, nm⟩⟩
  | .dct xs, v, u, d, r, ru, e => by
    cases r with
    | dct h ho hd hn r =>
      cases ru
      simp only [toD, Option.map_eq_some_iff] at e
      obtain ⟨ds, e1, rfl⟩ := e
      obtain ⟨h1, _⟩ := I.hok _ _ h
      obtain ⟨as, bs, q1, q2, n1, n2⟩ := reads_ofD I xs _ ds r e1
      refine ⟨_, .dict h1 ho.1 hd q1 q2, ?_⟩
      simp only [List.cons_append, List.mem_cons, List.mem_append, not_or]
      exact ⟨fun z => hn z.symm, n1, n2⟩
  | .loc _, _, _, _, _, _, e => by cases e
  | .obj _, _, _, _, _, _, e => by cases e
  | .scr _, _, _, _, _, _, e => by cases e
  | .ty _, _, _, _, _, _, e => by cases e
theorem reads_ofL {pins : List (Addr × Obj)} {σ : St} {H : Hp} {s : Shared} {ι : List Addr} (I : Inv X pins σ H s) : ∀ (xs : List AV) (vs : List V) (us : List Value) (ds : List PyData), RelL X.K κ ι H xs vs → Vals vs us → toDL xs = some ds → ∃ as, ReadsAll s.heap us ds as ∧ sysModules ∉ as
  | [], vs, us, ds, r, rv, e => by cases r; cases rv; cases e; exact ⟨_, .nil, by simp⟩
  | x :: xs, vs, us, ds, r, rv, e => by
    cases r with
    | cons r1 r2 =>
      cases rv with
      | cons v1 v2 =>
        unfold toDL at e
        cases q1 : toD x with
        | none => rw [q1] at e; cases e
        | some d =>
          cases q2 : toDL xs with
          | none => rw [q1, q2] at e; cases e
          | some ds' =>
            rw [q1, q2] at e
            cases e
            obtain ⟨as, h1, n1⟩ := reads_of I x _ _ d r1 v1 q1
            obtain ⟨bs, h2, n2⟩ := reads_ofL I xs _ _ ds' r2 v2 q2
            exact ⟨_, .cons h1 h2, by simp only [List.mem_append, not_or]; exact ⟨n1, n2⟩⟩
theorem reads_ofD {pins : List (Addr × Obj)} {σ : St} {H : Hp} {s : Shared} {ι : List Addr} (I : Inv X pins σ H s) : ∀ (xs : List (AV × AV)) (es : List DictEntry) (ds : List (PyData × PyData)), RelD X.K κ ι H xs es → toDD xs = some ds →
    ∃ as bs, ReadsAll s.heap (es.map (·.key)) (ds.map (·.1)) as ∧ ReadsAll s.heap (es.map (·.val)) (ds.map (·.2)) bs ∧ sysModules ∉ as ∧ sysModules ∉ bs
  | [], es, ds, r, e => by cases r; cases e; exact ⟨_, _, .nil, .nil, by simp, by simp⟩
  | (x, y) :: xs, es, ds, r, e => by
    cases r with
    | cons r1 v1 r2 v2 r3 =>
      unfold toDD at e
      cases q1 : toD x with
      | none => rw [q1] at e; cases e
      | some d =>
        cases q2 : toD y with
        | none => rw [q1, q2] at e; cases e
        | some d2 =>
          cases q3 : toDD xs with
          | none => rw [q1, q2, q3] at e; cases e
          | some ds' =>
            rw [q1, q2, q3] at e
            cases e
            obtain ⟨as, h1, n1⟩ := reads_of I x _ _ d r1 v1 q1
            obtain ⟨bs, h2, n2⟩ := reads_of I y _ _ d2 r2 v2 q2
            obtain ⟨cs, cs2, h3, h4, n3, n4⟩ := reads_ofD I xs _ ds' r3 q3
            exact ⟨_, _, .cons h1 h3, .cons h2 h4, by simp only [List.mem_append, not_or]; exact ⟨n1, n3⟩, by simp only [List.mem_append, not_or]; exact ⟨n2, n4⟩⟩
end
def repOk (d : PyData) : Bool := d.showable && decide (d.shown.length ≤ 16777216) && decide (d.depth ≤ 150)
def gRepr : Fn := fun as μ => match as with
  | [x] => match toD x with
    | some d => if repOk d then .ok (.str d.shown) μ else .bad
    | none => .bad
  | _ => .bad
theorem ca_repr (cl : Cl X k) : CallA κ X (.builtin "repr") gRepr := fun W tk pins s σ H xs us Q I r hh => by
  obtain ⟨σ0, ι, μ, as, sr, rl, h⟩ := hh
  unfold gRepr at h
  split at h <;> first | exact False.elim h | skip
  split at h <;> first | exact False.elim h | skip
  rename_i x _ d ed
  by_cases hz : repOk d = true
  · rw [if_pos hz] at h
    unfold repOk at hz
    simp only [Bool.and_eq_true, decide_eq_true_eq] at hz
    obtain ⟨⟨hs, hl⟩, hd⟩ := hz
    cases rl with
    | cons r1 r2 =>
      cases r2
      rename_i v
      obtain ⟨u, rfl, ru⟩ := r.one
      obtain ⟨as, rd, nm⟩ := reads_of I x v u d r1 ru ed
      have hu := cl.room.un
      have hl2 : d.shown.length ≤ sizeLine := by rw [line16]; exact hl
      have q := ok1 sr h (.str d.shown)
      cases rd with
      | none => exact PySem.P.repr_of_none ⟨.str _, H, I.tok _, ⟨_, rfl⟩, q⟩
      | bool b => exact PySem.P.repr_of_bool ⟨.str _, H, I.tok _, ⟨_, rfl⟩, q⟩
      | int i t => exact PySem.P.repr_of_int (by simpa [PyData.showable] using hs) ⟨.str _, H, I.tok _, ⟨_, rfl⟩, q⟩
      | str y t => exact PySem.P.repr_of_str ⟨.str _, H, I.tok _, ⟨_, rfl⟩, q⟩ hl2
      | list h1 h2 h3 h4 => exact PySem.repr_of_reads' (.list h1 h2 h3 h4) hs (fun _ => nm) cl.gd (by omega) (fun _ _ e => e) (fun h' t tk hk => ⟨.str _, H, I.kept hk, ⟨_, rfl⟩, q⟩) hl2
      | tuple h1 h2 h3 h4 => exact PySem.repr_of_reads' (.tuple h1 h2 h3 h4) hs (fun _ => nm) cl.gd (by omega) (fun _ _ e => e) (fun h' t tk hk => ⟨.str _, H, I.kept hk, ⟨_, rfl⟩, q⟩) hl2
      | dict h1 h2 h3 h4 h5 => exact PySem.repr_of_reads' (.dict h1 h2 h3 h4 h5) hs (fun _ => nm) cl.gd (by omega) (fun _ _ e => e) (fun h' t tk hk => ⟨.str _, H, I.kept hk, ⟨_, rfl⟩, q⟩) hl2
  · rw [if_neg hz] at h
    exact False.elim h
end
end Lr
namespace Lr
open PySem PySem.Spec L2
open PyProof.Rows hiding St
def sNil : AS := fun ρ μ => .nx ρ μ
def sSeq (a b : AS) : AS := fun ρ μ => match a ρ μ with
  | .nx ρ1 μ1 => b ρ1 μ1
  | o => o
def sExpr (r : AE) : AS := fun ρ μ => (r ρ μ).out ρ fun _ μ1 => .nx ρ μ1
def sRet (r : AE) : AS := fun ρ μ => (r ρ μ).out ρ fun v μ1 => .rt v μ1
def sRetN : AS := fun _ μ => .rt .non μ
def sIf (t : AT) (a b : AS) : AS := fun ρ μ => (t ρ μ).out ρ fun k μ1 => if k then a ρ μ1 else b ρ μ1
def sBreak : AS := fun ρ μ => .bk ρ μ
def sCont : AS := fun ρ μ => .ct ρ μ
def sSet (i : Nat) (r : AE) : AS := fun ρ μ => (r ρ μ).out ρ fun v μ1 => .nx (ρ.set i (some v)) μ1
section
variable {κ : Kap} {X : Cx} {a b c e : Expr} {ra rb rc r : AE} {pos p2 pos' : Pos} {g g' : G2} {k : Nat} {es : List Expr} {rs : AA} {st : Stmt} {sts : List Stmt} {s1 s2 : AS} {ta : AT}
theorem RelS.set {K : PySem.W.Frag} {ι : List Addr} {H : Hp} {ρ : Loc} {σ : St} {i : Nat} {v : AV} {x : V} (rl : RelS K κ ι H ρ σ) (r : Rel K κ ι H v x) : RelS K κ ι H (ρ.set i (some v)) (σ.set i (some x)) := by
  refine ⟨by simp [rl.1], fun j w e => ?_⟩
  by_cases hj : i = j
  · subst hj
    have hi : i < ρ.length := by
      have := (List.getElem?_eq_some_iff.mp e).1
      simpa using this
    rw [List.getElem?_set_self hi] at e
    cases e
    exact ⟨x, List.getElem?_set_self (by rw [← rl.1]; exact hi), r⟩
  · rw [List.getElem?_set_ne hj] at e ⊢
    exact rl.2 j w e
theorem DSs.nil : DSs κ X [] sNil := fun W _ => ⟨_, pss_nil, fun D σ H ι ρ μ sr rl h => h ι H σ (List.prefix_refl _) (HM.refl _) sr rl⟩
theorem DSs.one (h : DS κ X st s1) : DSs κ X [st] s1 := fun W tk => let ⟨t, p, i⟩ := h W tk; ⟨t, pss_one p, i⟩
theorem DSs.cons (h1 : DS κ X st s1) (h2 : DSs κ X sts s2) : DSs κ X (st :: sts) (sSeq s1 s2) := fun W tk => by
  obtain ⟨t, p, i⟩ := h1 W tk
  obtain ⟨u, q, j⟩ := h2 W tk
  refine ⟨_, pss_cons p q, fun D σ H ι ρ μ sr rl h => ?_⟩
  refine i _ σ H ι ρ μ sr rl ?_
  unfold sSeq at h
  cases e : s1 ρ μ with
  | nx ρ1 μ1 =>
    rw [e] at h
    exact fun ι1 H1 σ1 p1 m1 sr1 rl1 => j D σ1 H1 ι1 ρ1 μ1 sr1 rl1 (PO'.mono p1 m1 h)
  | rt v μ1 => rw [e] at h; exact h
  | bk ρ1 μ1 => rw [e] at h; exact h
  | ct ρ1 μ1 => rw [e] at h; exact h
  | ex c v ρ1 μ1 => rw [e] at h; exact h
  | bad => rw [e] at h; exact h
theorem DS.expr (ha : DE κ X a ra) (hs : swapsWith a none pos.line X.env = pure false := by rfl) : DS κ X (.Expr a pos) (sExpr ra) := fun W tk => by
  obtain ⟨t, p, i⟩ := ha W tk
  refine ⟨_, ps_expr p hs, fun D σ H ι ρ μ sr rl h => ?_⟩
  exact i σ H _ ι ρ μ sr rl (PO'.bind rl h fun v μ1 ι1 H1 p1 m1 sr1 h1 x rx => h1 ι1 H1 σ (List.prefix_refl _) (HM.refl _) sr1 (rl.mono p1 m1))
theorem DS.ret (ha : DE κ X a ra) : DS κ X (.Return (some a) pos) (sRet ra) := fun W tk => by
  obtain ⟨t, p, i⟩ := ha W tk
  refine ⟨_, ps_ret p, fun D σ H ι ρ μ sr rl h => ?_⟩
  exact i σ H _ ι ρ μ sr rl (PO'.bind rl h fun v μ1 ι1 H1 p1 m1 sr1 h1 x rx => h1 ι1 H1 x (List.prefix_refl _) (HM.refl _) sr1 rx)
theorem DS.brk : DS κ X (.Break pos) sBreak := fun W tk => ⟨_, ps_break, fun D σ H ι ρ μ sr rl h => h ι H σ (List.prefix_refl _) (HM.refl _) sr rl⟩
theorem DS.ifs {t : Expr} {x y : List Stmt} (ht : DT κ X t ta) (h1 : DSs κ X x s1) (h2 : DSs κ X y s2) : DS κ X (.If t x y pos) (sIf ta s1 s2) := fun W tk => by
  obtain ⟨t0, p0, i0⟩ := ht W tk
  obtain ⟨t1, p1, i1⟩ := h1 W tk
  obtain ⟨t2, p2, i2⟩ := h2 W tk
  refine ⟨_, ps_if p0 p1 p2, fun D σ H ι ρ μ sr rl h => ?_⟩
  refine i0 σ H _ ι ρ μ sr rl (PO'.bind rl h fun b μ1 ι1 H1 p1 m1 sr1 h1 => ?_)
  cases b with
  | true => exact iteT (i1 D σ H1 ι1 ρ μ1 sr1 (rl.mono p1 m1) h1)
  | false => exact iteF (i2 D σ H1 ι1 ρ μ1 sr1 (rl.mono p1 m1) h1)
theorem DS.set {i : Nat} {x : Str} (hN : X.N.Nodup) (hi : X.N[i]? = some x) (hx : L2.Loc X.env.scope x) (ha : DE κ X a ra) (hs : swapsWith a (some (.Name x pos')) pos.line X.env = pure false := by rfl)
    (hf : X.fn x = true ∨ X.env.scope.names.lookup x = some .local := by first | exact .inl rfl | exact .inr rfl | assumption) : DS κ X (.Assign [.Name x pos'] a pos) (sSet i ra) := fun W tk => by
  obtain ⟨t, p, j⟩ := ha W tk
  refine ⟨_, ps_set hN hi hx p hs hf, fun D σ H ι ρ μ sr rl h => ?_⟩
  exact j σ H _ ι ρ μ sr rl (PO'.bind rl h fun v μ1 ι1 H1 p1 m1 sr1 h1 x rx => h1 ι1 H1 _ (List.prefix_refl _) (HM.refl _) sr1 ((rl.mono p1 m1).set rx))
abbrev AG := AV → Loc → Option Loc
def gNm (i : Nat) : AG := fun v ρ => some (ρ.set i (some v))
abbrev AGs := List AV → Loc → Option Loc
def gN0 : AGs := fun vs ρ => match vs with
  | [] => some ρ
  | _ => none
def gN1 (g : AG) (gs : AGs) : AGs := fun vs ρ => match vs with
  | v :: r => match g v ρ with
    | some ρ1 => gs r ρ1
    | none => none
  | [] => none
def gTp (gs : AGs) : AG := fun v ρ => match v with
  | .tup xs => gs xs ρ
  | _ => none
def ImG (K : PySem.W.Frag) (κ : Kap) (is : List Nat) (t : TG) (g : AG) : Prop := ∀ (v : AV) (x : V) (σ : St) (H : Hp) (Q : St → Hp → Prop) (ι : List Addr) (ρ ρ' : Loc), RelS K κ ι H ρ σ → Rel K κ ι H v x → g v ρ = some ρ' →
  (∀ σ', RelS K κ ι H ρ' σ' → (∀ vs : List Nat, (∀ i ∈ is, i ∈ vs) → wipe σ' vs = wipe σ vs) → Q σ' H) → t x σ H Q
def ImGs (K : PySem.W.Frag) (κ : Kap) (is : List Nat) (t : TGs) (g : AGs) : Prop := ∀ (v : List AV) (x : List V) (σ : St) (H : Hp) (Q : St → Hp → Prop) (ι : List Addr) (ρ ρ' : Loc), RelS K κ ι H ρ σ → RelL K κ ι H v x → g v ρ = some ρ' →
  (∀ σ', RelS K κ ι H ρ' σ' → (∀ vs : List Nat, (∀ i ∈ is, i ∈ vs) → wipe σ' vs = wipe σ vs) → Q σ' H) → t x σ H Q
def DG (κ : Kap) (X : Cx) (e : Expr) (is : List Nat) (g : AG) : Prop := ∃ t, L2.PG X e t ∧ ImG X.K κ is t g
def DGs (κ : Kap) (X : Cx) (e : List Expr) (is : List Nat) (g : AGs) : Prop := ∃ t, PGs X e t ∧ ImGs X.K κ is t g
theorem wipe_set {σ : St} {i : Nat} {x : Option V} : ∀ {vs : List Nat}, i ∈ vs → wipe (σ.set i x) vs = wipe σ vs
  | [], h => by cases h
  | v :: vs, h => by
    unfold wipe
    by_cases e : i ∈ vs
    · rw [wipe_set e]
    · have ei : i = v := by
        rcases List.mem_cons.mp h with h | h
        · exact h
        · exact absurd h e
      subst ei
      have go : ∀ {ws : List Nat} (τ : St), i ∉ ws → wipe (τ.set i x) ws = (wipe τ ws).set i x := by
        intro ws
        induction ws with
        | nil => intro τ _; rfl
        | cons w ws ih =>
          intro τ hn
          simp only [List.mem_cons, not_or] at hn
          unfold wipe
          rw [ih τ hn.2, List.set_comm _ _ hn.1]
      rw [go σ e, List.set_set]
theorem DG.name {i : Nat} {x : Str} (hN : X.N.Nodup) (hi : X.N[i]? = some x) (hx : L2.Loc X.env.scope x) (hf : X.fn x = true ∨ X.env.scope.names.lookup x = some .local := by first | exact .inl rfl | exact .inr rfl | assumption) : DG κ X (.Name x pos) [i] (gNm i) :=
  ⟨_, pg_name hN hi hx hf, fun v x σ H Q ι ρ ρ' rl r e h => by
    cases e
    exact h _ (rl.set r) fun vs hv => wipe_set (hv i (by simp))⟩
theorem DGs.nil : DGs κ X [] [] gN0 := ⟨_, pgs_nil, fun v x σ H Q ι ρ ρ' rl r e h => by
  cases r with
  | nil =>
    cases e
    exact ⟨rfl, h σ rl fun _ _ => rfl⟩
  | cons _ _ => cases e⟩
theorem DGs.cons {is js : List Nat} {g : AG} {gs : AGs} (h1 : DG κ X e is g) (h2 : DGs κ X es js gs) (hs : (assignEach (e :: es) X.env).map (·.2) = assign e X.env :: (assignEach es X.env).map (·.2) := by rfl) : DGs κ X (e :: es) (is ++ js) (gN1 g gs) := by
  obtain ⟨t, p, i⟩ := h1
  obtain ⟨u, q, j⟩ := h2
  refine ⟨_, pgs_cons p q hs, fun v x σ H Q ι ρ ρ' rl r e h => ?_⟩
  cases r with
  | nil => cases e
  | cons r1 r2 =>
    rename_i v1 x1 vs xs
    simp only [gN1] at e
    cases e1 : g v1 ρ with
    | none => rw [e1] at e; cases e
    | some ρ1 =>
      rw [e1] at e
      refine ⟨x1, xs, rfl, i v1 x1 σ H _ ι ρ ρ1 rl r1 e1 fun σ1 rl1 w1 => j vs xs σ1 H _ ι ρ1 ρ' rl1 r2 e fun σ2 rl2 w2 => h σ2 rl2 fun ws hw => ?_⟩
      rw [w2 ws fun i hi => hw i (List.mem_append_right _ hi), w1 ws fun i hi => hw i (List.mem_append_left _ hi)]
theorem DG.tup {is : List Nat} {gs : AGs} {n : Nat} {k : Nat} (hc : X.calm = true) (h : DGs κ X es is gs) (hl : ∀ vs ρ ρ', gs vs ρ = some ρ' → vs.length = n) (hn : (assignEach es X.env).length = n := by rfl) (hst : (assignEach es X.env).findIdx? (·.1) = none := by rfl) :
    DG κ X (.Tuple es k pos) is (gTp gs) := by
  obtain ⟨t, p, i⟩ := h
  refine ⟨_, pg_tup hc p hn hst, fun v x σ H Q ι ρ ρ' rl r e h => ?_⟩
  cases r with
  | tup hq r =>
    exact ⟨_, _, rfl, hq, by rw [← r.length]; exact hl _ _ _ e, i _ _ σ H Q ι ρ ρ' rl r e h⟩
  | _ => cases e
theorem gl0 : ∀ vs ρ ρ', gN0 vs ρ = some ρ' → vs.length = 0 := fun vs ρ ρ' e => by
  cases vs with
  | nil => rfl
  | cons _ _ => cases e
theorem gl1 {g : AG} {gs : AGs} {n : Nat} (h : ∀ vs ρ ρ', gs vs ρ = some ρ' → vs.length = n) : ∀ vs ρ ρ', gN1 g gs vs ρ = some ρ' → vs.length = n + 1 := fun vs ρ ρ' e => by
  cases vs with
  | nil => cases e
  | cons v r =>
    simp only [gN1] at e
    split at e
    · exact congrArg (· + 1) (h _ _ _ e)
    · cases e
def sAsg (r : AE) (g : AG) : AS := fun ρ μ => (r ρ μ).out ρ fun v μ1 => match g v ρ with
  | some ρ1 => .nx ρ1 μ1
  | none => .bad
theorem DS.asg {tg : Expr} {is : List Nat} {g : AG} (ha : DE κ X a ra) (hg : DG κ X tg is g) (hs : swapsWithSole [tg] a pos.line X.env = pure false := by rfl) (hw : swappedStores [tg] a X.env = pure none := by rfl)
    (h1 : (assignEach [tg] X.env).map (·.2) = [assign tg X.env] := by rfl) : DS κ X (.Assign [tg] a pos) (sAsg ra g) := fun W tk => by
  obtain ⟨t, p, j⟩ := ha W tk
  obtain ⟨u, q, l⟩ := hg
  refine ⟨_, ps_asg p q hs hw h1, fun D σ H ι ρ μ sr rl h => ?_⟩
  refine j σ H _ ι ρ μ sr rl (PO'.bind rl h fun v μ1 ι1 H1 p1 m1 sr1 h1 x rx => ?_)
  cases e : g v ρ with
  | none => rw [e] at h1; exact False.elim h1
  | some ρ1 =>
    rw [e] at h1
    exact l v x σ H1 _ ι1 ρ ρ1 (rl.mono p1 m1) rx e fun σ' rl' _ => h1 ι1 H1 σ' (List.prefix_refl _) (HM.refl _) sr1 rl'
def sPar (r : AA) (gs : AGs) : AS := fun ρ μ => (r ρ μ).out ρ fun vs μ1 => if vs.length ≤ 16777216 then (match gs vs ρ with
  | some ρ1 => .nx ρ1 μ1
  | none => .bad) else .bad
theorem DS.parG {ts : List Expr} {is : List Nat} {gs : AGs} {n k k2 : Nat} {pt p3 : Pos} (hc : X.calm = true) (ha : DA κ X es rs) (hg : DGs κ X ts is gs) (hl : ∀ vs ρ ρ', gs vs ρ = some ρ' → vs.length = n)
    (hw : swappedStores [.Tuple ts k pt] (.Tuple es k2 p3) X.env = pure none := by rfl) (hs : swapsWithSole [.Tuple ts k pt] (.Tuple es k2 p3) pos.line X.env = pure false := by rfl)
    (h1 : (assignEach [.Tuple ts k pt] X.env).map (·.2) = [assign (.Tuple ts k pt) X.env] := by rfl) (hn : (assignEach ts X.env).length = n := by rfl) (hst : (assignEach ts X.env).findIdx? (·.1) = none := by rfl) :
    DS κ X (.Assign [.Tuple ts k pt] (.Tuple es k2 p3) pos) (sPar rs gs) := fun W tk => by
  obtain ⟨t, p, i⟩ := DS.asg (κ := κ) (pos := pos) (DE.tup (x1 := k2) (pos := p3) ha) (DG.tup (k := k) (pos := pt) hc hg hl hn hst) hs hw h1 W tk
  refine ⟨t, p, fun D σ H ι ρ μ sr rl h => i D σ H ι ρ μ sr rl ?_⟩
  revert h
  unfold sPar sAsg eTup
  cases rs ρ μ with
  | ok vs μ1 =>
    simp only [Res.out_ok, Res.bind_ok]
    by_cases hz : vs.length ≤ 16777216
    · simp only [if_pos hz, Res.out_ok, gTp]
      exact id
    · simp only [if_neg hz, Res.out_bad]
      exact id
  | ex c v μ1 => exact id
  | bad => exact id
theorem DS.par2 {i j : Nat} {x y : Str} {px py pt : Pos} {kt k2 pt2} (hc : X.calm = true) (hN : X.N.Nodup) (hi : X.N[i]? = some x) (hj : X.N[j]? = some y) (hij : i ≠ j)
    (hx : X.env.scope.names.lookup x = some .local) (hy : X.env.scope.names.lookup y = some .local) (ha : DA κ X [a, b] rs)
    (hw : swappedStores [.Tuple [.Name x px, .Name y py] kt pt] (.Tuple [a, b] k2 pt2) X.env = pure (some [x, y]))
    (hs : swapsWithSole [.Tuple [.Name x px, .Name y py] kt pt] (.Tuple [a, b] k2 pt2) pos.line X.env = pure false := by rfl) :
    DS κ X (.Assign [.Tuple [.Name x px, .Name y py] kt pt] (.Tuple [a, b] k2 pt2) pos) (sPar rs (gN1 (gNm i) (gN1 (gNm j) gN0))) := fun W tk => by
  obtain ⟨t, p, l⟩ := ha W tk
  refine ⟨_, ps_par hc hN hi hj hij hx hy p hw hs, fun D σ H ι ρ μ sr rl h => ?_⟩
  refine l σ H _ ι ρ μ sr rl (PO'.bind rl h fun vs μ1 ι1 H1 p1 m1 sr1 h1 xs rx => ?_)
  split at h1
  · match vs, rx with
    | [v, w], .cons r1 (.cons r2 .nil) => exact ⟨_, _, rfl, h1 ι1 H1 _ (List.prefix_refl _) (HM.refl _) sr1 (((rl.mono p1 m1).set r1).set r2)⟩
    | [], .nil => exact False.elim h1
    | [_], .cons _ .nil => exact False.elim h1
    | _ :: _ :: _ :: _, .cons _ (.cons _ (.cons _ _)) => exact False.elim h1
  · exact False.elim h1
theorem DS.par3 {i j l : Nat} {x y z : Str} {px py pz pt : Pos} {kt k2 pt2} (hc : X.calm = true) (hN : X.N.Nodup) (hi : X.N[i]? = some x) (hj : X.N[j]? = some y) (hl : X.N[l]? = some z) (hij : i ≠ j) (hil : i ≠ l) (hjl : j ≠ l)
    (hx : X.env.scope.names.lookup x = some .local) (hy : X.env.scope.names.lookup y = some .local) (hz : X.env.scope.names.lookup z = some .local) (ha : DA κ X [a, b, c] rs)
    (hw : swappedStores [.Tuple [.Name x px, .Name y py, .Name z pz] kt pt] (.Tuple [a, b, c] k2 pt2) X.env = pure (some [x, y, z]))
    (hs : swapsWithSole [.Tuple [.Name x px, .Name y py, .Name z pz] kt pt] (.Tuple [a, b, c] k2 pt2) pos.line X.env = pure false := by rfl) :
    DS κ X (.Assign [.Tuple [.Name x px, .Name y py, .Name z pz] kt pt] (.Tuple [a, b, c] k2 pt2) pos) (sPar rs (gN1 (gNm i) (gN1 (gNm j) (gN1 (gNm l) gN0)))) := fun W tk => by
  obtain ⟨t, p, q⟩ := ha W tk
  refine ⟨_, ps_par3 hc hN hi hj hl hij hil hjl hx hy hz p hw hs, fun D σ H ι ρ μ sr rl h => ?_⟩
  refine q σ H _ ι ρ μ sr rl (PO'.bind rl h fun vs μ1 ι1 H1 p1 m1 sr1 h1 xs rx => ?_)
  split at h1
  · match vs, rx with
    | [v, w, u], .cons r1 (.cons r2 (.cons r3 .nil)) => exact ⟨_, _, _, rfl, h1 ι1 H1 _ (List.prefix_refl _) (HM.refl _) sr1 ((((rl.mono p1 m1).set r1).set r2).set r3)⟩
    | [], .nil => exact False.elim h1
    | [_], .cons _ .nil => exact False.elim h1
    | [_, _], .cons _ (.cons _ .nil) => exact False.elim h1
    | _ :: _ :: _ :: _ :: _, .cons _ (.cons _ (.cons _ (.cons _ _))) => exact False.elim h1
  · exact False.elim h1
end
end Lr
namespace Lr
open PySem PySem.Spec L2
open PyProof.Rows hiding St
def FUEL : Nat := 1000000000000
def whileF (t : AT) (b : AS) : Nat → AS
  | 0 => fun _ _ => .bad
  | n + 1 => fun ρ μ => (t ρ μ).out ρ fun k μ1 => if k then (match b ρ μ1 with
      | .nx ρ2 μ2 => whileF t b n ρ2 μ2
      | .ct ρ2 μ2 => whileF t b n ρ2 μ2
      | .bk ρ2 μ2 => .nx ρ2 μ2
      | o => o) else .nx ρ μ1
def sWhile (t : AT) (b : AS) : AS := whileF t b FUEL
inductive Src where
  | dat (xs : List AV)
  | live (n : Nat)
def Src.at (s : Src) (i : Nat) (μ : Store) : Option (Option AV) := match s with
  | .dat xs => some xs[i]?
  | .live n => match μ[n]? with
    | some (.lst xs) => some xs[i]?
    | _ => none
abbrev AI := Loc → Store → Res Src
def forF (g : AG) (b : AS) (src : Src) : Nat → Nat → AS
  | 0, _ => fun _ _ => .bad
  | m + 1, i => fun ρ μ => match src.at i μ with
    | none => .bad
    | some none => .nx ρ μ
    | some (some v) => match g v ρ with
      | none => .bad
      | some ρ1 => match b ρ1 μ with
        | .nx ρ2 μ2 => forF g b src m (i + 1) ρ2 μ2
        | .ct ρ2 μ2 => forF g b src m (i + 1) ρ2 μ2
        | .bk ρ2 μ2 => .nx ρ2 μ2
        | o => o
def sFor (it : AI) (g : AG) (b : AS) : AS := fun ρ μ => (it ρ μ).out ρ fun src μ1 => forF g b src FUEL 0 ρ μ1
section
variable {κ : Kap} {X : Cx} {a b c e : Expr} {ra rb rc r : AE} {pos p2 pos' : Pos} {g g' : G2} {k : Nat} {es : List Expr} {rs : AA} {st : Stmt} {sts : List Stmt} {s1 s2 : AS} {ta : AT}
def JR (K : PySem.W.Frag) (κ : Kap) (ι₀ : List Addr) (H₀ : Hp) (src : Src) (J : It) : Prop := ∀ (i : Nat) (ι : List Addr) (H : Hp) (μ : Store), HV ι₀ H₀ ι H → SR K κ ι μ H → match src.at i μ with
  | none => True
  | some none => J.stop i H
  | some (some v) => J.go i H ∧ ∀ x H', J.yld i H x H' → HM ι H ι H' ∧ SR K κ ι μ H' ∧ Rel K κ ι H' v x
def DI (κ : Kap) (X : Cx) (tg e : Expr) (r : AI) : Prop := ∀ W : WX, Takes X W → ∃ wi : TI, PI X tg e wi ∧ ∀ (σ : St) (H : Hp) (R : It → Hp → Prop) (ι : List Addr) (ρ : Loc) (μ : Store), SR X.K κ ι μ H → RelS X.K κ ι H ρ σ →
  PG X.K κ W σ ι H (fun src ι' H' => ∀ J, JR X.K κ ι' H' src J → R J H') (r ρ μ) → wi σ H R
theorem DS.fr {tg iter : Expr} {body : List Stmt} {is : List Nat} {it : AI} {g : AG} {b : AS} (hp : PassesOwn (model X.prog X.w) X.A X.env X.xe) (hc : X.calm = true) (hi : DI κ X tg iter it) (hg : DG κ X tg is g) (hb : DSs κ X body b)
    (hs : ∀ x, foldedSetIterable iter X.env x = pure x := by intro _; rfl) : DS κ X (.For tg iter body [] pos) (sFor it g b) := fun W tk => by
  obtain ⟨wi, p0, i0⟩ := hi W tk
  obtain ⟨tg', pg, ig⟩ := hg
  obtain ⟨t1, p1, i1⟩ := hb W tk
  refine ⟨_, ps_for hp hc p0 pg p1 hs, fun D σ H ι ρ μ sr rl h => ?_⟩
  refine i0 σ H _ ι ρ μ sr rl (PO'.bind rl h fun src μ1 ι1 H1 q1 m1 sr1 h1 J hJ => ?_)
  refine ⟨fun i m σ' H' => ∃ (ι' : List Addr) (ρ' : Loc) (μ' : Store), HM ι1 H1 ι' H' ∧ SR X.K κ ι' μ' H' ∧ RelS X.K κ ι' H' ρ' σ' ∧ PO' X.K κ W ι' H' D (forF g b src m i ρ' μ'), ⟨FUEL, ι1, ρ, μ1, HM.refl _, sr1, rl.mono q1 m1, h1⟩, ?_⟩
  rintro i m σ' H' ⟨ι', ρ', μ', hm, sr', rl', h'⟩
  cases m with
  | zero => exact False.elim h'
  | succ m =>
    have hj := hJ i ι' H' μ' hm.v sr'
    unfold forF at h'
    cases e : src.at i μ' with
    | none => rw [e] at h'; exact False.elim h'
    | some o =>
      rw [e] at h' hj
      cases o with
      | none => exact .inl ⟨hj, h' ι' H' σ' (List.prefix_refl _) (HM.refl _) sr' rl'⟩
      | some v =>
        simp only at h' hj
        cases eg : g v ρ' with
        | none => rw [eg] at h'; exact False.elim h'
        | some ρ1 =>
          rw [eg] at h'
          refine .inr ⟨hj.1, fun σ2 H2 => ∃ (ι2 : List Addr) (ρ2 : Loc) (μ2 : Store), HM ι1 H1 ι2 H2 ∧ SR X.K κ ι2 μ2 H2 ∧ RelS X.K κ ι2 H2 ρ2 σ2 ∧ PO' X.K κ W ι2 H2 D (forF g b src m (i + 1) ρ2 μ2), fun σ2 H2 z => ⟨m, Nat.lt_succ_self _, z⟩, fun x H2 hy => ?_⟩
          obtain ⟨m2, sr2, rx⟩ := hj.2 x H2 hy
          refine ig v x σ' H2 _ ι' ρ' ρ1 (rl'.mono (List.prefix_refl _) m2) rx eg fun σ3 rl3 _ => ?_
          refine i1 _ σ3 H2 ι' ρ1 μ' sr2 rl3 ?_
          simp only at h'
          have h' := PO'.mono (List.prefix_refl _) m2 h'
          cases eb : b ρ1 μ' with
          | nx ρ2 μ2 => rw [eb] at h'; exact fun ι4 H4 σ4 q4 m4 sr4 rl4 => ⟨ι4, ρ2, μ2, (hm.trans m2).trans m4, sr4, rl4, PO'.mono q4 m4 h'⟩
          | ct ρ2 μ2 => rw [eb] at h'; exact fun ι4 H4 σ4 q4 m4 sr4 rl4 => ⟨ι4, ρ2, μ2, (hm.trans m2).trans m4, sr4, rl4, PO'.mono q4 m4 h'⟩
          | bk ρ2 μ2 => rw [eb] at h'; exact h'
          | rt v μ2 => rw [eb] at h'; exact h'
          | ex c v ρ2 μ2 => rw [eb] at h'; exact h'
          | bad => rw [eb] at h'; exact h'
def iAny (r : AE) : AI := fun ρ μ => (r ρ μ).bind fun x μ1 => match x with
  | .tup xs => .ok (.dat xs) μ1
  | .lst xs => .ok (.dat xs) μ1
  | .loc n => match μ1[n]? with
    | some (.lst _) => .ok (.live n) μ1
    | _ => .bad
  | _ => .bad
def rangeL (lo : Int) (n : Nat) : List AV := (List.range n).map fun i : Nat => .int (lo + i)
def iRng (r : AA) : AI := fun ρ μ => (r ρ μ).bind fun xs μ1 => match xs with
  | [.int j] => if decide (-(2 ^ 62) ≤ j) && decide (j < 2 ^ 62) then .ok (.dat (rangeL 0 j.toNat)) μ1 else .bad
  | _ => .bad
variable {tg iter : Expr}
theorem JR.seq {K : PySem.W.Frag} {ι : List Addr} {H : Hp} {xs : List AV} {vs : List V} {J : It} (rl : RelL K κ ι H xs vs) (hs : ∀ (i : Nat) (ι' : List Addr) (H' : Hp), HV ι H ι' H' → vs.length ≤ i → J.stop i H') (hg : ∀ (i : Nat) (x : V) (ι' : List Addr) (H' : Hp), HV ι H ι' H' → vs[i]? = some x → J.go i H' ∧ ∀ y H2, J.yld i H' y H2 → H2 = H' ∧ y = x) : JR K κ ι H (.dat xs) J := fun i ι' H' μ hm sr => by
  simp only [Src.at]
  cases e : xs[i]? with
  | none => exact hs i ι' H' hm (by rw [← rl.length]; exact List.getElem?_eq_none_iff.mp e)
  | some v =>
    obtain ⟨x, ex, rx⟩ := rl.get e
    obtain ⟨h1, h2⟩ := hg i x ι' H' hm ex
    refine ⟨h1, fun y H2 hy => ?_⟩
    obtain ⟨rfl, rfl⟩ := h2 y H2 hy
    exact ⟨HM.refl _, sr, rx.monoW hm.pre hm.w⟩
theorem JR.tup {K : PySem.W.Frag} {ι : List Addr} {H : Hp} {xs : List AV} {vs : List V} {p : Addr} (hq : SqT K H p vs) (rl : RelL K κ ι H xs vs) : JR K κ ι H (.dat xs) (Itt K p) :=
  JR.seq rl (fun i ι' H' hm hl => ⟨vs, hm.w.seqT hq, hl⟩) fun i x ι' H' hm ex => ⟨⟨vs, x, hm.w.seqT hq, ex⟩, fun y H2 hy => by
    obtain ⟨e, h⟩ := hy
    have := h vs (hm.w.seqT hq)
    rw [ex] at this
    exact ⟨e, (Option.some.inj this).symm⟩⟩
theorem JR.lst {K : PySem.W.Frag} {ι : List Addr} {H : Hp} {xs : List AV} {vs : List V} {p : Addr} (hq : FzL K H p vs) (rl : RelL K κ ι H xs vs) : JR K κ ι H (.dat xs) (Itl K p) :=
  JR.seq rl (fun i ι' H' hm hl => ⟨vs, (hm.w.fz hq).sq, hl⟩) fun i x ι' H' hm ex => ⟨⟨vs, x, (hm.w.fz hq).sq, ex⟩, fun y H2 hy => by
    obtain ⟨e, h⟩ := hy
    have := h vs (hm.w.fz hq).sq
    rw [ex] at this
    exact ⟨e, (Option.some.inj this).symm⟩⟩
theorem JR.live {K : PySem.W.Frag} {ι : List Addr} {H : Hp} {n : Nat} {p : Addr} (hp : ι[n]? = some p) : JR K κ ι H (.live n) (Itl K p) := fun i ι' H' μ hm sr => by
  simp only [Src.at]
  have hp' := get_prefix hm.pre hp
  split
  · trivial
  · rename_i e
    split at e
    · rename_i xs q
      obtain ⟨vs, e1, r1⟩ := sr.obj n _ p q hp'
      exact ⟨vs, .inl (.inl e1), by rw [← r1.length]; exact List.getElem?_eq_none_iff.mp (Option.some.inj e)⟩
    · cases e
  · rename_i v e
    split at e
    · rename_i xs q
      obtain ⟨vs, e1, r1⟩ := sr.obj n _ p q hp'
      obtain ⟨x, ex, rx⟩ := r1.get (Option.some.inj e)
      refine ⟨⟨vs, x, .inl (.inl e1), ex⟩, fun y H2 hy => ?_⟩
      obtain ⟨rfl, h⟩ := hy
      have := h vs (.inl (.inl e1))
      rw [ex] at this
      cases this
      exact ⟨HM.refl _, sr, rx⟩
    · cases e
theorem iter_lst {pins : List (Addr × Obj)} {σ : St} {H : Hp} {s : Shared} {R : It → Hp → Prop} {E : Value → Shared → Prop} {q : Addr} {vs : List V} (I : Inv X pins σ H s) (hq : SqL X.K H q vs) (h : R (Itl X.K q) H) : wpAny (model X.prog X.w) X.A (pyIter (.ref q)) (PIE X pins σ tg R) E s := by
  obtain ⟨its, rv, p, _⟩ := I.list hq
  have fr : ∀ b ∈ [s.heap.objs.size], FpOk X pins H b := fun b hb => by
    obtain rfl : b = s.heap.objs.size := List.mem_singleton.mp hb
    exact I.fpOk (Nat.le_refl _) (I.hok.fresh (Nat.le_refl _))
  refine wpAny_pyIter_list p.isList ⟨s.heap.objs.size, _, _, Itl X.K q, H, rfl, ?_, turn_list q _, ?_, fr, h⟩
  · exact I.kept (t' := s.toks) fun b o e => Heap.get?_push_of_some _ e
  · exact ⟨_, Heap.get?_push_size _ rfl, rfl, rfl⟩
theorem iter_tup {pins : List (Addr × Obj)} {σ : St} {H : Hp} {s : Shared} {R : It → Hp → Prop} {E : Value → Shared → Prop} {q : Addr} {vs : List V} (I : Inv X pins σ H s) (hq : SqT X.K H q vs) (h : R (Itt X.K q) H) : wpAny (model X.prog X.w) X.A (pyIter (.ref q)) (PIE X pins σ tg R) E s := by
  obtain ⟨its, rv, p, _⟩ := I.tuple hq
  have fr : ∀ b ∈ [s.heap.objs.size], FpOk X pins H b := fun b hb => by
    obtain rfl : b = s.heap.objs.size := List.mem_singleton.mp hb
    exact I.fpOk (Nat.le_refl _) (I.hok.fresh (Nat.le_refl _))
  refine wpAny_pyIter_tuple (show s.heap.IsTuple q its.toArray from p) ⟨s.heap.objs.size, _, _, Itt X.K q, H, rfl, ?_, turn_tuple q _, ?_, fr, h⟩
  · exact I.kept (t' := s.toks) fun b o e => Heap.get?_push_of_some _ e
  · exact ⟨_, Heap.get?_push_size _ rfl, rfl, rfl⟩
theorem DI.any (ha : DE κ X a ra) : DI κ X tg a (iAny ra) := fun W tk => by
  obtain ⟨t, p, i⟩ := ha W tk
  refine ⟨fun σ H R => t σ H fun x H1 => ∃ q, x = .ref q ∧ (((∃ vs, SqL X.K H1 q vs) ∧ R (Itl X.K q) H1) ∨ ((∃ vs, SqT X.K H1 q vs) ∧ R (Itt X.K q) H1)), ⟨fun pins s σ H R I h => ?_⟩, fun σ H R ι ρ μ sr rl h => ?_⟩
  · refine thn (p.run pins s σ H _ I h) fun v s1 ⟨x, H1, I1, r1, q, e, h1⟩ => ?_
    subst e
    obtain rfl : v = Value.ref q := r1
    rcases h1 with ⟨⟨vs, hq⟩, h1⟩ | ⟨⟨vs, hq⟩, h1⟩
    · exact iter_lst I1 hq h1
    · exact iter_tup I1 hq h1
  · refine i σ H _ ι ρ μ sr rl (PG.bind0 h fun x μ1 ι1 H1 p1 m1 sr1 h1 v rv => ?_)
    cases rv <;> first | exact False.elim h1 | skip
    · rename_i xs q vs hq rl
      exact ⟨q, rfl, .inr ⟨⟨vs, hq⟩, h1 ι1 H1 p1 m1 sr1 _ (JR.tup hq rl)⟩⟩
    · rename_i xs q vs hq rl
      exact ⟨q, rfl, .inl ⟨⟨vs, hq.sq⟩, h1 ι1 H1 p1 m1 sr1 _ (JR.lst hq rl)⟩⟩
    · rename_i n q hq
      simp only at h1
      split at h1
      · rename_i xs e
        obtain ⟨vs, e1, r1⟩ := sr1.obj n _ q e hq
        exact ⟨q, rfl, .inl ⟨⟨vs, .inl (.inl e1)⟩, h1 ι1 H1 p1 m1 sr1 _ (JR.live hq)⟩⟩
      · exact False.elim h1
theorem rangeL_get {lo : Int} {n i : Nat} : (rangeL lo n)[i]? = if i < n then some (.int (lo + i)) else none := by
  unfold rangeL
  rw [List.getElem?_map]
  by_cases h : i < n
  · rw [List.getElem?_range h, if_pos h]; rfl
  · rw [List.getElem?_eq_none (by simpa using h), if_neg h]; rfl
theorem JR.rng {K : PySem.W.Frag} {ι : List Addr} {H : Hp} {lo : Int} {n : Nat} : JR K κ ι H (.dat (rangeL lo n)) (Itr lo n) := fun i ι' H' μ hm sr => by
  simp only [Src.at, rangeL_get]
  by_cases h : i < n
  · rw [if_pos h]
    refine ⟨h, fun x H2 hy => ?_⟩
    obtain ⟨rfl, rfl⟩ := hy
    exact ⟨HM.refl _, sr, .int _⟩
  · rw [if_neg h]
    show n ≤ i
    omega
theorem DI.rng1 {p : Pos} (hg : Gl X "range") (hm : X.mg "range" = none) (ha : DA κ X [a] rs) (hs : starEach [a] X.env = [(false, eval a X.env)] := by rfl) : DI κ X tg (.Call (.Name "range" p) [a] [] pos) (iRng rs) := fun W tk => by
  obtain ⟨t, p, i⟩ := ha W tk
  refine ⟨_, pi_range1 hg hm p hs, fun σ H R ι ρ μ sr rl h => ?_⟩
  refine i σ H _ ι ρ μ sr rl (PG.bind0 h fun xs μ1 ι1 H1 p1 m1 sr1 h1 vs rv => ?_)
  split at h1
  · rename_i j
    match vs, rv with
    | [v], .cons r1 .nil =>
      cases r1
      by_cases hz : (decide (-(2 ^ 62) ≤ j) && decide (j < 2 ^ 62)) = true
      · rw [if_pos hz] at h1
        simp only [Bool.and_eq_true, decide_eq_true_eq] at hz
        exact ⟨j, rfl, hz.1, hz.2, h1 ι1 H1 p1 m1 sr1 _ JR.rng⟩
      · rw [if_neg hz] at h1
        exact False.elim h1
  · exact False.elim h1
def kE (K : PySem.W.Frag) (κ : Kap) (W : WX) (r : AE) : TE := fun σ H Q => ∃ (ι : List Addr) (ρ : Loc) (μ : Store), SR K κ ι μ H ∧ RelS K κ ι H ρ σ ∧ PG K κ W σ ι H (CV K κ Q) (r ρ μ)
def kT (K : PySem.W.Frag) (κ : Kap) (W : WX) (r : AT) : TT := fun σ H Q => ∃ (ι : List Addr) (ρ : Loc) (μ : Store), SR K κ ι μ H ∧ RelS K κ ι H ρ σ ∧ PG K κ W σ ι H (CB Q) (r ρ μ)
def kG (K : PySem.W.Frag) (κ : Kap) (is : List Nat) (g : AG) : TG := fun x σ H Q => ∃ (ι : List Addr) (v : AV) (ρ ρ' : Loc), RelS K κ ι H ρ σ ∧ Rel K κ ι H v x ∧ g v ρ = some ρ' ∧ ∀ σ', RelS K κ ι H ρ' σ' → (∀ vs : List Nat, (∀ i ∈ is, i ∈ vs) → wipe σ' vs = wipe σ vs) → Q σ' H
theorem DE.kan {W : WX} (h : DE κ X e r) (tk : Takes X W) : PE X e (kE X.K κ W r) := by
  obtain ⟨t, p, i⟩ := h W tk
  exact ⟨fun pins s σ H Q I ⟨ι, ρ, μ, sr, rl, z⟩ => p.run pins s σ H Q I (i σ H Q ι ρ μ sr rl z)⟩
theorem DT.kan {W : WX} {t : AT} (h : DT κ X e t) (tk : Takes X W) : PT X e (kT X.K κ W t) := by
  obtain ⟨t, p, i⟩ := h W tk
  exact ⟨fun pins s σ H Q I ⟨ι, ρ, μ, sr, rl, z⟩ => p.run pins s σ H Q I (i σ H Q ι ρ μ sr rl z)⟩
theorem DG.kan {is : List Nat} {g : AG} (h : DG κ X e is g) : L2.PG X e (kG X.K κ is g) := by
  obtain ⟨t, p, i⟩ := h
  exact ⟨fun pins s σ H v u Q I rv ⟨ι, w, ρ, ρ', rl, r, eg, z⟩ => p.run pins s σ H v u Q I rv (i w v σ H Q ι ρ ρ' rl r eg z)⟩
def wipeA (ρ : Loc) : List Nat → Loc
  | [] => ρ
  | v :: vs => (wipeA ρ vs).set v none
def Res.nox {α : Type} : Res α → Res α
  | .ok a μ => .ok a μ
  | _ => .bad
@[simp] theorem Res.nox_ok {α : Type} (a : α) (μ : Store) : (Res.ok a μ).nox = .ok a μ := rfl
def lcF (g : AG) (tt : AT) (te : AE) (src : Src) : Nat → Nat → Loc → List AV → Store → Res (List AV)
  | 0, _, _, _, _ => .bad
  | m + 1, i, ρ, acc, μ => match src.at i μ with
    | none => .bad
    | some none => .ok acc μ
    | some (some v) => match g v ρ with
      | none => .bad
      | some ρ1 => (tt ρ1 μ).nox.bind fun b μ1 => if b then (te ρ1 μ1).nox.bind fun y μ2 => if acc.length < 16777216 then lcF g tt te src m (i + 1) ρ (acc ++ [y]) μ2 else .bad
        else lcF g tt te src m (i + 1) ρ acc μ1
def aLc (it : AI) (vs : List Nat) (g : AG) (tt : AT) (te : AE) : AA := fun ρ μ => (it ρ μ).bind fun src μ1 => lcF g tt te src FUEL 0 (wipeA ρ vs) [] μ1
def tTrue : AT := fun _ μ => .ok true μ
theorem RelS.wipe {K : PySem.W.Frag} {ι : List Addr} {H : Hp} {ρ : Loc} {σ : St} (rl : RelS K κ ι H ρ σ) : ∀ vs : List Nat, RelS K κ ι H (wipeA ρ vs) (L2.wipe σ vs)
  | [] => rl
  | v :: vs => by
    have ih := RelS.wipe rl vs
    unfold wipeA L2.wipe
    refine ⟨by simp [ih.1], fun i w e => ?_⟩
    by_cases hi : v = i
    · subst hi
      by_cases hl : v < (wipeA ρ vs).length
      · rw [List.getElem?_set_self hl] at e; cases e
      · rw [List.getElem?_eq_none (by simpa using hl)] at e; cases e
    · rw [List.getElem?_set_ne hi] at e ⊢
      exact ih.2 i w e
theorem wipe_none {τ : St} : ∀ {ws : List Nat}, (∀ w ∈ ws, τ[w]? = none ∨ τ[w]? = some none) → L2.wipe τ ws = τ
  | [], _ => rfl
  | w :: ws, h => by
    have ih := wipe_none (τ := τ) (ws := ws) fun i hi => h i (List.mem_cons_of_mem _ hi)
    show (L2.wipe τ ws).set w none = τ
    rw [ih]
    apply List.ext_getElem?
    intro j
    by_cases hj : w = j
    · subst hj
      rcases h w List.mem_cons_self with q | q
      · rw [q, List.getElem?_eq_none (by simpa using List.getElem?_eq_none_iff.mp q)]
      · rw [q, List.getElem?_set_self (List.getElem?_eq_some_iff.mp q).1]
    · rw [List.getElem?_set_ne hj]
theorem wipe_twice {σ : St} {vs : List Nat} : L2.wipe (L2.wipe σ vs) vs = L2.wipe σ vs := wipe_none fun w hw => by
  cases q : (L2.wipe σ vs)[w]? with
  | none => exact .inl rfl
  | some o =>
    cases o with
    | none => exact .inr rfl
    | some x => exact absurd hw (wipe_some q).2
abbrev W0 : WX := fun _ _ _ _ => False
theorem PG.nox {α : Type} {K : PySem.W.Frag} {W : WX} {σ σ' : St} {ι : List Addr} {H : Hp} {C : α → List Addr → Hp → Prop} {r : Res α} (h : PG K κ W σ ι H C r.nox) : PG K κ W0 σ' ι H C r := by
  cases r with
  | ok a μ => exact h
  | ex c v μ => exact False.elim h
  | bad => exact h
section
variable {elt tg iter : Expr} {ifs : List Expr} {scope : Scope} {own : List (Str × Nat)} {it : AI} {is : List Nat} {g : AG} {tt : AT} {te : AE}
theorem im_lc {wi : TI} {W : WX} {vs : List Nat} (hv : ∀ i ∈ is, i ∈ vs) (hw : ∀ (σ : St) (H : Hp) (R : It → Hp → Prop) (ι : List Addr) (ρ : Loc) (μ : Store), SR X.K κ ι μ H → RelS X.K κ ι H ρ σ → PG X.K κ W σ ι H (fun src ι' H' => ∀ J, JR X.K κ ι' H' src J → R J H') (it ρ μ) → wi σ H R) :
    ∀ σ H Q ι ρ μ, SR X.K κ ι μ H → RelS X.K κ ι H ρ σ → PG X.K κ W σ ι H (fun vs ι' H' => ∀ (a : Addr) (xs : List V), RelL X.K κ ι' H' vs xs → H' a = some (.lst xs) → a ∉ ι' → H a = none → Q (.ref a) H') (aLc it vs g tt te ρ μ) →
      tLc wi (kG X.K κ is g) (kT X.K κ W0 tt) (kE X.K κ W0 te) vs σ H Q := fun σ H Q ι ρ μ sr rl h => by
  refine hw σ H _ ι ρ μ sr rl (PG.bind0 h fun src μ1 ι1 H1 p1 m1 sr1 h1 J hJ D hD => ?_)
  have hD0 : H D = none := by
    cases e : H D with
    | none => rfl
    | some u =>
      by_cases z : D ∈ ι
      · exact absurd hD (sr1.on D (p1.subset z))
      · exact absurd hD (m1.live z e)
  refine ⟨fun i m H' => ∃ (ι' : List Addr) (acc : List AV) (av : List V) (μ' : Store), HM ι1 H1 ι' H' ∧ SR X.K κ ι' μ' H' ∧ D ∉ ι' ∧ H' D = some (.lst av) ∧ RelL X.K κ ι' H' acc av ∧
    PG X.K κ W σ ι H (fun vs ι' H' => ∀ (a : Addr) (xs : List V), RelL X.K κ ι' H' vs xs → H' a = some (.lst xs) → a ∉ ι' → H a = none → Q (.ref a) H') (lcF g tt te src m i (wipeA ρ vs) acc μ'),
    ⟨FUEL, ι1, [], [], μ1, HM.fresh hD, sr1.new hD, sr1.notin hD, upd_same, .nil, h1⟩, ?_⟩
  rintro i m H' ⟨ι', acc, av, μ', hm, sr', hn, eD, ra, h'⟩
  cases m with
  | zero => exact False.elim h'
  | succ m =>
    have hj := hJ i ι' H' μ' hm.v sr'
    unfold lcF at h'
    cases e : src.at i μ' with
    | none => rw [e] at h'; exact False.elim h'
    | some o =>
      rw [e] at h' hj
      cases o with
      | none => exact .inl ⟨hj, h' ι' H' (p1.trans hm.pre) (m1.trans hm) sr' D av ra eD hn hD0⟩
      | some v =>
        simp only at h' hj
        cases eg : g v (wipeA ρ vs) with
        | none => rw [eg] at h'; exact False.elim h'
        | some ρ1 =>
          rw [eg] at h'
          simp only at h'
          refine .inr ⟨hj.1, fun H2 => ∃ (ι2 : List Addr) (acc2 : List AV) (av2 : List V) (μ2 : Store), HM ι1 H1 ι2 H2 ∧ SR X.K κ ι2 μ2 H2 ∧ D ∉ ι2 ∧ H2 D = some (.lst av2) ∧ RelL X.K κ ι2 H2 acc2 av2 ∧
            PG X.K κ W σ ι H (fun vs ι' H' => ∀ (a : Addr) (xs : List V), RelL X.K κ ι' H' vs xs → H' a = some (.lst xs) → a ∉ ι' → H a = none → Q (.ref a) H') (lcF g tt te src m (i + 1) (wipeA ρ vs) acc2 μ2), fun H2 z => ⟨m, Nat.lt_succ_self _, z⟩, fun x H2 hy => ?_⟩
          obtain ⟨m2, sr2, rx⟩ := hj.2 x H2 hy
          have rw2 : RelS X.K κ ι' H2 (wipeA ρ vs) (L2.wipe σ vs) := ((rl.mono p1 m1).mono hm.pre hm).wipe vs |>.mono (List.prefix_refl _) m2
          refine ⟨ι', v, wipeA ρ vs, ρ1, rw2, rx, eg, fun σ2 rl2 hwp => ⟨?_, ?_⟩⟩
          · have z := hwp vs hv
            rw [z]
            exact wipe_twice
          · refine ⟨ι', ρ1, μ', sr2, rl2, PG.nox (PG.bindF (m1.trans (hm.trans m2)) h' fun b μ3 ι3 H3 p3 m3 sr3 h3 => ?_)⟩
            have hm3 := (hm.trans m2).trans m3
            have eD2 : H2 D = some (.lst av) := m2.oth D _ hn eD
            have eD3 : H3 D = some (.lst av) := m3.oth D _ hn eD2
            have hn3 : D ∉ ι3 := fun z => by
              have := m3.new D z hn
              rw [eD2] at this; cases this
            cases b with
            | false =>
              refine iteF ⟨ι3, acc, av, μ3, hm3, sr3, hn3, eD3, (ra.mono (List.prefix_refl _) m2).mono p3 m3, ?_⟩
              simpa using h3
            | true =>
              refine iteT ⟨ι3, ρ1, μ3, sr3, rl2.mono p3 m3, PG.nox (PG.bindF (m1.trans hm3) h3 fun y μ4 ι4 H4 p4 m4 sr4 h4 yv ry => ?_)⟩
              have eD4 : H4 D = some (.lst av) := m4.oth D _ hn3 eD3
              have hn4 : D ∉ ι4 := fun z => by
                have := m4.new D z hn3
                rw [eD3] at this; cases this
              have hm4 := hm3.trans m4
              by_cases hz : acc.length < 16777216
              · rw [if_pos hz] at h4
                have ra4 := (((ra.mono (List.prefix_refl _) m2).mono p3 m3).mono p4 m4)
                have mu : Mut (H4 D) := by rw [eD4]; trivial
                have m5 : HM ι1 H1 ι4 (upd H4 D (.lst (av ++ [yv]))) := hm4.mine mu (.inl hD)
                have w5 : HW H4 (upd H4 D (.lst (av ++ [yv]))) := (HM.mine (HM.refl (ι := [D]) H4) mu (.inr (by simp))).w
                refine ⟨av, eD4, by rw [line16, ← ra4.length]; exact hz, ι4, acc ++ [y], av ++ [yv], μ4, m5, sr4.other w5 hn4 (by rw [eD4]; trivial), hn4, upd_same, (ra4.append (.cons ry .nil)).monoW (List.prefix_refl _) w5, h4⟩
              · rw [if_neg hz] at h4
                exact False.elim h4
theorem DN.lc (cl : Cl X k) (hi : DI κ X tg iter it) (ok : BlkOk X.N X.env.scope scope own) (hv : ∀ i ∈ is, i ∈ own.map (·.2))
    (hg : ∀ (s : Shared) (H : Hp) (C : Addr) (cl : List (Str × Addr)) (fp : List Addr), DG κ (X.blk s H scope (compEnvC scope cl C X.env) fp) tg is g) (ht : ∀ (s : Shared) (H : Hp) (C : Addr) (cl : List (Str × Addr)) (fp : List Addr), PTs (X.blk s H scope (compEnvC scope cl C X.env) fp) ifs (kT X.K κ W0 tt))
    (he : ∀ (s : Shared) (H : Hp) (C : Addr) (cl : List (Str × Addr)) (fp : List Addr), DE κ (X.blk s H scope (compEnvC scope cl C X.env) fp) elt te) (hs : ∀ x, foldedSetIterable iter X.env x = pure x := by intro _; rfl) :
    DN κ X (.ListComp elt [⟨tg, iter, ifs, 0⟩] scope pos) (aLc it (own.map (·.2)) g tt te) := DN.mk cl fun W tk => by
  obtain ⟨wi, p0, i0⟩ := hi W tk
  exact ⟨_, pe_lc cl.calm cl.nd p0 ok (fun s H C cl fp => (hg s H C cl fp).kan) ht (fun s H C cl fp => (he s H C cl fp).kan takes0) hs, im_lc hv i0⟩
theorem lc_all {K : PySem.W.Frag} {Y : Cx} : PTs Y [] (kT K κ W0 tTrue) := ⟨fun pins s σ H Q I hw => by
  obtain ⟨ι, ρ, μ, sr, rl, h⟩ := hw
  exact pts_nil.run pins s σ H Q I (h ι H (List.prefix_refl _) (HM.refl _) sr)⟩
theorem lc_if {Y : Cx} (h : DT κ Y c tt) : PTs Y [c] (kT Y.K κ W0 tt) := pts_one (h.kan takes0)
end
end
end Lr
namespace Lr
open PySem PySem.Spec L2
open PyProof.Rows hiding St
mutual
def bel (n : Nat) : AV → Bool
  | .tup xs => belL n xs
  | .lst xs => belL n xs
  | .dct kvs => belD n kvs
  | .loc m => decide (m < n)
  | _ => true
def belL (n : Nat) : List AV → Bool
  | [] => true
  | x :: xs => bel n x && belL n xs
def belD (n : Nat) : List (AV × AV) → Bool
  | [] => true
  | (x, y) :: xs => bel n x && bel n y && belD n xs
end
def belO (n : Nat) : AO → Bool
  | .lst xs => belL n xs
  | .dct kvs => kvs.all fun p => bel n p.2
  | .fdct kvs => kvs.all fun p => bel n p.2
  | .dtn kvs => belD n kvs
  | .fdtn kvs => belD n kvs
  | .sts _ => true
  | .tpx xs => belL n xs
  | .dlf kvs => kvs.all fun p => bel n p.2
  | .ins _ fs => fs.all fun p => bel n p.2
  | .exc _ p => match p with | none => true | some v => bel n v
  | .dead => true
def gcOk (μ μ' : Store) : Prop := ∀ (i : Nat) (o : AO), i < μ.length → μ'[i]? = some o → μ[i]? = some o ∨ belO μ.length o = true
open Classical in
noncomputable def gc (μ : Store) (r : Res AV) : Res AV := match r with
  | .ok v μ' => if bel μ.length v = true ∧ gcOk μ μ' then .ok v (μ'.take μ.length) else .ok v μ'
  | r => r
def startA (n : Nat) (as : List AV) : Loc := as.map some ++ List.replicate (n - as.length) none
def bodyR (n : Nat) (b : AS) : Fn := fun as μ => match b (startA n as) μ with
  | .nx _ μ' => .ok .non μ'
  | .rt v μ' => .ok v μ'
  | .ex c p _ μ' => .ex c p μ'
  | _ => .bad
noncomputable def fnR (n m : Nat) (b : AS) : Fn := fun as μ => if as.length = m then gc μ (bodyR n b as μ) else .bad
section
variable {K : PySem.W.Frag} {κ : Kap} {ι : List Addr} {H : Hp} {n : Nat}
mutual
theorem Rel.take (n : Nat) : ∀ {v : AV} {x : V}, Rel K κ ι H v x → bel n v = true → Rel K κ (ι.take n) H v x
  | _, _, .non, _ => .non
  | _, _, .bl b, _ => .bl b
  | _, _, .int i, _ => .int i
  | _, _, .str z, _ => .str z
  | _, _, .tup h r, e => .tup h (RelL.takeN n r (by simpa [bel] using e))
  | _, _, .lst h r, e => .lst h (RelL.takeN n r (by simpa [bel] using e))
  | _, _, .dct h ho hd hn r, e => .dct h ho hd hn (RelD.takeN n r (by simpa [bel] using e))
  | _, _, .loc (n := m) h, e => .loc (by
      have hm : m < n := by simpa [bel] using e
      rw [List.getElem?_take_of_lt hm]
      exact h)
  | _, _, .obj k h, _ => .obj k h
  | _, _, .scr h, _ => .scr h
  | _, _, .ty m, _ => .ty m
theorem RelL.takeN (n : Nat) : ∀ {v : List AV} {x : List V}, RelL K κ ι H v x → belL n v = true → RelL K κ (ι.take n) H v x
  | _, _, .nil, _ => .nil
  | _, _, .cons h r, e => by
    simp only [belL, Bool.and_eq_true] at e
    exact .cons (Rel.take n h e.1) (RelL.takeN n r e.2)
theorem RelD.takeN (n : Nat) : ∀ {v : List (AV × AV)} {x : List DictEntry}, RelD K κ ι H v x → belD n v = true → RelD K κ (ι.take n) H v x
  | _, _, .nil, _ => .nil
  | _, _, .cons h hv g gv r, e => by
    simp only [belD, Bool.and_eq_true] at e
    exact .cons (Rel.take n h e.1.1) hv (Rel.take n g e.1.2) gv (RelD.takeN n r e.2)
end
mutual
theorem Rel.bel : ∀ {v : AV} {x : V}, Rel K κ ι H v x → bel ι.length v = true
  | _, _, .non => rfl
  | _, _, .bl b => rfl
  | _, _, .int i => rfl
  | _, _, .str z => rfl
  | _, _, .tup h r => by simpa [Lr.bel] using RelL.bel r
  | _, _, .lst h r => by simpa [Lr.bel] using RelL.bel r
  | _, _, .dct h ho hd hn r => by simpa [Lr.bel] using RelD.bel r
  | _, _, .loc h => by simpa [Lr.bel] using (List.getElem?_eq_some_iff.mp h).1
  | _, _, .obj k _ => rfl
  | _, _, .scr h => rfl
  | _, _, .ty m => rfl
theorem RelL.bel : ∀ {v : List AV} {x : List V}, RelL K κ ι H v x → belL ι.length v = true
  | _, _, .nil => rfl
  | _, _, .cons h r => by simp only [belL, Bool.and_eq_true]; exact ⟨Rel.bel h, RelL.bel r⟩
theorem RelD.bel : ∀ {v : List (AV × AV)} {x : List DictEntry}, RelD K κ ι H v x → belD ι.length v = true
  | _, _, .nil => rfl
  | _, _, .cons h hv g gv r => by simp only [belD, Bool.and_eq_true]; exact ⟨⟨Rel.bel h, Rel.bel g⟩, RelD.bel r⟩
end
theorem RelF.bel : ∀ {v : List (Str × AV)} {x : List (Str × V)}, RelF K κ ι H v x → (v.all fun p => Lr.bel ι.length p.2) = true
  | _, _, .nil => rfl
  | _, _, .cons h r => by rw [List.all_cons, h.2.bel, RelF.bel r]; rfl
theorem RelF.takeN : ∀ {v : List (Str × AV)} {x : List (Str × V)}, RelF K κ ι H v x → (v.all fun p => Lr.bel n p.2) = true → RelF K κ (ι.take n) H v x
  | _, _, .nil, _ => .nil
  | _, _, .cons h r, e => by
    rw [List.all_cons, Bool.and_eq_true] at e
    exact .cons ⟨h.1, h.2.take n e.1⟩ (RelF.takeN r e.2)
theorem RelK.bel : ∀ {v : List (Key × AV)} {x : List (Key × V)}, RelK K κ ι H v x → (v.all fun p => Lr.bel ι.length p.2) = true
  | _, _, .nil => rfl
  | _, _, .cons h r => by rw [List.all_cons, h.2.bel, RelK.bel r]; rfl
theorem RelK.takeN : ∀ {v : List (Key × AV)} {x : List (Key × V)}, RelK K κ ι H v x → (v.all fun p => Lr.bel n p.2) = true → RelK K κ (ι.take n) H v x
  | _, _, .nil, _ => .nil
  | _, _, .cons h r, e => by
    rw [List.all_cons, Bool.and_eq_true] at e
    exact .cons ⟨h.1, h.2.take n e.1⟩ (RelK.takeN r e.2)
theorem RelN.bel : ∀ {v : List (AV × AV)} {x : List (NestedKey × Addr × Value)}, RelN K κ ι H v x → belD ι.length v = true
  | _, _, .nil => rfl
  | _, _, .cons h r => by
    obtain ⟨_, h1, u, _, h2⟩ := h
    simp only [belD, Bool.and_eq_true]
    exact ⟨⟨h1.bel, h2.bel⟩, RelN.bel r⟩
theorem RelN.takeN : ∀ {v : List (AV × AV)} {x : List (NestedKey × Addr × Value)}, RelN K κ ι H v x → belD n v = true → RelN K κ (ι.take n) H v x
  | _, _, .nil, _ => .nil
  | _, _, .cons h r, e => by
    obtain ⟨h0, h1, u, h3, h2⟩ := h
    simp only [belD, Bool.and_eq_true] at e
    exact .cons ⟨h0, h1.take n e.1.1, u, h3, h2.take n e.1.2⟩ (RelN.takeN r e.2)
theorem RelLf.bel : ∀ {v : List (PySem.Leaf × AV)} {x : List (PySem.Leaf × Value)}, RelLf K κ ι H v x → (v.all fun p => Lr.bel ι.length p.2) = true
  | _, _, .nil => rfl
  | _, _, .cons h r => by
    obtain ⟨h0, u, h3, h2⟩ := h
    simp only [List.all_cons, Bool.and_eq_true]
    exact ⟨h2.bel, RelLf.bel r⟩
theorem RelLf.takeN : ∀ {v : List (PySem.Leaf × AV)} {x : List (PySem.Leaf × Value)}, RelLf K κ ι H v x → (v.all fun p => Lr.bel n p.2) = true → RelLf K κ (ι.take n) H v x
  | _, _, .nil, _ => .nil
  | _, _, .cons h r, e => by
    obtain ⟨h0, u, h3, h2⟩ := h
    simp only [List.all_cons, Bool.and_eq_true] at e
    exact .cons ⟨h0, u, h3, h2.take n e.1⟩ (RelLf.takeN r e.2)
theorem ObjR.bel {a : Addr} {o : AO} (h : ObjR K κ ι H a o) : belO ι.length o = true := by
  cases o with
  | lst xs => obtain ⟨vs, _, r⟩ := h; exact r.bel
  | dct kvs => obtain ⟨vs, _, r⟩ := h; exact RelK.bel r
  | fdct kvs => obtain ⟨o, vs, _, r⟩ := h; exact RelK.bel r
  | dtn kvs => obtain ⟨_, _, w, xs, _, _, r⟩ := h; exact RelN.bel r
  | fdtn kvs => obtain ⟨_, _, w, o, xs, _, _, r⟩ := h; exact RelN.bel r
  | sts L => rfl
  | tpx xs => obtain ⟨_, vs, _, _, r⟩ := h; exact r.bel
  | dlf kvs => obtain ⟨_, _, w, xs, _, _, r⟩ := h; exact RelLf.bel r
  | ins c fs => obtain ⟨dx, vs, _, r⟩ := h; exact RelF.bel r
  | exc c p =>
    obtain ⟨oa, _, _, _, r, _⟩ := h
    cases p with
    | none => rfl
    | some v => obtain ⟨_, _, _, _, _, _, r⟩ := r; exact r.bel
  | dead => rfl
theorem ObjR.take {a : Addr} {o : AO} (h : ObjR K κ ι H a o) (e : belO n o = true) : ObjR K κ (ι.take n) H a o := by
  cases o with
  | lst xs => obtain ⟨vs, h1, r⟩ := h; exact ⟨vs, h1, r.takeN n e⟩
  | dct kvs => obtain ⟨vs, h1, r⟩ := h; exact ⟨vs, h1, RelK.takeN r e⟩
  | fdct kvs => obtain ⟨o, vs, h1, r⟩ := h; exact ⟨o, vs, h1, RelK.takeN r e⟩
  | dtn kvs => obtain ⟨hn, hz, w, xs, hw, h1, r⟩ := h; exact ⟨hn, hz, w, xs, hw, h1, RelN.takeN r e⟩
  | fdtn kvs => obtain ⟨hn, hz, w, o, xs, hw, h1, r⟩ := h; exact ⟨hn, hz, w, o, xs, hw, h1, RelN.takeN r e⟩
  | sts L => exact h
  | tpx xs => obtain ⟨o, vs, h1, hd, r⟩ := h; exact ⟨o, vs, h1, hd, r.takeN n e⟩
  | dlf kvs => obtain ⟨hn, hz, w, xs, hw, h1, r⟩ := h; exact ⟨hn, hz, w, xs, hw, h1, RelLf.takeN r e⟩
  | ins c fs => obtain ⟨dx, vs, h1, r⟩ := h; exact ⟨dx, vs, h1, RelF.takeN r e⟩
  | exc c p =>
    obtain ⟨oa, h1, h2, h3, r, h5⟩ := h
    refine ⟨oa, h1, h2, h3, ?_, h5⟩
    cases p with
    | none => exact r
    | some v => obtain ⟨d, od, x, q1, q2, q3, r⟩ := r; exact ⟨d, od, x, q1, q2, q3, r.take n e⟩
  | dead => trivial
theorem gc_ok {W : WX} {σ : St} {μ : Store} {Q : VK} {r : Res AV} (sr : SR K κ ι μ H) (h : PG K κ W σ ι H (CV K κ Q) (gc μ r)) : PG K κ W σ ι H (CV K κ Q) r := by
  cases r with
  | ex c p μ' => exact h
  | bad => exact h
  | ok v μ' =>
    unfold gc at h
    simp only at h
    split at h
    · rename_i hc
      obtain ⟨hb, hg⟩ := hc
      intro ι' H' p m sr' x rx
      have et : ι'.take μ.length = ι := by
        obtain ⟨t, rfl⟩ := p
        rw [← sr.len, List.take_left]
      have rx' : Rel K κ ι H' v x := by
        have z := rx.take μ.length hb
        rw [et] at z
        exact z
      refine h ι H' (List.prefix_refl _) ⟨List.prefix_refl _, m.tup, m.frz, m.oth', fun _ h n => absurd h n, m.tb⟩ ⟨?_, sr.nd, fun a ha => sr'.on a (p.subset ha), fun a ha => sr'.ne a (p.subset ha), sr'.tabs, fun i o a h1 h2 => ?_⟩ x rx'
      · have : μ.length ≤ μ'.length := by
          rw [← sr.len, ← sr'.len]
          exact p.length_le
        rw [List.length_take, sr.len]
        omega
      · have hi : i < μ.length := by
          rw [← sr.len]
          exact (List.getElem?_eq_some_iff.mp h2).1
        rw [List.getElem?_take_of_lt hi] at h1
        have z := sr'.obj i o a h1 (get_prefix p h2)
        have hb' : belO μ.length o = true := by
          rcases hg i o hi h1 with q | q
          · rw [← sr.len]
            exact (sr.obj i o a q h2).bel
          · exact q
        have z2 := z.take hb'
        rw [et] at z2
        exact z2
    · exact h
end
def BindsTo2 (s0 s : Shared) (fd : FuncData) (args : Args) (binds : List (Str × Value)) : Prop :=
  ∀ (M : Model) (A : Around) (E : Value → Shared → Prop) (Q : List (Str × Value) → Shared → Prop), Q binds s → wpAny M A (bindArgs fd args) Q E s0
structure FnD (κ : Kap) (P : Program) (w : World) (K : PySem.W.Frag) (mg : Str → Option Value) (base : Heap) (k : Nat) (f : Addr) (fd : FuncData) (ps : List Str) (r : Fn) : Prop where
  len : ∀ (as : List AV) (μ : Store), as.length ≠ ps.length → r as μ = .bad
  ent : ∀ (A : Around) (outer : List Env) (s0 s : Shared) (H : Hp) (args : Args) (us : List Value) (vs : List V) (as : List AV) (ι : List Addr) (μ : Store) (Q : VK) (E : XK), Room k A → A.guards = some [] → Env0 P w K mg base A outer s H → K.In s0.heap → BindsTo2 s0 s fd args (ps.zip us) → Vals vs us →
    RelL K κ ι H as vs → vs.length = ps.length → SR K κ ι μ H → PG K κ (fun cls d _ H' => E cls d H') [] ι H (CV K κ Q) (r as μ) → codeAny (model P w) A (.call (.ref f) args) (CR (L2.CX P w) outer P w H s Q E) s0
theorem FnD.run {κ : Kap} {P : Program} {w : World} {K : PySem.W.Frag} {mg : Str → Option Value} {base : Heap} {k : Nat} {f : Addr} {fd : FuncData} {ps : List Str} {r : Fn} (F : FnD κ P w K mg base k f fd ps r) (A : Around) (outer : List Env) (s : Shared) (H : Hp) (args : Args) (us : List Value) (vs : List V) (as : List AV) (ι : List Addr) (μ : Store) (Q : VK) (E : XK) (hr : Room k A) (hgd : A.guards = some []) (e0 : Env0 P w K mg base A outer s H) (hbd : BindsTo s fd args (ps.zip us)) (r1 : Vals vs us)
    (ra : RelL K κ ι H as vs) (hl : vs.length = ps.length) (sr : SR K κ ι μ H) (h : PG K κ (fun cls d _ H' => E cls d H') [] ι H (CV K κ Q) (r as μ)) : codeAny (model P w) A (.call (.ref f) args) (CR (L2.CX P w) outer P w H s Q E) s :=
  F.ent A outer s s H args us vs as ι μ Q E hr hgd e0 (e0.mod.kin.keeps fun b o e => (e0.bs b o e).1) hbd r1 ra hl sr h
theorem FnD.mono {κ : Kap} {P : Program} {w : World} {K : PySem.W.Frag} {mg : Str → Option Value} {base : Heap} {j k : Nat} {f : Addr} {fd : FuncData} {ps : List Str} {r : Fn} (F : FnD κ P w K mg base j f fd ps r) (h : j ≤ k) : FnD κ P w K mg base k f fd ps r :=
  ⟨F.len, fun A outer s0 s H args us vs as ι μ Q E hr => F.ent A outer s0 s H args us vs as ι μ Q E (hr.mono h)⟩
theorem FnD.bad {κ : Kap} {P : Program} {w : World} {K : PySem.W.Frag} {mg : Str → Option Value} {base : Heap} {k : Nat} {f : Addr} {fd : FuncData} {ps : List Str} : FnD κ P w K mg base k f fd ps (fun _ _ => .bad) :=
  ⟨fun _ _ _ => rfl, fun A outer s0 s H args us vs as ι μ Q E _ _ _ _ _ _ _ _ _ h => False.elim h⟩
theorem start_rel {K : PySem.W.Frag} {κ : Kap} {ι : List Addr} {H : Hp} {N : List Str} {as : List AV} {vs : List V} (r : RelL K κ ι H as vs) : RelS K κ ι H (startA N.length as) (L2.start N vs) := by
  refine ⟨by simp [startA, L2.start, r.length], fun i v e => ?_⟩
  unfold startA at e
  unfold L2.start
  by_cases hi : i < as.length
  · rw [List.getElem?_append_left (by simpa using hi), List.getElem?_map] at e
    cases q : as[i]? with
    | none => rw [q] at e; cases e
    | some a =>
      rw [q] at e
      cases e
      obtain ⟨x, ex, rx⟩ := r.get q
      refine ⟨x, ?_, rx⟩
      rw [List.getElem?_append_left (by rw [List.length_map, ← r.length]; exact hi), List.getElem?_map, ex]
      rfl
  · rw [List.getElem?_append_right (by simpa using hi), List.getElem?_replicate] at e
    split at e <;> cases e
theorem guards_deeper {A : Around} {env : Env} (h : A.guards = some []) : (A.deeper env).guards = some [] := h
theorem FnD.of {κ : Kap} {P : Program} {w : World} {K : PySem.W.Frag} {mg : Str → Option Value} {base : Heap} {k : Nat} {x qual : Str} {st : Stmt} {f : Addr} {fd : FuncData} {N ps : List Str} {b : AS} (F : Fun K x qual st f fd) (S : FnScope N ps (defScope st)) (hsm : ∃ o, base.get? sysModules = some o)
    (hb : ∀ (cdv : Value) (A : Around) (outer : List Env) (s : Shared) (H : Hp) (E : XK), Cl (cxOf (L2.CX P w) P w K mg base N qual (defScope st) f cdv A outer s H E) k → DSs κ (cxOf (L2.CX P w) P w K mg base N qual (defScope st) f cdv A outer s H E) (defBody st) b) :
    FnD κ P w K mg base (k + 1) f fd ps (fnR N.length ps.length b) := by
  obtain ⟨oc, od, kV, doc, pm, an, cdv, ct, osl, rfl, lk, hcd⟩ := F.ex
  refine ⟨fun as μ hn => if_neg hn, fun A outer s0 s H args us vs as ι μ Q E hr hgd e0 KX hbd r ra hl sr h => ?_⟩
  have lim : s.heap.NoLimit := e0.mod.nolimit.keeps fun b o e => (e0.bs b o e).1
  have par : ∀ y ∈ ps.zip us, (defScope st).names.lookup y.1 = some .local ∨ ((defScope st).names.lookup y.1 = some .cell ∧ ((cellsFrom (s.heap.objs.size + 1) (defScope st).names []).lookup y.1).isSome = true) := by
    rintro ⟨n, v⟩ hy
    exact (S.par n (List.of_mem_zip hy).1).imp id fun q => ⟨q, PySem.W.cellsFrom_some _ _ _ (.inl q)⟩
  refine codeAny_call_function hr.depth (KX _ _ lk) rfl S.co S.gen rfl (PySem.W.codeRec_of KX hcd) (hbd _ _ _ _ ?_)
  refine wpAny_newFunctionEnv_cells S.kind par fun env he s1 x => ?_
  subst he
  refine ⟨lim.keeps x.toInCall.keep, codeAny_func ?_⟩
  have I := inv_start (CX := L2.CX P w) (E := E) (f := f) (qual := qual) (cd := cdv) S hr.hd e0 hl r x
  have cl : Cl (cxOf (L2.CX P w) P w K mg base N qual (defScope st) f cdv A outer s H E) k := ⟨rfl, S.nd, hr.deeper _, guards_deeper hgd, hsm⟩
  obtain ⟨t, pt, it⟩ := hb cdv A outer s H E cl _ (takes_of rfl rfl rfl rfl)
  have hlen : as.length = ps.length := ra.length.trans hl
  have go : t { nx := fun _ H' => Q .non H', rt := Q } (L2.start N vs) H := by
    refine it _ _ H ι (startA N.length as) μ sr (start_rel ra) ?_
    have h2 := gc_ok (r := bodyR N.length b as μ) sr (by simpa only [fnR, if_pos hlen] using h)
    unfold bodyR at h2
    cases eb : b (startA N.length as) μ with
    | nx ρ' μ' => rw [eb] at h2; exact fun ι' H' σ' p m sr' _ => h2 ι' H' p m sr' .non .non
    | rt v μ' => rw [eb] at h2; exact fun ι' H' x p m sr' rx => h2 ι' H' p m sr' x rx
    | ex c p ρ' μ' => rw [eb] at h2; exact fun ι' H' σ' d p m sr' _ e => h2 ι' H' d p m sr' e
    | bk ρ' μ' => rw [eb] at h2; exact False.elim h2
    | ct ρ' μ' => rw [eb] at h2; exact False.elim h2
    | bad => rw [eb] at h2; exact False.elim h2
  refine wpAny_mono (pt.run [] s1 (L2.start N vs) H _ I go) (fun fl s' hs => ?_) fun e s' hs => hs
  cases fl with
  | next =>
    obtain ⟨σ', H', J, q⟩ := hs
    exact ⟨V.non, H', J.os, J.bare, J.base, J.hok, rfl, q⟩
  | ret u =>
    obtain ⟨v, σ', H', J, rv, q⟩ := hs
    exact ⟨v, H', J.os, J.bare, J.base, J.hok, rv, q⟩
  | brk =>
    obtain ⟨_, _, _, q⟩ := hs
    exact False.elim q
  | cont =>
    obtain ⟨_, _, _, q⟩ := hs
    exact False.elim q
def eCall (r : Fn) (a : AA) : AE := fun ρ μ => (a ρ μ).bind fun as μ1 => r as μ1
section
variable {κ : Kap} {X : Cx} {e : Expr} {es : List Expr} {rs : AA} {k j : Nat} {f : Addr} {fd : FuncData} {ps : List Str} {r : Fn} {x : Str} {p pos : Pos}
theorem DE.call (cl : Cl X k) (F : FnD κ X.prog X.w X.K X.mg X.base k f fd ps r) (hg : Gl X x) (hm : X.mg x = some (.ref f)) (hk : PySem.W.keepIn X.K (.ref f) = true) (hb : Binds X.K fd ps [])
    (ha : DA κ X (e :: es) rs) (hdb : (x == ("__debug__" : Str)) = false := by decide) (he : starEach (e :: es) X.env = (false, eval e X.env) :: starEach es X.env := by rfl) (hpl : (backTo pos (starEach es X.env)).any (·.1) = false := by rfl) :
    DE κ X (.Call (.Name x p) (e :: es) [] pos) (eCall r rs) := fun W tk => by
  obtain ⟨t, q, i⟩ := ha W tk
  refine ⟨fun σ H Q => t σ H fun vs H1 => ∃ (ι : List Addr) (μ : Store) (as : List AV), SR X.K κ ι μ H1 ∧ RelL X.K κ ι H1 as vs ∧ PG X.K κ W σ ι H1 (CV X.K κ Q) (r as μ), ⟨fun pins s σ H Q I h => ?_⟩, fun σ H Q ι ρ μ sr rl h => ?_⟩
  · refine wpAny_Call_Name_kw (ld_glob I hg hm ?_ hdb)
    refine PySem.W.callWith_K (h₀ := X.base) I.ok.mod.kin hk (thn (q.run pos pins s σ H _ I h) fun us s1 ⟨vs, H1, I1, rv, ι, μ, as, sr, ra, h1⟩ => ⟨I1.kIn, ?_⟩) he hpl
    have hl1 : as.length = ps.length := by
      by_cases z : as.length = ps.length
      · exact z
      · rw [F.len as μ z] at h1; exact False.elim h1
    have hl2 : (us ++ ([] : List Value)).length = ps.length := by rw [List.append_nil, ← rv.length, ← ra.length]; exact hl1
    have hbd := hb s1 us I1.kIn hl2
    rw [List.append_nil] at hbd
    refine wpAny_call (codeAny_mono (F.run X.A X.stack s1 H1 ⟨us, []⟩ us vs as ι μ Q (fun cls d H' => W cls d σ H') cl.room cl.gd I1.env0 hbd rv ra (by rw [← ra.length]; exact hl1) sr (by
      cases er : r as μ with
      | ok v μ2 => rw [er] at h1; exact h1
      | ex c v μ2 => rw [er] at h1; exact h1
      | bad => rw [er] at h1; exact h1)) fun rr s' hq => ?_)
    cases rr with
    | error e => exact tk e s' (XE.of_call I1 (fun _ _ _ z => z) hq)
    | ok fl =>
      cases fl with
      | ret u => exact I1.after hq
      | next => exact False.elim hq
      | brk => exact False.elim hq
      | cont => exact False.elim hq
  · exact i σ H _ ι ρ μ sr rl (PG.bind h fun as μ1 ι1 H1 p1 m1 sr1 h1 vs rv => ⟨ι1, μ1, as, sr1, rv, h1⟩)
end
end Lr
namespace Lr
open PySem PySem.Spec L2
open PyProof.Rows hiding St
section
variable {κ : Kap} {X : Cx} {a b c e o : Expr} {ra rb rc r : AE} {pos p2 pos' : Pos} {g g' : G2} {k : Nat} {es : List Expr} {rs : AA}
def stL (μ : Store) : AV → Option (Nat × List AV)
  | .loc n => match μ[n]? with
    | some (.lst xs) => some (n, xs)
    | _ => none
  | _ => none
theorem stL_rel {K : PySem.W.Frag} {ι : List Addr} {H : Hp} {μ : Store} (sr : SR K κ ι μ H) {a : AV} {x : V} {n : Nat} {xs : List AV} (r : Rel K κ ι H a x) (e : stL μ a = some (n, xs)) : ∃ p vs, x = .ref p ∧ ι[n]? = some p ∧ H p = some (.lst vs) ∧ RelL K κ ι H xs vs := by
  cases r <;> first | (cases e; done) | skip
  rename_i m p h
  simp only [stL] at e
  split at e
  · rename_i ys q
    cases e
    obtain ⟨vs, e1, r1⟩ := sr.obj _ _ p q h
    exact ⟨p, vs, rfl, h, e1, r1⟩
  · cases e
theorem ok_lset {K : PySem.W.Frag} {W : WX} {σ : St} {ι : List Addr} {H : Hp} {Q : VK} {v : AV} {x : V} {μ : Store} {n : Nat} {p : Addr} {vs ws : List V} {ys : List AV} (sr : SR K κ ι μ H) (hp : ι[n]? = some p) (e : H p = some (.lst vs)) (rl : RelL K κ ι H ys ws) (rv : Rel K κ ι H v x)
    (h : PG K κ W σ ι H (CV K κ Q) (.ok v (μ.set n (.lst ys)))) : Q x (upd H p (.lst ws)) := by
  have m : HM ι H ι (upd H p (.lst ws)) := HM.wr (by rw [e]; trivial) (List.mem_of_getElem? hp)
  exact h ι _ (List.prefix_refl _) m (sr.write hp (by rw [e]; trivial) ⟨ws, upd_same, rl.mono (List.prefix_refl _) m⟩) x (rv.mono (List.prefix_refl _) m)
theorem lst_ty {K : PySem.W.Frag} {ι ι' : List Addr} {H H' : Hp} {x : V} {vs : List V} {p : Addr} (e : x = .ref p) (h : SqL K H p vs) : tyV K "list" x H := by
  subst e
  exact .inl ⟨rfl, vs, h⟩
def isLs (μ : Store) (v : AV) : Bool := (lsOf μ v).isSome
def eApp2 (o a : AE) : AE := fun ρ μ => (o ρ μ).bind fun l μ1 => if isLs μ1 l then (a ρ μ1).bind fun v μ2 => match stL μ2 l with
  | some (n, xs) => if xs.length < 16777216 then .ok .non (μ2.set n (.lst (xs ++ [v]))) else .bad
  | none => .bad else .bad
theorem DE.app {apos cpos : Pos} (ho : DE κ X o ra) (ha : DE κ X a rb)
    (hbase : attributeBase o "append" X.env (eval o X.env) = eval o X.env := by rfl)
    (hfew : ((backTo cpos (starEach [a] X.env)).all (fun x => !x.1) && (backToKw cpos (keywordEach [] X.env)).all (fun x => x.1.isSome) && decide ([a].length + ([] : List Keyword).length + (if ([] : List Keyword).isEmpty then 0 else 1) < 30)) = true := by rfl)
    (hline : (apos.endLine == cpos.line) = true := by rfl) (hs : starEach [a] X.env = (false, eval a X.env) :: starEach [] X.env := by rfl) (hplain : (backTo cpos (starEach [] X.env)).any (·.1) = false := by rfl) :
    DE κ X (.Call (.Attribute o "append" apos) [a] [] cpos) (eApp2 ra rb) := fun W tk => by
  obtain ⟨t, p, i⟩ := ho W tk
  obtain ⟨u, q, j⟩ := ha W tk
  refine ⟨_, pe_bm PySem.F.plainAttrs_list PySem.F.slot_list_append PySem.F.type_list_append mt_append p (pa_cons q pa_nil hs) hbase hfew hline hs hplain, fun σ H Q ι ρ μ sr rl h => ?_⟩
  refine i σ H _ ι ρ μ sr rl (PG.bind h fun l μ1 ι1 H1 p1 m1 sr1 h1 lv rlv => ?_)
  by_cases hl : isLs μ1 l = true
  · rw [if_pos hl] at h1
    obtain ⟨xs0, e0⟩ := Option.isSome_iff_exists.mp hl
    obtain ⟨p0, vs0, ex, h0, _⟩ := ls_rel sr1 rlv e0
    refine ⟨lst_ty (ι := ι1) (ι' := ι1) (H' := H1) ex h0, ?_⟩
    refine j σ H1 _ ι1 ρ μ1 sr1 (rl.mono p1 m1) (PG.bind h1 fun v μ2 ι2 H2 p2 m2 sr2 h2 vv rv => ?_)
    show rAppend _ [vv] H2 Q
    split at h2
    · rename_i n xs e1
      by_cases hz : xs.length < 16777216
      · rw [if_pos hz] at h2
        obtain ⟨q1, vs, rfl, hq, e2, r2⟩ := stL_rel sr2 (rlv.mono p2 m2) e1
        exact ⟨q1, vs, vv, rfl, rfl, e2, by rw [line16, ← r2.length]; exact hz, ok_lset sr2 hq e2 (r2.append (.cons rv .nil)) .non h2⟩
      · rw [if_neg hz] at h2
        exact False.elim h2
    · exact False.elim h2
  · rw [if_neg hl] at h1
    exact False.elim h1
def sSub (o i r : AE) : AS := fun ρ μ => (r ρ μ).out ρ fun v μ1 => (o ρ μ1).out ρ fun l μ2 => (i ρ μ2).out ρ fun j μ3 => match stL μ3 l, j with
  | some (n, xs), .int k => match ixN xs.length k with
    | some m => .nx ρ (μ3.set n (.lst (xs.set m v)))
    | none => .bad
  | _, _ => .bad
theorem DS.sub {i : Expr} (ho : DE κ X o ra) (hi : DE κ X i rb) (hv : DE κ X a rc) (hs : swapsWithSole [.Subscript o i pos'] a pos.line X.env = pure false := by rfl) (hw : swappedStores [.Subscript o i pos'] a X.env = pure none := by rfl)
    (h1 : (assignEach [.Subscript o i pos'] X.env).map (·.2) = [assign (.Subscript o i pos') X.env] := by rfl)
    (hx : ∀ v, assign (.Subscript o i pos') X.env v = (do
      let ov ← holding [v] (eval o X.env)
      let iv ← holding [v, ov] (eval i X.env)
      standAt pos'
      holding [v, ov, iv] (setItem ov iv v)
      release [v, ov, iv] []) := by intro _; rfl) : DS κ X (.Assign [.Subscript o i pos'] a pos) (sSub ra rb rc) := fun W tk => by
  obtain ⟨t1, p1, i1⟩ := ho W tk
  obtain ⟨t2, p2, i2⟩ := hi W tk
  obtain ⟨t3, p3, i3⟩ := hv W tk
  refine ⟨_, ps_asg p3 (pg_sub p1 p2 set_list hx) hs hw h1, fun D σ H ι ρ μ sr rl h => ?_⟩
  refine i3 σ H _ ι ρ μ sr rl (PO'.bind rl h fun v μ1 ι1 H1 q1 m1 sr1 h1 vv rv => ?_)
  refine i1 σ H1 _ ι1 ρ μ1 sr1 (rl.mono q1 m1) (PO'.bind (rl.mono q1 m1) h1 fun l μ2 ι2 H2 q2 m2 sr2 h2 lv rlv => ?_)
  have rl2 := (rl.mono q1 m1).mono q2 m2
  refine i2 σ H2 _ ι2 ρ μ2 sr2 rl2 (PO'.bind rl2 h2 fun j μ3 ι3 H3 q3 m3 sr3 h3 jv rj => ?_)
  split at h3
  · rename_i n xs kk e1
    cases rj
    split at h3
    · rename_i m em
      obtain ⟨p0, vs, rfl, hq, e2, r2⟩ := stL_rel sr3 (rlv.mono q3 m3) e1
      refine ⟨p0, vs, kk, m, rfl, rfl, e2, by rw [← r2.length]; exact em, ?_⟩
      have mm : HM ι3 H3 ι3 (upd H3 p0 (.lst (vs.set m vv))) := HM.wr (by rw [e2]; trivial) (List.mem_of_getElem? hq)
      have rv3 := (rv.mono q2 m2).mono q3 m3
      exact h3 ι3 _ σ (List.prefix_refl _) mm (sr3.write hq (by rw [e2]; trivial) ⟨_, upd_same, (RelL.set rv3 m r2).mono (List.prefix_refl _) mm⟩) ((rl2.mono q3 m3).mono (List.prefix_refl _) mm)
    · exact False.elim h3
  · exact False.elim h3
theorem sq_at {pins : List (Addr × Obj)} {σ : St} {H : Hp} {s : Shared} {p : Addr} {vs : List V} {K : PySem.W.Frag} (I : Inv X pins σ H s) (h : Rd H p (.lst vs)) : ∃ (its : List Value) (n : Nat), Vals vs its ∧ s.heap.get? p = some { cls := .type "list", data := .seq its.toArray n } ∧ vs.length ≤ sizeLine := by
  obtain ⟨z, its, n, r, e⟩ := h.ok I.hok
  exact ⟨its, n, r, e, z⟩
theorem ls_rd {K : PySem.W.Frag} {ι : List Addr} {H : Hp} {μ : Store} (sr : SR K κ ι μ H) {a : AV} {x : V} {xs : List AV} (r : Rel K κ ι H a x) (e : lsOf μ a = some xs) : ∃ p vs, x = .ref p ∧ Rd H p (.lst vs) ∧ RelL K κ ι H xs vs := by
  cases r with
  | lst h r => cases e; obtain ⟨o, h, _⟩ := h; exact ⟨_, _, rfl, .inr ⟨o, h⟩, r⟩
  | loc h =>
    rename_i n p
    simp only [lsOf] at e
    cases q : μ[n]? with
    | none => rw [q] at e; cases e
    | some o =>
      rw [q] at e
      cases o <;> first | (cases e; done) | skip
      cases e
      obtain ⟨vs, e1, r1⟩ := sr.obj n _ p q h
      exact ⟨p, vs, rfl, .inl e1, r1⟩
  | _ => cases e
def aCat (a b : AE) : AA := fun ρ μ => (a ρ μ).bind fun x μ1 => (b ρ μ1).bind fun y μ2 => match lsOf μ2 x, lsOf μ2 y with
  | some xs, some ys => if xs.length + ys.length ≤ 16777216 then .ok (xs ++ ys) μ2 else .bad
  | _, _ => .bad
theorem op_catR : OpR X (binaryOp .Add) (fun x y H Q => ∃ l b xs zs, x = .ref l ∧ y = .ref b ∧ Rd H l (.lst xs) ∧ Rd H b (.lst zs) ∧ xs.length + zs.length ≤ sizeLine ∧ ∀ p, H p = none → Q (.ref p) (upd H p (.lst (xs ++ zs)))) := by
  intro pins s σ H x y v u Q I rx ry hh
  obtain ⟨l, b, xs, zs, rfl, rfl, hl, hb, hz, q⟩ := hh
  cases rx
  cases ry
  obtain ⟨its, n, r, e, z1⟩ := sq_at (K := X.K) I hl
  obtain ⟨its2, n2, r2, e2, z2⟩ := sq_at (K := X.K) I hb
  have l1 := r.length
  have l2 := r2.length
  refine PySem.P.add_list e e2 ?_ (by rw [List.size_toArray, List.size_toArray]; omega)
  rw [show its.toArray ++ its2.toArray = (its ++ its2).toArray by simp]
  have hn := I.hok.fresh (Nat.le_refl s.heap.objs.size)
  refine ⟨.ref s.heap.objs.size, _, I.laid (t' := s.toks) (o := .lst (xs ++ zs)) (fun b o q => Heap.get?_push_of_some _ q) (Nat.le_refl _) ?_, rfl, q _ hn⟩
  exact ⟨by rw [List.length_append]; exact hz, _, 0, r.append r2, Heap.get?_push_size _ rfl⟩
theorem DN.cat (cl : Cl X k) (ha : DE κ X a ra) (hb : DE κ X b rb) : DN κ X (.BinOp a .Add b pos) (aCat ra rb) := DN.mk cl fun W tk => by
  obtain ⟨t1, p1, i1⟩ := ha W tk
  obtain ⟨t2, p2, i2⟩ := hb W tk
  refine ⟨_, pe_op op_catR p1 p2, fun σ H Q ι ρ μ sr rl h => ?_⟩
  refine i1 σ H _ ι ρ μ sr rl (PG.bind0 h fun x μ1 ι1 H1 p1 m1 sr1 h1 xv rx => ?_)
  refine i2 σ H1 _ ι1 ρ μ1 sr1 (rl.mono p1 m1) (PG.bindF m1 h1 fun y μ2 ι2 H2 p2 m2 sr2 h2 yv ry => ?_)
  split at h2
  · rename_i xs ys e1 e2
    by_cases hz : xs.length + ys.length ≤ 16777216
    · rw [if_pos hz] at h2
      obtain ⟨q1, vs1, rfl, d1, r1⟩ := ls_rd sr2 (rx.mono p2 m2) e1
      obtain ⟨q2, vs2, rfl, d2, r2⟩ := ls_rd sr2 ry e2
      exact ⟨q1, q2, vs1, vs2, rfl, rfl, d1, d2, by rw [line16, ← r1.length, ← r2.length]; exact hz, fun p hn => okNew sr sr2 (m1.trans m2) h2 (r1.append r2) hn⟩
    · rw [if_neg hz] at h2
      exact False.elim h2
  · exact False.elim h2
theorem ext_tup (l : Addr) (items : Array Value) (n : Nat) (b : Addr) (items2 : Array Value) (n2 : Nat) (dd : Option Addr) (sl : Array (Option Value)) (hs0 : ¬(!items.isEmpty && Builtin.List.listTooLong (items.size + items2.size)) = true) (hs1 : items.size ≤ sizeLine) (hs2 : items.size + items2.size ≤ sizeLine + 1 := by seq_fits) :
    Meets (Builtin.«list.extend» ⟨[.ref l, .ref b], []⟩) (fun _ R s => s.heap.get? l = some { cls := .type "list", dict := none, data := .seq items n, slots := #[] } ∧ s.heap.get? b = some { cls := .type "tuple", dict := dd, data := .seq items2 n2, slots := sl } ∧ R (.ok (.ret Value.none)) { s with heap := s.heap.update l (Obj.mapSeq fun x => x ++ items2), toks := s.toks }) :=
  .of_wp fun prog w A R s h => by
    obtain ⟨hp, g, d, tk, os⟩ := s
    obtain ⟨hl, hb, h⟩ := h
    have f1 := AutoSeq1.idx_int
    have f2 := AutoSeq1.sub_tuple_tuple
    have f3 := AutoSeq1.sub_list_list
    have f4 := AutoSeq1.sub_tuple_list
    have f5 := AutoSeq1.sub_list_tuple
    have hz' : (items ++ items2).size ≤ sizeLine + 1 := by rw [Array.size_append]; exact hs2
    wp_walk using (wpAny_updateSeq hl rfl (hz := hs1) (_hz' := hz')), AutoSeq1.wpAny_loadPart' hl, AutoSeq1.wpAny_loadPart' hb
    exact ⟨_, rfl, h⟩
def rExtA (K : PySem.W.Frag) : V → List V → Hp → VK → Prop := fun x vs H Q => ∃ l b xs zs, x = .ref l ∧ vs = [.ref b] ∧ H l = some (.lst xs) ∧ (Rd H b (.lst zs) ∨ SqT K H b zs) ∧ xs.length + zs.length ≤ sizeLine ∧ Q .non (upd H l (.lst (xs ++ zs)))
theorem mt_extA : MtM X "list.extend" (rExtA X.K) := by
  intro pins s σ H x vs v us Q I rx rv h
  obtain ⟨l, b, xs, zs, rfl, rfl, hH, hB, hz, q⟩ := h
  cases rx
  obtain ⟨u, rfl, ru⟩ := rv.one
  cases ru
  obtain ⟨z, its, n, r, hl, e⟩ := I.lstM hH
  have done : ∀ {its2 : List Value}, Vals zs its2 → ∃ y H', Inv X pins σ H' { s with heap := s.heap.update l (Obj.mapSeq fun x => x ++ its2.toArray), toks := s.toks } ∧ RelV y Value.none ∧ Q y H' := fun {its2} r2 => by
    refine ⟨.non, _, I.lset (its' := its ++ its2) hH e (by simp) (r.append r2) ?_, rfl, q⟩
    rw [List.length_append]
    omega
  have long : ∀ m : Nat, its.toArray.size + m ≤ sizeLine → ¬ (!its.toArray.isEmpty && Builtin.List.listTooLong (its.toArray.size + m)) = true := fun m hm => by
    rw [notLongL hm, Bool.and_false]
    exact Bool.false_ne_true
  rcases hB with hB | hB
  · obtain ⟨its2, n2, r2, e2, z2⟩ := sq_at (K := X.K) I hB
    have l2 := r2.length
    have hsz : its.toArray.size + its2.toArray.size ≤ sizeLine := by rw [List.size_toArray, List.size_toArray]; omega
    exact call_meets PySem.F.slot_list_extend ⟨_, e, rfl⟩ PySem.F.entry_list_extend (PySem.F.args_list_extend_2 _ _)
      (AutoSeq1.list_extend_list_list_0 l its.toArray n b its2.toArray n2 (long _ hsz) (by rw [List.size_toArray]; omega) (by omega)) ⟨e, e2, done r2⟩
  · obtain ⟨its2, r2, ⟨⟨cls, dd, data, sl⟩, ho, hc, n2, hd⟩, hs⟩ := I.tuple hB
    simp only at hc hd
    subst hc hd
    have l2 := r2.length
    have hsz : its.toArray.size + its2.toArray.size ≤ sizeLine := by rw [List.size_toArray, List.size_toArray]; omega
    exact call_meets PySem.F.slot_list_extend ⟨_, e, rfl⟩ PySem.F.entry_list_extend (PySem.F.args_list_extend_2 _ _)
      (ext_tup l its.toArray n b its2.toArray n2 dd sl (long _ hsz) (by rw [List.size_toArray]; omega) (by omega)) ⟨e, ho, done r2⟩
def itsOf (μ : Store) : AV → Option (List AV)
  | .tup xs => some xs
  | v => lsOf μ v
theorem its_rd {K : PySem.W.Frag} {ι : List Addr} {H : Hp} {μ : Store} (sr : SR K κ ι μ H) {a : AV} {x : V} {xs : List AV} (r : Rel K κ ι H a x) (e : itsOf μ a = some xs) : ∃ p vs, x = .ref p ∧ (Rd H p (.lst vs) ∨ SqT K H p vs) ∧ RelL K κ ι H xs vs := by
  cases r with
  | tup h r => cases e; exact ⟨_, _, rfl, .inr h, r⟩
  | lst h r =>
    obtain ⟨p, vs, e1, e2, e3⟩ := ls_rd sr (.lst h r) (xs := xs) e
    exact ⟨p, vs, e1, .inl e2, e3⟩
  | loc h =>
    obtain ⟨p, vs, e1, e2, e3⟩ := ls_rd sr (.loc h) (xs := xs) e
    exact ⟨p, vs, e1, .inl e2, e3⟩
  | _ => cases e
def eExt (o a : AE) : AE := fun ρ μ => (o ρ μ).bind fun l μ1 => if isLs μ1 l then (a ρ μ1).bind fun v μ2 => match stL μ2 l, itsOf μ2 v with
  | some (n, xs), some ys => if xs.length + ys.length ≤ 16777216 then .ok .non (μ2.set n (.lst (xs ++ ys))) else .bad
  | _, _ => .bad else .bad
theorem DE.ext {apos cpos : Pos} (ho : DE κ X o ra) (ha : DE κ X a rb)
    (hbase : attributeBase o "extend" X.env (eval o X.env) = eval o X.env := by rfl)
    (hfew : ((backTo cpos (starEach [a] X.env)).all (fun x => !x.1) && (backToKw cpos (keywordEach [] X.env)).all (fun x => x.1.isSome) && decide ([a].length + ([] : List Keyword).length + (if ([] : List Keyword).isEmpty then 0 else 1) < 30)) = true := by rfl)
    (hline : (apos.endLine == cpos.line) = true := by rfl) (hs : starEach [a] X.env = (false, eval a X.env) :: starEach [] X.env := by rfl) :
    DE κ X (.Call (.Attribute o "extend" apos) [a] [] cpos) (eExt ra rb) := fun W tk => by
  obtain ⟨t, p, i⟩ := ho W tk
  obtain ⟨u, q, j⟩ := ha W tk
  refine ⟨_, pe_bm PySem.F.plainAttrs_list PySem.F.slot_list_extend PySem.F.type_list_extend mt_extA p (pa_cons q pa_nil hs) hbase hfew hline hs, fun σ H Q ι ρ μ sr rl h => ?_⟩
  refine i σ H _ ι ρ μ sr rl (PG.bind h fun l μ1 ι1 H1 p1 m1 sr1 h1 lv rlv => ?_)
  by_cases hl : isLs μ1 l = true
  · rw [if_pos hl] at h1
    obtain ⟨xs0, e0⟩ := Option.isSome_iff_exists.mp hl
    obtain ⟨p0, vs0, ex, h0, _⟩ := ls_rel sr1 rlv e0
    refine ⟨lst_ty (ι := ι1) (ι' := ι1) (H' := H1) ex h0, ?_⟩
    refine j σ H1 _ ι1 ρ μ1 sr1 (rl.mono p1 m1) (PG.bind h1 fun v μ2 ι2 H2 p2 m2 sr2 h2 vv rv => ?_)
    show rExtA X.K _ [vv] H2 Q
    split at h2
    · rename_i n xs ys e1 e2
      by_cases hz : xs.length + ys.length ≤ 16777216
      · rw [if_pos hz] at h2
        obtain ⟨q1, vs, rfl, hq, e3, r2⟩ := stL_rel sr2 (rlv.mono p2 m2) e1
        obtain ⟨q2, us, rfl, d2, r3⟩ := its_rd sr2 rv e2
        exact ⟨q1, q2, vs, us, rfl, rfl, e3, d2, by rw [line16, ← r2.length, ← r3.length]; exact hz, ok_lset sr2 hq e3 (r2.append r3) .non h2⟩
      · rw [if_neg hz] at h2
        exact False.elim h2
    · exact False.elim h2
  · rw [if_neg hl] at h1
    exact False.elim h1
end
end Lr
namespace Lr
open PySem PySem.Spec L2
open PyProof.Rows hiding St
section
variable {κ : Kap} {X : Cx} {a b c e o : Expr} {ra rb rc r : AE} {pos p1 p2 p3 p4 pos' : Pos} {g g' : G2} {k kk : Nat} {es : List Expr} {rs : AA}
def eRev (a : AE) : AE := fun ρ μ => (a ρ μ).bind fun x μ1 => match x with
  | .tup xs => .ok (.tup xs.reverse) μ1
  | _ => .bad
def keyOf : AV → Option Key
  | .int i => some (.inl i)
  | .str x => some (.inr x)
  | _ => none
def keysOf : List (AV × AV) → Option (List Key)
  | [] => some []
  | (x, _) :: r => match keyOf x, keysOf r with
    | some k, some ks => some (k :: ks)
    | _, _ => none
def eDic (r : Loc → Store → Res (List (AV × AV))) : AE := fun ρ μ => (r ρ μ).bind fun kvs μ1 => match keysOf kvs with
  | some ks => if ks.Nodup ∧ kvs.length ≤ 15 then .ok (.dct kvs) μ1 else .bad
  | none => .bad
def pNil : Loc → Store → Res (List (AV × AV)) := fun _ μ => .ok [] μ
def pCons (a b : AE) (r : Loc → Store → Res (List (AV × AV))) : Loc → Store → Res (List (AV × AV)) := fun ρ μ => (a ρ μ).bind fun x μ1 => (b ρ μ1).bind fun y μ2 => (r ρ μ2).bind fun kvs μ3 => .ok ((x, y) :: kvs) μ3
inductive RelP (K : PySem.W.Frag) (κ : Kap) (ι : List Addr) (H : Hp) : List (AV × AV) → List (V × V) → Prop
  | nil : RelP K κ ι H [] []
  | cons {x y : AV} {v u : V} {kvs : List (AV × AV)} {ps : List (V × V)} (h : Rel K κ ι H x v) (g : Rel K κ ι H y u) (r : RelP K κ ι H kvs ps) : RelP K κ ι H ((x, y) :: kvs) ((v, u) :: ps)
theorem RelP.length {K : PySem.W.Frag} {ι : List Addr} {H : Hp} : ∀ {kvs : List (AV × AV)} {ps : List (V × V)}, RelP K κ ι H kvs ps → kvs.length = ps.length
  | _, _, .nil => rfl
  | _, _, .cons _ _ r => by rw [List.length_cons, List.length_cons, RelP.length r]
theorem RelP.monoW {K : PySem.W.Frag} {ι ι' : List Addr} {H H' : Hp} (p : ι <+: ι') (m : HW H H') : ∀ {kvs : List (AV × AV)} {ps : List (V × V)}, RelP K κ ι H kvs ps → RelP K κ ι' H' kvs ps
  | _, _, .nil => .nil
  | _, _, .cons h g r => .cons (h.monoW p m) (g.monoW p m) (RelP.monoW p m r)
def DP (κ : Kap) (X : Cx) (pos : Pos) (keys : List (Option Expr)) (vals : List Expr) (r : Loc → Store → Res (List (AV × AV))) : Prop := ∀ W, Takes X W → ∃ trs, PPs X pos keys vals trs ∧ ∀ σ H Q ι ρ μ, SR X.K κ ι μ H → RelS X.K κ ι H ρ σ →
  PG X.K κ W σ ι H (fun kvs ι' H' => HM ι H ι' H' → ∀ ps, RelP X.K κ ι' H' kvs ps → Q ps H') (r ρ μ) → tPairs trs σ H Q
theorem DP.nil : DP κ X pos [] [] pNil := fun W tk => ⟨[], pps_nil, fun σ H Q ι ρ μ sr rl h => h ι H (List.prefix_refl _) (HM.refl _) sr (HM.refl _) [] .nil⟩
theorem DP.cons {ks : List (Option Expr)} {vs : List Expr} {rp : Loc → Store → Res (List (AV × AV))} (ha : DE κ X a ra) (hb : DE κ X b rb) (hr : DP κ X pos ks vs rp) : DP κ X pos (some a :: ks) (b :: vs) (pCons ra rb rp) := fun W tk => by
  obtain ⟨t1, q1, i1⟩ := ha W tk
  obtain ⟨t2, q2, i2⟩ := hb W tk
  obtain ⟨t3, q3, i3⟩ := hr W tk
  refine ⟨_, pps_cons q1 q2 q3, fun σ H Q ι ρ μ sr rl h => ?_⟩
  refine i1 σ H _ ι ρ μ sr rl (PG.bind0 h fun x μ1 ι1 H1 p1 m1 sr1 h1 v rv => ?_)
  refine i2 σ H1 _ ι1 ρ μ1 sr1 (rl.mono p1 m1) (PG.bindF m1 h1 fun y μ2 ι2 H2 p2 m2 sr2 h2 u ru => ?_)
  refine i3 σ H2 _ ι2 ρ μ2 sr2 ((rl.mono p1 m1).mono p2 m2) (PG.bindF (m1.trans m2) h2 fun kvs μ3 ι3 H3 p3 m3 sr3 h3 _ ps rp => ?_)
  have m := (m1.trans m2).trans m3
  exact h3 ι3 H3 m.pre m sr3 m _ (.cons ((rv.mono p2 m2).mono p3 m3) (ru.mono p3 m3) rp)
end
end Lr
namespace Lr
open PySem PySem.Spec L2
open PyProof.Rows hiding St
theorem law_run {P : Program} {w : World} {K : PySem.W.Frag} {κ : Kap} {mg mb : Str → Option Value} {k : Nat} {fa a : Addr} {cs : List (Addr × Addr)} {fd : FuncData} {x : Str} {r : Fn} {s₁ : Shared} {vs : List Value} {ns : List Int} {μ' : Store}
    (KX : K.In s₁.heap) (hns : s₁.heap.Ns mainGlobals mg) (hb : s₁.heap.Ns builtinsNs mb) (hbb : ∀ x : Str, x ≠ "__name__" → mb x = bootBuiltins x) (hlim : s₁.heap.NoLimit) (hsm : s₁.heap.NoSeer) (hg : s₁.gens = #[])
    (hT : ∀ p ∈ cs, s₁.heap.get? p.2 = some { cls := .none, data := .fields #[] }) (nT : ∀ p ∈ cs, K.lookup p.2 = none) (C : ∀ p ∈ cs, PySem.W.CodeHd s₁.heap p.1 p.2)
    (hbm : ∃ (bm : Addr) (ob : Obj), mg "__builtins__" = some (.ref bm) ∧ bm ≠ builtinsNs ∧ s₁.heap.get? bm = some ob ∧ ob.cls = .type "module" ∧ ob.dict = some builtinsNs ∧ ob.data = .plain)
    (hkT : ∀ p ∈ κ.T, p.1 ∈ cs.map (·.2))
    (ha : s₁.heap.get? a = some { cls := .type "list", data := .seq vs.toArray }) (hi : IntsAre vs ns) (hl : ns.length ≤ sizeLine) (hr : Room k callerA)
    (F : ∀ base : Heap, K.In base → base.Ns mainGlobals mg → (∃ o, base.get? sysModules = some o) → (∀ p ∈ cs, LamX.TabB base mg p.1 p.2) → FnD κ P w K mg base k fa fd [x] r) (hbind : ∀ (s : Shared) (u : Value), BindsTo s fd ⟨[u], []⟩ [(x, u)])
    (hok : r [.scr ns] [] = .ok (.bl true) μ') :
    codeAny (model P w) callerA (.call (.ref fa) ⟨[.ref a], []⟩) (fun r s' => r = .ok (.ret (.bool true)) ∧ OldK s₁.heap s'.heap ∧ s'.os = s₁.os ∧ AllBare s'.gens) s₁ := by
  have rv := vals_ints hi
  have lenV := hi.length
  obtain ⟨mm, hmods, _⟩ := hsm.mods
  have isT : ∀ b : Addr, b ∈ cs.map (·.2) → s₁.heap.get? b = some { cls := .none, data := .fields #[] } := fun b hb => by
    obtain ⟨p, hp, e⟩ := List.mem_map.mp hb
    rw [← e]
    exact hT p hp
  have aT : a ∉ cs.map (·.2) := fun z => by
    have q := isT a z
    rw [ha] at q
    have z' : Data.seq vs.toArray _ = Data.fields #[] := congrArg Obj.data (Option.some.inj q)
    cases z'
  have memT : ∀ p ∈ cs, p.2 ∈ cs.map (·.2) := fun p hp => List.mem_map.mpr ⟨p, hp, rfl⟩
  have core : ∀ H : Hp, (∀ p ∈ cs, H p.2 = some (.tbl #[])) → (∀ b, H b = none ∨ b ∈ cs.map (·.2) ∨ ∃ o xs, H b = some (.frz o (.lst xs))) → ScL K H a (ns.map V.int) → HOk P w H s₁.heap → (∀ b, H b ≠ none → b = a ∨ b ∈ cs.map (·.2)) → (H a ≠ none → K.lookup a = none) →
      codeAny (model P w) callerA (.call (.ref fa) ⟨[.ref a], []⟩) (fun r s' => r = .ok (.ret (.bool true)) ∧ OldK s₁.heap s'.heap ∧ s'.os = s₁.os ∧ AllBare s'.gens) s₁ := by
    intro H hH hO hS hok2 hA hK
    have base_of : ∀ {b : Addr} {o : Obj}, s₁.heap.get? b = some o → H b = none → (hidT s₁.heap H).get? b = some o := fun e n => hidT_get e n
    have noD : ∀ {b : Addr} {o : Obj}, s₁.heap.get? b = some o → (∀ vs n, o.data ≠ .seq vs n) → o.data ≠ .fields #[] → H b = none := fun {b o} e h1 h2 => by
      cases q : H b with
      | none => rfl
      | some u =>
        rcases hA b (by rw [q]; simp) with e' | e'
        · rw [e', ha] at e
          cases e
          exact (h1 _ _ rfl).elim
        · rw [isT b e'] at e
          cases e
          exact (h2 rfl).elim
    have noA : ∀ {b : Addr} {o : Obj} {es : Array DictEntry} {ep : Nat}, s₁.heap.get? b = some o → o.data = .dict es ep → H b = none := fun {b o es ep} e d => by
      refine noD e (fun vs n z => ?_) fun z => ?_
      · rw [d] at z
        cases z
      · rw [d] at z
        cases z
    have nsAt : ∀ {b : Addr} {m : Str → Option Value}, s₁.heap.Ns b m → (hidT s₁.heap H).Ns b m := fun {b m} ⟨o, es, ep, e, d, r⟩ => ⟨o, es, ep, base_of e (noA e d), d, r⟩
    have kin : K.In (hidT s₁.heap H) := fun b o e => base_of (KX b o e) (by
      cases q : H b with
      | none => rfl
      | some u =>
        rcases hA b (by rw [q]; simp) with e' | e'
        · rw [e'] at e q
          rw [hK (by rw [q]; simp)] at e
          cases e
        · obtain ⟨p, hp, ep⟩ := List.mem_map.mp e'
          rw [← ep, nT p hp] at e
          cases e)
    have mods : ∃ o, (hidT s₁.heap H).get? sysModules = some o := let ⟨o, _, _, e, _⟩ := nsAt hmods; ⟨o, e⟩
    have hM : Mod K mg (hidT s₁.heap H) := ⟨kin, nsAt hns, ⟨mb, nsAt hb, hbb⟩, let ⟨mc, h1, h2⟩ := hlim; ⟨mc, nsAt h1, h2⟩⟩
    have TB : ∀ p ∈ cs, LamX.TabB (hidT s₁.heap H) mg p.1 p.2 := fun p hp => by
      have hTp := hT p hp
      refine ⟨?_, ?_, fun z => ?_⟩
      · obtain ⟨o, us, file, tf, flags, tg, inF, text, tt, e1, r1, r2, r3, r4, r5, r6, r7, r8, hne⟩ := C p hp
        refine ⟨o, us, file, tf, flags, tg, inF, text, tt, base_of e1 (noD e1 (fun vs n z => ?_) fun z => ?_), r1, r2, r3, r4, r5, r6, r7, r8, hne⟩
        · rw [r2] at z
          cases z
        · rw [r2] at z
          cases z
          simp at r3
      · obtain ⟨bm, ob, b1, b2, b3, b4, b5, b6⟩ := hbm
        have nG : bm ≠ mainGlobals := fun q => by
          obtain ⟨o, es, ep, e, hd, _⟩ := hns
          rw [q, e] at b3
          cases b3
          rw [hd] at b6
          cases b6
        have nP : bm ≠ p.2 := fun q => by
          rw [q, hTp] at b3
          cases b3
          cases b6
        refine ⟨bm, ob, b1, b2, nG, nP, base_of b3 (noD b3 (fun vs n z => ?_) fun z => ?_), b4, b5, b6⟩
        · rw [b6] at z
          cases z
        · rw [b6] at z
          cases z
      · obtain ⟨o, es, ep, e, hd, _⟩ := hns
        rw [z, hTp] at e
        cases e
        cases hd
    have tabs : LamX.Tabs κ.T H := fun p hp => by
      obtain ⟨q, hq, e⟩ := List.mem_map.mp (hkT p hp)
      exact LamX.TabS.nil (by rw [← e]; exact hH q hq)
    have e0 : Env0 P w K mg (hidT s₁.heap H) callerA [] s₁ H := ⟨rfl, hM, fun b o e => of_hidT e, Nat.le_of_eq (hidT_size _ _), trivial, fun b hb => absurd (show b ∈ ([] : List Addr) from hb) (by simp), hok2, .of_eq hg⟩
    refine codeAny_mono ((F _ kin (nsAt hns) mods TB).run callerA [] s₁ H ⟨[.ref a], []⟩ [.ref a] [.ref a] [.scr ns] [] [] (fun v _ => v = .bl true) (fun _ _ _ => False) hr rfl e0 (hbind s₁ (.ref a)) (.cons rfl .nil) (.cons (.scr hS) .nil) rfl ?_ ?_) fun r s' h => ?_
    · exact ⟨rfl, List.nodup_nil, fun b hb => by simp at hb, fun b hb => by simp at hb, tabs, fun n q b h1 h2 => by simp at h1⟩
    · rw [hok]
      intro ι' H' _ _ _ v rel
      cases rel
      rfl
    cases r with
    | error e =>
      exfalso
      obtain ⟨_, _, _, _, _, _, _, _, _, h⟩ := h
      exact h.2.2.2
    | ok fl =>
      cases fl with
      | next => exact False.elim h
      | brk => exact False.elim h
      | cont => exact False.elim h
      | ret u =>
        obtain ⟨v, H', os, bare, un, hok', r', q⟩ := h
        have q' : v = .bl true := q
        subst q'
        obtain rfl : u = Value.bool true := r'
        have key : ∀ b o, b ∉ cs.map (·.2) → s₁.heap.get? b = some o → s'.heap.get? b = some o := fun b o nb e => by
          cases q : H b with
          | none => exact un.keep b o e q (by intro z; exact absurd (show b ∈ ([] : List Addr) from z) (by simp)) (by simp)
          | some u =>
            rcases hO b with z | z | ⟨ob, xs, z⟩
            · rw [q] at z; cases z
            · exact absurd z nb
            · have z2 := un.frzs b ob _ z
              obtain ⟨e1, _⟩ := hok2 b _ z
              obtain ⟨e2, _⟩ := hok' b _ z2
              rw [e] at e1; cases e1
              exact e2
        have grown : ∀ p ∈ cs, ∃ more : Array Value, s'.heap.get? p.2 = some { cls := .none, data := .fields more } := fun p hp => by
          obtain ⟨more, z⟩ := un.tbls p.2 #[] (hH p hp)
          exact ⟨_, hok' p.2 _ z⟩
        refine ⟨rfl, ⟨fun b o e => ?_, fun b o e => ?_⟩, os, bare⟩
        · by_cases hb : b ∈ cs.map (·.2)
          · obtain ⟨p, hp, ep⟩ := List.mem_map.mp hb
            obtain ⟨more, hm⟩ := grown p hp
            rw [← ep] at e ⊢
            rw [hT p hp] at e
            cases e
            exact .inr (.inl ⟨((C p hp).tab (hT p hp)).isCodeTable, rfl, #[], more, rfl, by rw [Array.empty_append]; exact hm⟩)
          · exact .inl (key b o hb e)
        · by_cases hb : b ∈ cs.map (·.2)
          · obtain ⟨p, hp, ep⟩ := List.mem_map.mp hb
            obtain ⟨more, hm⟩ := grown p hp
            rw [← ep]
            exact ⟨_, hm⟩
          · exact ⟨o, key b o hb e⟩
  cases hk : K.lookup a with
  | some o =>
    have e := KX a o hk
    rw [ha] at e
    cases e
    refine core (fun b => if b ∈ cs.map (·.2) then some (.tbl #[]) else none) (fun p hp => if_pos (memT p hp)) (fun b => ?_) (.inr (.inr ⟨_, vs.toArray, _, hk, rfl, rfl, rfl, by rw [List.size_toArray, lenV]; exact hl, by simpa using rv⟩)) (fun b u z => ?_) (fun b z => ?_) fun z => absurd (show (if a ∈ cs.map (·.2) then some (HO.tbl #[]) else none) = none from if_neg aT) z
    · by_cases hb : b ∈ cs.map (·.2)
      · exact .inr (.inl hb)
      · exact .inl (if_neg hb)
    · by_cases hb : b ∈ cs.map (·.2)
      · have z' := (if_pos hb).symm.trans z
        cases z'
        exact isT b hb
      · have z' := (if_neg hb).symm.trans z
        cases z'
    · by_cases hb : b ∈ cs.map (·.2)
      · exact .inr hb
      · exact absurd (if_neg hb) z
  | none =>
    refine core (fun b => if b = a then some (.frz { cls := .type "list", data := .seq vs.toArray } (.lst (ns.map V.int))) else if b ∈ cs.map (·.2) then some (.tbl #[]) else none) (fun p hp => (if_neg (show ¬ p.2 = a from fun z => aT (by rw [← z]; exact memT p hp))).trans (if_pos (memT p hp))) (fun b => ?_)
      (.inl ⟨{ cls := .type "list", data := .seq vs.toArray }, if_pos rfl⟩) (fun b u z => ?_) (fun b z => ?_) fun _ => hk
    · by_cases hb : b = a
      · exact .inr (.inr ⟨_, _, if_pos hb⟩)
      · by_cases hb2 : b ∈ cs.map (·.2)
        · exact .inr (.inl hb2)
        · exact .inl ((if_neg hb).trans (if_neg hb2))
    · by_cases hb : b = a
      · have z' := (if_pos hb).symm.trans z
        cases z'
        rw [hb]
        exact ⟨ha, by rw [List.length_map]; exact hl, vs, _, rv, ha⟩
      · have z1 := (if_neg hb).symm.trans z
        by_cases hb2 : b ∈ cs.map (·.2)
        · have z' := (if_pos hb2).symm.trans z1
          cases z'
          exact isT b hb2
        · have z' := (if_neg hb2).symm.trans z1
          cases z'
    · by_cases hb : b = a
      · exact .inl hb
      · by_cases hb2 : b ∈ cs.map (·.2)
        · exact .inr hb2
        · exact absurd ((if_neg hb).trans (if_neg hb2)) z
theorem Cl.blk {X : Cx} {k : Nat} (c : Cl X k) (s : Shared) (H : Hp) (scope : Scope) (env : Env) (fp : List Addr) : Cl (X.blk s H scope env fp) k := ⟨c.calm, c.nd, c.room, c.gd, c.sm⟩
theorem DN.lcc {κ : Kap} {X : Cx} {k : Nat} {elt tg iter : Expr} {ifs : List Expr} {scope : Scope} {own : List (Str × Nat)} {it : AI} {is : List Nat} {g : AG} {tt : AT} {te : AE} {pos : Pos} (cl : Cl X k) (hi : DI κ X tg iter it) (ok : BlkOk X.N X.env.scope scope own) (hv : ∀ i ∈ is, i ∈ own.map (·.2))
    (hg : ∀ (s : Shared) (H : Hp) (C : Addr) (d : List (Str × Addr)) (fp : List Addr), Cl (X.blk s H scope (compEnvC scope d C X.env) fp) k → DG κ (X.blk s H scope (compEnvC scope d C X.env) fp) tg is g)
    (ht : ∀ (s : Shared) (H : Hp) (C : Addr) (d : List (Str × Addr)) (fp : List Addr), Cl (X.blk s H scope (compEnvC scope d C X.env) fp) k → PTs (X.blk s H scope (compEnvC scope d C X.env) fp) ifs (kT X.K κ W0 tt))
    (he : ∀ (s : Shared) (H : Hp) (C : Addr) (d : List (Str × Addr)) (fp : List Addr), Cl (X.blk s H scope (compEnvC scope d C X.env) fp) k → DE κ (X.blk s H scope (compEnvC scope d C X.env) fp) elt te) (hs : ∀ x, foldedSetIterable iter X.env x = pure x := by intro _; rfl) :
    DN κ X (.ListComp elt [⟨tg, iter, ifs, 0⟩] scope pos) (aLc it (own.map (·.2)) g tt te) :=
  DN.lc cl hi ok hv (fun s H C d fp => hg s H C d fp (cl.blk s H _ _ fp)) (fun s H C d fp => ht s H C d fp (cl.blk s H _ _ fp)) (fun s H C d fp => he s H C d fp (cl.blk s H _ _ fp)) hs
end Lr
namespace Lr
open PySem PySem.Spec L2
open PyProof.Rows hiding St
def valA (kvs : List (Key × AV)) (k : Key) : Option AV := (kvs.find? fun kv => decide (kv.1 = k)).map (·.2)
def putA (kvs : List (Key × AV)) (k : Key) (v : AV) : List (Key × AV) :=
  if kvs.any fun kv => decide (kv.1 = k) then kvs.map fun kv => if kv.1 = k then (kv.1, v) else kv else kvs ++ [(k, v)]
def mergeA (kvs more : List (Key × AV)) : List (Key × AV) := more.foldl (fun acc kv => putA acc kv.1 kv.2) kvs
section
variable {κ : Kap} {X : Cx} {a b c e o : Expr} {ra rb rc r : AE} {pos p2 pos' : Pos} {k : Nat} {es : List Expr} {rs : AA}
section
variable {K : PySem.W.Frag} {ι : List Addr} {H : Hp}
theorem RelK.length : ∀ {kvs : List (Key × AV)} {vs : List (Key × V)}, RelK K κ ι H kvs vs → kvs.length = vs.length
  | _, _, .nil => rfl
  | _, _, .cons _ r => by rw [List.length_cons, List.length_cons, RelK.length r]
theorem RelK.any (k : Key) : ∀ {kvs : List (Key × AV)} {vs : List (Key × V)}, RelK K κ ι H kvs vs → (kvs.any fun kv => decide (kv.1 = k)) = vs.any fun kv => decide (kv.1 = k)
  | _, _, .nil => rfl
  | _, _, .cons h r => by rw [List.any_cons, List.any_cons, h.1, RelK.any k r]
theorem RelK.append : ∀ {kvs ks : List (Key × AV)} {vs us : List (Key × V)}, RelK K κ ι H kvs vs → RelK K κ ι H ks us → RelK K κ ι H (kvs ++ ks) (vs ++ us)
  | _, _, _, _, .nil, g => g
  | _, _, _, _, .cons h r, g => .cons h (RelK.append r g)
theorem RelK.repl {k : Key} {y : AV} {u : V} (ry : Rel K κ ι H y u) : ∀ {kvs : List (Key × AV)} {vs : List (Key × V)}, RelK K κ ι H kvs vs → RelK K κ ι H (kvs.map fun kv => if kv.1 = k then (kv.1, y) else kv) (vs.map fun kv => if kv.1 = k then (kv.1, u) else kv)
  | _, _, .nil => .nil
  | _, _, .cons (a := p) (b := q) h r => by
    rw [List.map_cons, List.map_cons]
    refine .cons ?_ (RelK.repl ry r)
    by_cases e : p.1 = k
    · rw [if_pos e, if_pos (h.1 ▸ e)]
      exact ⟨h.1, ry⟩
    · rw [if_neg e, if_neg (h.1 ▸ e)]
      exact h
theorem RelK.put {kvs : List (Key × AV)} {vs : List (Key × V)} (r : RelK K κ ι H kvs vs) (k : Key) {y : AV} {u : V} (ry : Rel K κ ι H y u) : RelK K κ ι H (putA kvs k y) (putK vs k u) := by
  unfold putA putK
  rw [r.any k]
  split
  · exact r.repl ry
  · exact r.append (.cons ⟨rfl, ry⟩ .nil)
theorem RelK.merge : ∀ {more : List (Key × AV)} {ms : List (Key × V)} {kvs : List (Key × AV)} {vs : List (Key × V)}, RelK K κ ι H more ms → RelK K κ ι H kvs vs → RelK K κ ι H (mergeA kvs more) (mergeK vs ms)
  | _, _, _, _, .nil, r => r
  | _, _, _, _, .cons (a := p) (b := q) h m, r => by
    have z := r.put p.1 h.2
    rw [h.1] at z
    have w := RelK.merge m z
    show RelK K κ ι H (mergeA (putA _ p.1 p.2) _) (mergeK (putK _ q.1 q.2) _)
    rw [h.1]
    exact w
theorem RelK.val {k : Key} : ∀ {kvs : List (Key × AV)} {vs : List (Key × V)} {v : AV}, RelK K κ ι H kvs vs → valA kvs k = some v → ∃ u, valV vs k = some u ∧ Rel K κ ι H v u
  | _, _, _, .nil, e => by cases e
  | p :: kvs, q :: vs, v, .cons h r, e => by
    by_cases z : p.1 = k
    · have e1 : p.2 = v := by simpa [valA, List.find?_cons, z] using e
      subst e1
      exact ⟨q.2, valV_pos (h.1 ▸ z), h.2⟩
    · have e1 : valA kvs k = some v := by simpa [valA, List.find?_cons, z] using e
      obtain ⟨u, e2, r2⟩ := RelK.val r e1
      exact ⟨u, by rw [valV_neg (h.1 ▸ z)]; exact e2, r2⟩
end
def eDNew : AE := fun _ μ => .ok (.loc μ.length) (μ ++ [.dct []])
abbrev AD := Loc → Store → Res (List (Key × AV))
def DD (κ : Kap) (X : Cx) (e : Expr) (r : AD) : Prop := ∀ W, Takes X W → ∃ t, PE X e t ∧ ∀ σ H Q ι ρ μ, SR X.K κ ι μ H → RelS X.K κ ι H ρ σ →
  PG X.K κ W σ ι H (fun kvs ι' H' => ∀ (a : Addr) (vs : List (Key × V)), RelK X.K κ ι' H' kvs vs → H' a = some (.dK vs) → a ∉ ι' → H a = none → Q (.ref a) H') (r ρ μ) → t σ H Q
def eDKeep (r : AD) : AE := fun ρ μ => (r ρ μ).bind fun kvs μ1 => .ok (.loc μ1.length) (μ1 ++ [.dct kvs])
theorem DD.new {r : AD} (h : DD κ X e r) : DE κ X e (eDKeep r) := fun W tk => by
  obtain ⟨t, p, i⟩ := h W tk
  refine ⟨t, p, fun σ H Q ι ρ μ sr rl h => ?_⟩
  refine i σ H _ ι ρ μ sr rl (PG.bind0 h fun xs μ1 ι1 H1 p1 m1 sr1 h1 a vs rv ea hn h0 => ?_)
  have h2 : SR X.K κ (ι1 ++ [a]) (μ1 ++ [.dct xs]) H1 := sr1.alloc ⟨vs, ea, rv⟩ hn (by rw [ea]; simp) (by rw [ea]; trivial)
  refine h1 (ι1 ++ [a]) H1 (p1.trans (List.prefix_append _ _)) (m1.more h0) h2 _ (.loc ?_)
  rw [← sr1.len]
  simp
def stD (μ : Store) : AV → Option (Nat × List (Key × AV))
  | .loc n => match μ[n]? with
    | some (.dct kvs) => some (n, kvs)
    | _ => none
  | _ => none
theorem stD_rel {K : PySem.W.Frag} {ι : List Addr} {H : Hp} {μ : Store} (sr : SR K κ ι μ H) {a : AV} {x : V} {n : Nat} {kvs : List (Key × AV)} (r : Rel K κ ι H a x) (e : stD μ a = some (n, kvs)) : ∃ p vs, x = .ref p ∧ ι[n]? = some p ∧ H p = some (.dK vs) ∧ RelK K κ ι H kvs vs := by
  cases r <;> first | (cases e; done) | skip
  rename_i m p h
  simp only [stD] at e
  split at e
  · rename_i ys q
    cases e
    obtain ⟨vs, e1, r1⟩ := sr.obj _ _ p q h
    exact ⟨p, vs, rfl, h, e1, r1⟩
  · cases e
theorem dset {K : PySem.W.Frag} {ι : List Addr} {H : Hp} {μ : Store} {n : Nat} {p : Addr} {vs ws : List (Key × V)} {ys : List (Key × AV)} (sr : SR K κ ι μ H) (hp : ι[n]? = some p) (e : H p = some (.dK vs)) (rl : RelK K κ ι H ys ws) :
    HM ι H ι (upd H p (.dK ws)) ∧ SR K κ ι (μ.set n (.dct ys)) (upd H p (.dK ws)) := by
  have m : HM ι H ι (upd H p (.dK ws)) := HM.wr (by rw [e]; trivial) (List.mem_of_getElem? hp)
  exact ⟨m, sr.write hp (by rw [e]; trivial) ⟨ws, upd_same, rl.mono (List.prefix_refl _) m.w⟩⟩
theorem ok_dset {K : PySem.W.Frag} {W : WX} {σ : St} {ι : List Addr} {H : Hp} {Q : VK} {v : AV} {x : V} {μ : Store} {n : Nat} {p : Addr} {vs ws : List (Key × V)} {ys : List (Key × AV)} (sr : SR K κ ι μ H) (hp : ι[n]? = some p) (e : H p = some (.dK vs)) (rl : RelK K κ ι H ys ws) (rv : Rel K κ ι H v x)
    (h : PG K κ W σ ι H (CV K κ Q) (.ok v (μ.set n (.dct ys)))) : Q x (upd H p (.dK ws)) := by
  obtain ⟨m, s⟩ := dset sr hp e rl
  exact h ι _ (List.prefix_refl _) m s x (rv.mono (List.prefix_refl _) m)
def sDPutA (o i r : AE) : AS := fun ρ μ => (r ρ μ).out ρ fun v μ1 => (o ρ μ1).out ρ fun l μ2 => (i ρ μ2).out ρ fun j μ3 => match stD μ3 l, keyOf j with
  | some (n, kvs), some k => if kvs.length < 16777216 then .nx ρ (μ3.set n (.dct (putA kvs k v))) else .bad
  | _, _ => .bad
def rUpd : V → List V → Hp → VK → Prop := fun x vs H Q => ∃ l b xs zs, x = .ref l ∧ vs = [.ref b] ∧ l ≠ b ∧ H l = some (.dK xs) ∧ H b = some (.dK zs) ∧ xs.length + zs.length ≤ sizeLine ∧ Q .non (upd H l (.dK (mergeK xs zs)))
theorem mt_dupd : MtR X "dict.update" rUpd := by
  intro pins s σ H x vs v us Q I rx rv h
  obtain ⟨l, b, xs, zs, rfl, rfl, hne, hH, hB, hz, q⟩ := h
  cases rx
  obtain ⟨u, rfl, ru⟩ := rv.one
  cases ru
  obtain ⟨z1, hs1, ks1, rk1, d1⟩ := dk_of I.hok hH
  obtain ⟨z2, hs2, ks2, rk2, d2⟩ := dk_of I.hok hB
  refine call_meetsIn F.slot_dict_update d1.typeIs F.entry_dict_update (F.args_dict_update_2 _ _) (meets_dict_update (mixKind X.prog X.w) l b hne hs2) ⟨ks1, ks2, d1, d2, by rw [← rk1.length, ← rk2.length]; exact hz, fun h' d1' d2' sb => ?_⟩
  refine ⟨.non, _, d_write I (by rw [hH]; trivial) sb ?_ ?_, rfl, q⟩
  · obtain ⟨o, es, n, eo, _⟩ := d1'
    exact ⟨o, eo⟩
  · exact dk_new (by have := length_mergeK zs xs; omega) hs1 (KV.merge rk2 rk1) d1'
end
end Lr
namespace Lr
open PySem PySem.Spec L2
open PyProof.Rows hiding St
section
variable {κ : Kap} {X : Cx} {a b c e o : Expr} {ra rb rc r : AE} {pos p2 pos' : Pos} {k : Nat} {es : List Expr} {rs : AA}
def isDc (μ : Store) (v : AV) : Bool := (stD μ v).isSome
theorem dic_ty {K : PySem.W.Frag} {H : Hp} {x : V} {vs : List (Key × V)} {p : Addr} (e : x = .ref p) (h : H p = some (.dK vs)) : tyV K "dict" x H := by
  subst e
  exact .inr (.inr (.inl ⟨rfl, .inl ⟨vs, h⟩⟩))
def eUpd (o a : AE) : AE := fun ρ μ => (o ρ μ).bind fun l μ1 => if isDc μ1 l then (a ρ μ1).bind fun v μ2 => match stD μ2 l, stD μ2 v with
  | some (n, kvs), some (m, more) => if n ≠ m ∧ kvs.length + more.length ≤ 16777216 then .ok .non (μ2.set n (.dct (mergeA kvs more))) else .bad
  | _, _ => .bad else .bad
theorem DE.upd {apos cpos : Pos} (ho : DE κ X o ra) (ha : DE κ X a rb)
    (hbase : attributeBase o "update" X.env (eval o X.env) = eval o X.env := by rfl)
    (hfew : ((backTo cpos (starEach [a] X.env)).all (fun x => !x.1) && (backToKw cpos (keywordEach [] X.env)).all (fun x => x.1.isSome) && decide ([a].length + ([] : List Keyword).length + (if ([] : List Keyword).isEmpty then 0 else 1) < 30)) = true := by rfl)
    (hline : (apos.endLine == cpos.line) = true := by rfl) (hs : starEach [a] X.env = (false, eval a X.env) :: starEach [] X.env := by rfl) (hplain : (backTo cpos (starEach [] X.env)).any (·.1) = false := by rfl) :
    DE κ X (.Call (.Attribute o "update" apos) [a] [] cpos) (eUpd ra rb) := fun W tk => by
  obtain ⟨t, p, i⟩ := ho W tk
  obtain ⟨u, q, j⟩ := ha W tk
  refine ⟨_, pe_bm PySem.F.plainAttrs_dict PySem.F.slot_dict_update PySem.F.type_dict_update mt_dupd p (pa_cons q pa_nil hs) hbase hfew hline hs hplain, fun σ H Q ι ρ μ sr rl h => ?_⟩
  refine i σ H _ ι ρ μ sr rl (PG.bind h fun l μ1 ι1 H1 p1 m1 sr1 h1 lv rlv => ?_)
  by_cases hl : isDc μ1 l = true
  · rw [if_pos hl] at h1
    obtain ⟨⟨n0, xs0⟩, e0⟩ := Option.isSome_iff_exists.mp hl
    obtain ⟨p0, vs0, ex, _, h0, _⟩ := stD_rel sr1 rlv e0
    refine ⟨dic_ty ex h0, ?_⟩
    refine j σ H1 _ ι1 ρ μ1 sr1 (rl.mono p1 m1) (PG.bind h1 fun v μ2 ι2 H2 p2 m2 sr2 h2 vv rv => ?_)
    show rUpd _ [vv] H2 Q
    split at h2
    · rename_i n kvs m more e1 e3
      by_cases hz : n ≠ m ∧ kvs.length + more.length ≤ 16777216
      · rw [if_pos hz] at h2
        obtain ⟨q1, vs, rfl, hq, e2, r2⟩ := stD_rel sr2 (rlv.mono p2 m2) e1
        obtain ⟨q2, ws, rfl, hq2, e4, r4⟩ := stD_rel sr2 rv e3
        refine ⟨q1, q2, vs, ws, rfl, rfl, fun z => ?_, e2, e4, by rw [line16, ← r2.length, ← r4.length]; exact hz.2, ok_dset sr2 hq e2 (r4.merge r2) .non h2⟩
        subst z
        exact hz.1 (L2.nd_ix sr2.nd hq hq2)
      · rw [if_neg hz] at h2
        exact False.elim h2
    · exact False.elim h2
  · rw [if_neg hl] at h1
    exact False.elim h1
section
variable {kx vx tg iter : Expr} {ifs : List Expr} {scope : Scope} {own : List (Str × Nat)} {it : AI} {is : List Nat} {g : AG} {tt : AT} {tk tv : AE}
def dcF (g : AG) (tt : AT) (tk tv : AE) (src : Src) : Nat → Nat → Loc → List (Key × AV) → Store → Res (List (Key × AV))
  | 0, _, _, _, _ => .bad
  | m + 1, i, ρ, acc, μ => match src.at i μ with
    | none => .bad
    | some none => .ok acc μ
    | some (some v) => match g v ρ with
      | none => .bad
      | some ρ1 => (tt ρ1 μ).nox.bind fun b μ1 => if b then (tk ρ1 μ1).nox.bind fun y μ2 => (tv ρ1 μ2).nox.bind fun z μ3 => match keyOf y with
          | some k => if acc.length < 16777216 then dcF g tt tk tv src m (i + 1) ρ (putA acc k z) μ3 else .bad
          | none => .bad
        else dcF g tt tk tv src m (i + 1) ρ acc μ1
def aDc (it : AI) (vs : List Nat) (g : AG) (tt : AT) (tk tv : AE) : AD := fun ρ μ => (it ρ μ).bind fun src μ1 => dcF g tt tk tv src FUEL 0 (wipeA ρ vs) [] μ1
end
end
end Lr
namespace Lr
open PySem PySem.Spec L2
open PyProof.Rows hiding St
section
variable {κ : Kap} {X : Cx} {a b c e o : Expr} {ra rb rc r : AE} {pos p2 pos' : Pos} {k : Nat} {es : List Expr} {rs : AA}
def intsOf : List AV → Option (List Int)
  | [] => some []
  | .int b :: r => (intsOf r).map (b :: ·)
  | _ => none
theorem ints_map : ∀ {xs : List AV} {bs : List Int}, intsOf xs = some bs → xs = bs.map AV.int
  | [], bs, e => by cases e; rfl
  | x :: xs, bs, e => by
    cases x <;> simp only [intsOf] at e <;> first | (cases e; done) | skip
    cases h : intsOf xs with
    | none => rw [h] at e; cases e
    | some cs =>
      rw [h] at e
      cases e
      rw [List.map_cons, ints_map h]
theorem ints_rel {K : PySem.W.Frag} {ι : List Addr} {H : Hp} : ∀ {ns : List Int} {vs : List V}, RelL K κ ι H (ns.map AV.int) vs → vs = ns.map V.int
  | [], _, h => by cases h; rfl
  | n :: ns, _, h => by
    cases h with
    | cons h1 h2 =>
      cases h1
      rw [ints_rel h2]
      rfl
def gSum : Fn := fun as μ => match as with
  | [x] => match lsOf μ x with
    | some xs => match intsOf xs with
      | some ns => .ok (.int ns.sum) μ
      | none => .bad
    | none => .bad
  | _ => .bad
theorem ca_sum (cl : Cl X k) : CallA κ X (.builtin "sum") gSum := fun W tk pins s σ H xs us Q I r hh => by
  obtain ⟨σ0, ι, μ, as, sr, rl, h⟩ := hh
  unfold gSum at h
  split at h <;> first | exact False.elim h | skip
  split at h <;> first | exact False.elim h | skip
  rename_i x _ ys e1
  split at h <;> first | exact False.elim h | skip
  rename_i ns e2
  cases rl with
  | cons r1 r2 =>
    cases r2
    obtain ⟨p, vs, rfl, hq, rl⟩ := ls_rel sr r1 e1
    have e3 := ints_map e2
    subst e3
    have e4 := ints_rel rl
    subst e4
    exact cr_sum cl.calm pins s σ H _ us Q I r ⟨p, ns, rfl, hq, ok1 sr h (.int _)⟩
def ePop0 (o : AE) : AE := fun ρ μ => (o ρ μ).bind fun l μ1 => match stL μ1 l with
  | some (n, xs) => match xs[xs.length - 1]? with
    | some y => .ok y (μ1.set n (.lst xs.dropLast))
    | none => .bad
  | none => .bad
theorem RelL.dropLast {K : PySem.W.Frag} {ι : List Addr} {H : Hp} {xs : List AV} {vs : List V} (r : RelL K κ ι H xs vs) : RelL K κ ι H xs.dropLast vs.dropLast := by
  rw [List.dropLast_eq_take, List.dropLast_eq_take, r.length]
  exact r.take _
theorem RelL.erase {K : PySem.W.Frag} {ι : List Addr} {H : Hp} {xs : List AV} {vs : List V} (r : RelL K κ ι H xs vs) (j : Nat) : RelL K κ ι H (xs.eraseIdx j) (vs.eraseIdx j) := by
  rw [List.eraseIdx_eq_take_drop_succ, List.eraseIdx_eq_take_drop_succ]
  exact (r.take _).append (r.drop _)
def ePop1 (o a : AE) : AE := fun ρ μ => (o ρ μ).bind fun l μ1 => if isLs μ1 l then (a ρ μ1).bind fun v μ2 => match stL μ2 l, v with
  | some (n, xs), .int i => match ixN xs.length i with
    | some j => if xs.length ≤ 16777216 then match xs[j]? with
      | some y => .ok y (μ2.set n (.lst (xs.eraseIdx j)))
      | none => .bad else .bad
    | none => .bad
  | _, _ => .bad else .bad
end
end Lr
namespace Lr
open PySem PySem.Spec L2
open PyProof.Rows hiding St
section
variable {κ : Kap} {X : Cx} {k : Nat}
theorem ps_low {st : Stmt} {t : TS} (c : Cl X k) (h : PS X st t) : PS X st (fun D σ H => t { D with nx := fun σ1 H1 => (∀ p u, H1 p = some u → p ≠ sysModules) → D.nx σ1 H1 } σ H) := by
  refine ⟨fun pins s σ H D I hw => ?_⟩
  refine thn (h.run pins s σ H _ I hw) fun f s1 hf => ?_
  cases f with
  | next =>
    obtain ⟨σ1, H1, I1, q⟩ := hf
    refine ⟨σ1, H1, I1, q fun p u hp z => ?_⟩
    subst z
    obtain ⟨o, ho⟩ := c.sm
    have := (I1.bs _ o ho).2
    rw [hp] at this
    cases this
  | brk => exact hf
  | cont => exact hf
  | ret u => exact hf
theorem ps_fz {st : Stmt} {t : TS} (h : PS X st t) : PS X st (fun D σ H => t { D with nx := fun σ1 H1 => ∃ p vs, H1 p = some (.lst vs) ∧ ∀ o, D.nx σ1 (upd H1 p (.frz o (.lst vs))) } σ H) := by
  refine ⟨fun pins s σ H D I hw => ?_⟩
  refine thn (h.run pins s σ H _ I hw) fun f s1 hf => ?_
  cases f with
  | next =>
    obtain ⟨σ1, H1, I1, p, vs, ep, q⟩ := hf
    obtain ⟨o, I2⟩ := inv_frz I1 ep
    exact ⟨σ1, _, I2, q o⟩
  | brk => exact hf
  | cont => exact hf
  | ret u => exact hf
theorem RelS.monoW {K : PySem.W.Frag} {ι ι' : List Addr} {H H' : Hp} (p : ι <+: ι') (m : HW H H') {ρ : Loc} {σ : St} (r : RelS K κ ι H ρ σ) : RelS K κ ι' H' ρ σ :=
  ⟨r.1, fun i v e => let ⟨x, e1, r1⟩ := r.2 i v e; ⟨x, e1, r1.monoW p m⟩⟩
variable {y : Str} {py spos pos : Pos} {elt tg iter : Expr} {ifs : List Expr} {scope : Scope} {own : List (Str × Nat)} {it : AI} {is : List Nat} {g : AG} {tt : AT} {te : AE} {i : Nat}
theorem DS.setLcD (cl : Cl X k) (hN : X.N[i]? = some y) (hy : X.env.scope.names.lookup y = some .local) (hsw : swapsWith (.ListComp elt [⟨tg, iter, ifs, 0⟩] scope pos) (some (.Name y py)) spos.line X.env = pure true)
    (hi : DI κ X tg iter it) (ok : BlkOk X.N X.env.scope scope own) (hv : ∀ i ∈ is, i ∈ own.map (·.2))
    (hg : ∀ (s : Shared) (H : Hp) (C : Addr) (d : List (Str × Addr)) (fp : List Addr), Cl (X.blk s H scope (compEnvC scope d C X.env) fp) k → DG κ (X.blk s H scope (compEnvC scope d C X.env) fp) tg is g)
    (ht : ∀ (s : Shared) (H : Hp) (C : Addr) (d : List (Str × Addr)) (fp : List Addr), Cl (X.blk s H scope (compEnvC scope d C X.env) fp) k → PTs (X.blk s H scope (compEnvC scope d C X.env) fp) ifs (kT X.K κ W0 tt))
    (he : ∀ (s : Shared) (H : Hp) (C : Addr) (d : List (Str × Addr)) (fp : List Addr), Cl (X.blk s H scope (compEnvC scope d C X.env) fp) k → DE κ (X.blk s H scope (compEnvC scope d C X.env) fp) elt te) (hs : ∀ x, foldedSetIterable iter X.env x = pure x := by intro _; rfl) :
    DS κ X (.Assign [.Name y py] (.ListComp elt [⟨tg, iter, ifs, 0⟩] scope pos) spos) (sSet i (eDat (aLc it (own.map (·.2)) g tt te))) := fun W tk => by
  obtain ⟨wi, p0, i0⟩ := hi W tk
  have rule : PS X _ (tAsg (tLc wi (kG X.K κ is g) (kT X.K κ W0 tt) (kE X.K κ W0 te) (own.map (·.2))) (gName i)) := ps_setLc cl.calm cl.nd hN hy hsw p0 ok (fun s H C d fp => (hg s H C d fp (cl.blk s H _ _ fp)).kan) (fun s H C d fp => ht s H C d fp (cl.blk s H _ _ fp)) (fun s H C d fp => (he s H C d fp (cl.blk s H _ _ fp)).kan takes0) hs
  refine ⟨_, ps_low cl (ps_fz rule), fun D σ H ι ρ μ sr rl h => ?_⟩
  refine im_lc hv i0 σ H _ ι ρ μ sr rl ?_
  unfold sSet eDat at h
  revert h
  cases aLc it (own.map (·.2)) g tt te ρ μ with
  | bad => exact id
  | ex c p μ1 => exact fun h ι' H' d q n s e => h ι' H' σ d q n s (rl.mono q n) e
  | ok vs μ1 =>
    intro h ι' H' q n s a xs rx e hn h0
    refine ⟨a, xs, e, fun o hlow => ?_⟩
    have mu : Mut (H' a) := by rw [e]; trivial
    have w : HW H' (upd H' a (.frz o (.lst xs))) := (HM.mine (HM.refl (ι := [a]) H') mu (.inr (by simp))).w
    exact h ι' _ _ q (n.mine mu (.inl h0)) (s.other w hn (by rw [e]; trivial)) (((rl.mono q n).monoW (List.prefix_refl _) w).set (.lst ⟨o, upd_same, hlow a _ upd_same⟩ (rx.monoW (List.prefix_refl _) w)))
end
end Lr
namespace Lr
open PySem PySem.Spec L2
open PyProof.Rows hiding St
section
variable {κ : Kap} {X : Cx} {a b c e o tg : Expr} {ra rb rc r : AE} {pos p2 pos' : Pos} {k : Nat} {es : List Expr} {rs : AA}
def signsA (z : Str) : List AV := z.cps.toList.map fun c => .str ⟨#[c]⟩
theorem JR.str {K : PySem.W.Frag} {ι : List Addr} {H : Hp} {z : Str} : JR K κ ι H (.dat (signsA z)) (Its z) := fun i ι' H' μ hm sr => by
  have e : (signsA z)[i]? = (z.cps[i]?).map fun c => AV.str ⟨#[c]⟩ := by
    unfold signsA
    rw [List.getElem?_map, Array.getElem?_toList]
  simp only [Src.at, e]
  cases h : z.cps[i]? with
  | none => exact Array.getElem?_eq_none_iff.mp h
  | some c =>
    refine ⟨(Array.getElem?_eq_some_iff.mp h).1, fun x H2 hy => ?_⟩
    obtain ⟨rfl, c', h', rfl⟩ := hy
    rw [h] at h'
    cases h'
    exact ⟨HM.refl _, sr, .str _⟩
def iStrS (r : AE) : AI := fun ρ μ => (r ρ μ).bind fun x μ1 => match x with
  | .str z => .ok (.dat (signsA z)) μ1
  | _ => .bad
theorem DI.str (ha : DE κ X a ra) : DI κ X tg a (iStrS ra) := fun W tk => by
  obtain ⟨t, p, i⟩ := ha W tk
  refine ⟨iStr t, pi_str p, fun σ H R ι ρ μ sr rl h => ?_⟩
  refine i σ H _ ι ρ μ sr rl (PG.bind0 h fun x μ1 ι1 H1 p1 m1 sr1 h1 v rv => ?_)
  cases rv <;> first | exact False.elim h1 | skip
  exact ⟨_, rfl, h1 ι1 H1 p1 m1 sr1 _ JR.str⟩
end
end Lr
namespace Lr
open PySem PySem.Spec L2
open PyProof.Rows hiding St
end Lr
namespace Lr
open PySem PySem.Spec L2
open PyProof.Rows hiding St
theorem kn_get {P : Program} {w : World} {H : Hp} {h : Heap} {a : Addr} {o : Obj} (x : HOk P w H h) (e : KnO H a o) : h.get? a = some o := (x a _ e).1
def stX (μ : Store) : AV → Option (Nat × Option AV)
  | .loc n => match μ[n]? with
    | some (.exc c p) => some (c, p)
    | _ => none
  | _ => none
section
variable {κ : Kap} {X : Cx} {e : Expr} {r : AE} {pos : Pos}
theorem stX_rel {K : PySem.W.Frag} {ι : List Addr} {H : Hp} {μ : Store} (sr : SR K κ ι μ H) {a : AV} {x : V} {c : Nat} {p : Option AV} (r : Rel K κ ι H a x) (e : stX μ a = some (c, p)) :
    ∃ q oa, x = .ref q ∧ KnO H q oa ∧ oa.cls = .ref (κ c) ∧ (∃ vs, oa.data = .fields vs) ∧ ExcR K κ ι H oa p ∧ KC K κ c := by
  cases r <;> first | (cases e; done) | skip
  rename_i m q h
  simp only [stX] at e
  split at e
  · rename_i ys z
    cases e
    obtain ⟨oa, h1, h2, h3, h4, h5⟩ := sr.obj _ _ q z h
    exact ⟨q, oa, rfl, h1, h2, h3, h4, h5⟩
  · cases e
def eVal (r : AE) : AE := fun ρ μ => (r ρ μ).bind fun v μ1 => match stX μ1 v with
  | some (_, some p) => .ok p μ1
  | _ => .bad
theorem DE.val (he : DE κ X e r) (hb : attributeBase e "value" X.env (eval e X.env) = eval e X.env := by rfl) : DE κ X (.Attribute e "value" pos) (eVal r) := fun W tk => by
  obtain ⟨t, q, i⟩ := he W tk
  refine ⟨fun σ H Q => t σ H fun x H1 => ∃ (a C d : Addr) (oa od : Obj) (v : V), x = .ref a ∧ KnO H1 a oa ∧ oa.cls = .ref C ∧ (∃ vs, oa.data = .fields vs) ∧ oa.dict = some d ∧ KnO H1 d od ∧ XDict od v ∧ ExcC X.K C ∧ PySem.W.findIn X.K (.ref C) "value" = some none ∧ Q v H1, ⟨fun pins s σ H Q I h => ?_⟩, fun σ H Q ι ρ μ sr rl h => ?_⟩
  · refine attr_of hb (thn (q.run pins s σ H _ I h) fun u s1 hh => ?_)
    obtain ⟨x, H1, I1, rx, a, C, d, oa, od, v, ex, k1, h2, ⟨vs, h3⟩, h4, k2, xo, ec, nv, q⟩ := hh
    subst ex
    obtain rfl : u = Value.ref a := rx
    have hd := kn_get I1.hok k2
    obtain ⟨mA, hns, hr⟩ := xo _ _ hd
    obtain ⟨od', ho, hl⟩ := lookIn_ns hns
    obtain rfl : od = od' := Option.some.inj (hd.symm.trans ho)
    have l : List.lookup ("value" : Str) [(("value" : Str), v)] = some v := by simp [List.lookup]
    obtain ⟨u, hu, ru⟩ := RelO.some_of (v := v) (o := mA "value") (by rw [← l]; exact hr "value")
    have J : PySem.W.InstAt s1.heap a oa C (some od) := ⟨kn_get I1.hok k1, h2, by unfold PySem.W.notCls; rw [h3] <;> rfl, by rw [h4]; exact hd⟩
    exact HandSPX.exc_get I1.kIn J ec.hg ec.hk ec.hs (PySem.W.findObj_own ec.hd nv rfl (by rw [hl, hu])) (handed_of ru) ⟨v, H1, I1.tok _, ru, q⟩
  · refine i σ H _ ι ρ μ sr rl (PG.bind h fun v μ1 ι1 H1 p1 m1 sr1 h1 x rx => ?_)
    split at h1 <;> first | exact False.elim h1 | skip
    rename_i c p eX
    obtain ⟨a, oa, ex, k1, h2, h3, ⟨d, od, y, h4, k2, xo, ry⟩, kc⟩ := stX_rel sr1 rx eX
    exact ⟨a, κ c, d, oa, od, y, ex, k1, h2, h3, h4, k2, xo, kc.ec, kc.nv, ok1 sr1 h1 ry⟩
end
end Lr
namespace Lr
open PySem PySem.Spec L2
open PyProof.Rows hiding St
section
variable {κ : Kap} {X : Cx} {a b c e o tg : Expr} {ra rb rc r : AE} {pos p2 pos' : Pos} {k : Nat} {es : List Expr} {rs : AA}
def enumA (xs : List AV) : List AV := xs.mapIdx fun i x => AV.tup [.int (i : Nat), x]
theorem enumA_get (xs : List AV) (i : Nat) : (enumA xs)[i]? = xs[i]?.map fun x => AV.tup [.int (i : Nat), x] := by
  unfold enumA
  rw [List.getElem?_mapIdx]
theorem HW.trans {H H1 H2 : Hp} (a : HW H H1) (b : HW H1 H2) : HW H H2 := ⟨fun c x h => b.tup _ _ (a.tup c x h), fun c o u h => b.frz _ _ _ (a.frz c o u h)⟩
theorem JR.enum {K : PySem.W.Frag} {ι : List Addr} {H : Hp} {xs : List AV} {vs : List V} {p : Addr} (hq : FzL K H p vs) (rl : RelL K κ ι H xs vs) : JR K κ ι H (.dat (enumA xs)) (Ite K p) := fun i ι' H' μ hm sr => by
  simp only [Src.at, enumA_get]
  cases e : xs[i]? with
  | none => exact ⟨vs, (hm.w.fz hq).sq, by rw [← rl.length]; exact List.getElem?_eq_none_iff.mp e⟩
  | some v =>
    obtain ⟨x, ex, rx⟩ := rl.get e
    refine ⟨⟨vs, x, (hm.w.fz hq).sq, ex⟩, fun y H2 hy => ?_⟩
    obtain ⟨T, x', rfl, hT, rfl, h⟩ := hy
    have z := h vs (hm.w.fz hq).sq
    rw [ex] at z
    cases z
    have m2 : HM ι' H' ι' (upd H' T (.tup [.int (i : Nat), x])) := HM.fresh hT
    exact ⟨m2, sr.new hT, .tup (.inl (.inl upd_same)) (.cons (.int _) (.cons (rx.monoW hm.pre (hm.w.trans m2.w)) .nil))⟩
def aRep (a b : AE) : AA := fun ρ μ => (a ρ μ).bind fun x μ1 => (b ρ μ1).bind fun y μ2 => match lsOf μ2 x, y with
  | some xs, .int k => if decide (0 ≤ k) && decide (k ≤ 1000) && decide (xs.length ≤ 1000) then .ok (List.replicate k.toNat xs).flatten μ2 else .bad
  | _, _ => .bad
theorem op_repR : OpR X (binaryOp .Mult) (fun x y H Q => ∃ l k xs, x = .ref l ∧ y = .int k ∧ Rd H l (.lst xs) ∧ -(2 ^ 63) ≤ k ∧ k < 2 ^ 63 ∧ xs.length * k.toNat ≤ sizeLine ∧ ∀ p, H p = none → Q (.ref p) (upd H p (.lst (List.replicate k.toNat xs).flatten))) := by
  intro pins s σ H x y v u Q I rx ry h
  obtain ⟨l, k, xs, rfl, rfl, hH, h1, h2, hz, q⟩ := h
  cases rx
  obtain ⟨t, rfl⟩ := ry
  obtain ⟨its, n, r, e, z⟩ := sq_at (K := X.K) I hH
  have hl := r.length
  have hlen : its.toArray.size * k.toNat ≤ sizeLine := by rw [List.size_toArray, ← hl]; exact hz
  have hcap : ¬ its.toArray.size * k.toNat > (2 ^ 63 - 1) / 8 := by
    have : (sizeLine : Nat) ≤ (2 ^ 63 - 1) / 8 := by decide
    omega
  have hfit : ¬ (!Builtin.List.listFitsIndex k) = true := by
    rw [fitsIndex_both h1 h2]
    exact Bool.false_ne_true
  have hlong : ¬ Builtin.List.listTooLong (its.toArray.size * k.toNat) = true := by
    rw [notLongL hlen]
    exact Bool.false_ne_true
  have hnew : List.foldl (fun x1 x2 => x1 ++ x2) #[] (List.replicate (if its.toArray.isEmpty = true then 0 else k.toNat) its.toArray) = (List.replicate k.toNat its).flatten.toArray := by
    have f0 : ∀ m : Nat, List.foldl (fun x1 x2 => x1 ++ x2) #[] (List.replicate m its.toArray) = (List.replicate m its).flatten.toArray := fun m => by
      have := foldl_rep its m []
      rw [List.nil_append] at this
      exact this
    rw [f0]
    cases its with
    | nil => simp
    | cons a r' => rw [if_neg (by simp)]
  refine wpAny_binaryOp_repeat_ref (T := "list") (U := "int") (by decide) ⟨_, e, rfl⟩ (fun s' => typeIs_int s' k t) noFill_list_mul F.fills_int_mul F.slot_int_rmul repeat_list F.slot_int_index.lookup
    (call_meets F.slot_int_rmul (typeIs_int s k t) F.entry_int_rmul (F.args_int_rmul_2 _ _) (int___rmul___int_list k t l its.toArray n)
      ⟨e, rfl, ⟨_, e, rfl⟩, call_meets F.slot_list_mul ⟨_, e, rfl⟩ F.entry_list_mul (F.args_list_mul_2 _ _) (AutoListH.list___mul___list_int_3 l its.toArray n k t hfit hcap hlong) ⟨e, ?_⟩⟩)
  rw [hnew]
  exact ⟨.ref _, _, I.lnew (t' := s.toks) (r.rep k.toNat) (by rw [PyProof.Rows.lm_len_rep_flat, Nat.mul_comm]; exact hz), rfl, q _ I.fresh⟩
theorem DN.rep (cl : Cl X k) (ha : DE κ X a ra) (hb : DE κ X b rb) : DN κ X (.BinOp a .Mult b pos) (aRep ra rb) := DN.mk cl fun W tk => by
  obtain ⟨t1, p1, i1⟩ := ha W tk
  obtain ⟨t2, p2, i2⟩ := hb W tk
  refine ⟨_, pe_op op_repR p1 p2, fun σ H Q ι ρ μ sr rl h => ?_⟩
  refine i1 σ H _ ι ρ μ sr rl (PG.bind0 h fun x μ1 ι1 H1 p1 m1 sr1 h1 xv rx => ?_)
  refine i2 σ H1 _ ι1 ρ μ1 sr1 (rl.mono p1 m1) (PG.bindF m1 h1 fun y μ2 ι2 H2 p2 m2 sr2 h2 yv ry => ?_)
  split at h2 <;> first | exact False.elim h2 | skip
  rename_i xs j e1
  by_cases hz : (decide (0 ≤ j) && decide (j ≤ 1000) && decide (xs.length ≤ 1000)) = true
  · rw [if_pos hz] at h2
    simp only [Bool.and_eq_true, decide_eq_true_eq] at hz
    obtain ⟨⟨z1, z2⟩, z3⟩ := hz
    obtain ⟨q1, vs1, rfl, d1, r1⟩ := ls_rd sr2 (rx.mono p2 m2) e1
    cases ry
    refine ⟨q1, j, vs1, rfl, rfl, d1, by omega, by omega, ?_, fun p hn => okNew sr sr2 (m1.trans m2) h2 (r1.rep _) hn⟩
    rw [line16, ← r1.length]
    have : j.toNat ≤ 1000 := by omega
    calc xs.length * j.toNat ≤ 1000 * 1000 := Nat.mul_le_mul z3 this
      _ ≤ 16777216 := by decide
  · rw [if_neg hz] at h2
    exact False.elim h2
end
end Lr
namespace Lr
open PySem PySem.Spec L2
open PyProof.Rows hiding St
def clsB : Stmt → List Stmt
  | .ClassDef (body := b) .. => b
  | _ => []
abbrev veT : List Value := [.type "ValueError", .type "Exception", .type "BaseException", .type "object"]
def kap (L : List (Nat × Addr)) (Z : Addr) (d : Nat) : Addr := (L.lookup d).getD Z
structure XCf (K : PySem.W.Frag) (C : Addr) (bm : List Value) : Prop where
  xL : ∃ nm q N bs sn sub ab col dd k0 k1 k2 k3 k5, K.lookup C = some (excClassObj nm q C N bs bm true sn sub ab col dd k0 k1 k2 k3 k5 "ValueError.__new__")
  sa : PySem.W.findIn K (.ref C) "__setattr__" = some (some (.builtin "object.__setattr__"))
  ga : PySem.W.findIn K (.ref C) "__getattribute__" = some (some (.builtin "BaseException.__getattribute__"))
  gg : PySem.W.findIn K (.ref C) "__getattr__" = some none
  nv : PySem.W.findIn K (.ref C) "value" = some none
  cc : PySem.W.findIn K (.ref C) "__class__" = some (some (.builtin "object.__class__"))
  kC : PySem.W.keepIn K (.ref C) = true
  tC : PySem.W.typeIn K (.ref C) = some (.type "type")
section
variable {K : PySem.W.Frag} {C : Addr} {bm : List Value}
theorem XCf.cls (f : XCf K C bm) : ∃ cd, PySem.W.clsIn K C = some cd ∧ cd.mro = .ref C :: bm ∧ cd.hasDict = true := by
  obtain ⟨nm, q, N, bs, sn, sub, ab, col, dd, k0, k1, k2, k3, k5, h⟩ := f.xL
  refine ⟨{ name := nm, bases := bs, mro := .ref C :: bm, ns := N, qualname := q, hasDict := true, slotNames := sn, subclasses := sub, abstract := ab, collection := col, hasDel := false }, ?_, rfl, rfl⟩
  unfold PySem.W.clsIn
  rw [h] <;> rfl
theorem XCf.mro (f : XCf K C bm) (b : Value) : PySem.W.mroIn K C b = some ((Value.ref C :: bm).contains b) := by
  obtain ⟨cd, h, hm, _⟩ := f.cls
  unfold PySem.W.mroIn
  rw [h, Option.bind_some, hm]
  rfl
theorem XCf.has (f : XCf K C bm) (hbm : PySem.HandSPX.refsVE bm = true) (T : String) (h : veT.contains (.type T) = true) : PySem.W.mroIn K C (.type T) = some true := by
  rw [f.mro]
  exact congrArg some ((PySem.HandSPX.refsVE_contains T (.ref C :: bm) hbm).trans h)
end
end Lr
namespace Lr
open PySem PySem.Spec L2
open PyProof.Rows hiding St
end Lr
set_option maxHeartbeats 2000000
namespace LamX
open PySem PySem.Spec PyProof.Rows L2
section
variable {X : Cx} {pins : List (Addr × Obj)} {σ : L2.St} {H HZ : Hp} {s s1 : Shared}
theorem lam_make3 {T : List (Addr × Str)} {c P : Addr} {params : Arguments} {body : Expr} {scope : Scope} {pos : Pos} {E : Value → Shared → Prop} {Q : Value → Shared → Prop} (I : Inv X pins σ H s) (TB : TabB X.base X.mg c P) (hcode : X.env.code = .ref c)
    (hm : (P, X.env.qual ++ "<lambda>") ∈ T) (hu : ∀ p ∈ T, p.1 = P → p.2 = X.env.qual ++ "<lambda>") (hT : Tabs T H) (hdef : defaultsOf params X.env = ([], [])) (hfree : ∀ y ∈ scope.names, y.2 = .free → ∃ c, X.env.cells.lookup y.1 = some c)
    (h : ∀ (f c' : Addr) (pm ctv : Value) (H1 : Hp) (s' : Shared), Inv X pins σ H1 s' → ExtN H H1 → Tabs T H1 →
      s'.heap.get? f = some (PySem.W.kla_obj "<lambda>" (X.env.qual ++ "<lambda>") params body scope (cloFrom X.env.cells scope.names []) pm c' ctv) → H1 f = none → f ∉ frs X.stack → H1 c' = some (CodeO c' (X.env.qual ++ "<lambda>")) → (∀ b ps, H b = some (.tbl ps) → ∃ qs, H1 b = some (.tbl qs)) → Q (.ref f) s') :
    wpAny (model X.prog X.w) X.A (eval (.Lambda params body scope pos) X.env) Q E s := by
  obtain ⟨ps, hP, ht, ha⟩ := hT _ hm
  refine PySem.W.kla_eval hdef ?_
  have bP : s.heap.BuiltinsAt X.mg P := TB.bm.keeps I.bk
  have hP' : s.heap.get? P = some { cls := .none, data := .fields ps } := I.hok P _ hP
  have nofr : ∀ f, s.heap.objs.size ≤ f → f ∉ frs X.stack := fun f hf z => by
    rcases List.mem_cons.mp (I.stkSub _ z) with e | e
    · have h1 := I.lt
      rw [← e] at h1
      exact Nat.lt_irrefl _ (Nat.lt_of_lt_of_le h1 hf)
    · exact I.nofs hf e
  cases hc : codeAmong pos ps.toList with
  | none =>
    refine PySem.W.kla_makeFunction (mg := X.mg) (c := c) (P := P) (ps := ps) (closure_ok hfree) I.ok.glob (I.mod.glob.keeps I.bk) hcode (TB.code.keeps I.bk) hP' ht hc TB.gP bP fun c' ctv h' tk hx hge hlt hrec htb => ?_
    obtain ⟨c2, oc, vs, t, e2, hoc, hd, hv⟩ := hrec
    cases e2
    have hsz : s.heap.objs.size ≤ h'.objs.size := Nat.le_trans hge (Nat.le_of_lt hlt)
    have nC : H c' = none := I.hok.fresh hge
    have I1 := inv_table (t' := tk) (more := #[rawInt pos.line, rawInt pos.col, .ref c']) (h' := h'.push (PySem.W.kla_obj "<lambda>" (X.env.qual ++ "<lambda>") params body scope (cloFrom X.env.cells scope.names []) ((X.mg "__name__").getD .none) c' ctv)) I hP
      (fun b o hb e => Heap.get?_push_of_some _ (hx b o hb e)) (Heap.get?_push_of_some _ htb) hge ⟨oc, vs, t, Heap.get?_push_of_some _ hoc, hd, hv⟩
    have hE : ExtN H (upd (upd H P (.tbl (ps ++ #[rawInt pos.line, rawInt pos.col, .ref c']))) c' (CodeO c' (X.env.qual ++ "<lambda>"))) := fun b o e n => by
      rw [upd_ne (ne_of_none e nC), upd_ne (fun z => n ps (Option.some.inj (e.symm.trans (by rw [z]; exact hP))))]
      exact e
    have eL : (ps ++ #[rawInt pos.line, rawInt pos.col, .ref c']).toList = ps.toList ++ [rawInt pos.line, rawInt pos.col, .ref c'] := by simp
    refine h h'.objs.size c' ((X.mg "__name__").getD .none) ctv _ _ I1 hE (fun p hp => ?_) (Heap.get?_push_size _ rfl) ?_ (nofr _ hsz) upd_same (fun b qs e => ?_)
    · by_cases hb : p.1 = P
      · rw [hu p hp hb, hb]
        refine ⟨_, by rw [upd_ne (ne_of_none hP nC), upd_same], by rw [eL]; exact PySem.TriplesOk_snoc _ _ _ _ ht, fun p' cv hcv => ?_⟩
        rw [eL] at hcv
        rcases among_app _ ht hcv with z | z
        · obtain ⟨c0, e1, e2⟩ := ha p' cv z
          exact ⟨c0, e1, hE _ _ e2 codeO_ne⟩
        · exact ⟨c', z, upd_same⟩
      · obtain ⟨ps', a1, a2, a3⟩ := hT p hp
        refine ⟨ps', by rw [upd_ne (ne_of_none a1 nC), upd_ne hb]; exact a1, a2, fun p' cv hcv => ?_⟩
        obtain ⟨c0, e1, e2⟩ := a3 p' cv hcv
        exact ⟨c0, e1, hE _ _ e2 codeO_ne⟩
    · have n1 : h'.objs.size ≠ c' := Nat.ne_of_gt hlt
      have n2 : h'.objs.size ≠ P := Nat.ne_of_gt (Nat.lt_of_lt_of_le (Heap.lt_size hP') hsz)
      rw [upd_ne n1, upd_ne n2]
      exact I.hok.fresh hsz
    · by_cases hb : b = P
      · rw [hb]
        exact ⟨_, by rw [upd_ne (ne_of_none hP nC), upd_same]⟩
      · exact ⟨qs, by rw [upd_ne (ne_of_none e nC), upd_ne hb]; exact e⟩
  | some cv =>
    obtain ⟨c', e, hco⟩ := ha pos cv hc
    subst e
    refine PySem.W.kla_makeFunctionHit (mg := X.mg) (c := c) (P := P) (ps := ps) (closure_ok hfree) I.ok.glob (I.mod.glob.keeps I.bk) hcode (TB.code.keeps I.bk) hP' ht hc bP fun ctv h' tk hx hsz => ?_
    have I1 : Inv X pins σ H { s with heap := h'.push (PySem.W.kla_obj "<lambda>" (X.env.qual ++ "<lambda>") params body scope (cloFrom X.env.cells scope.names []) ((X.mg "__name__").getD .none) c' ctv), toks := tk } := I.kept fun b o e => Heap.get?_push_of_some _ (hx b o e)
    exact h h'.objs.size c' ((X.mg "__name__").getD .none) ctv H _ I1 (ExtN.refl H) hT (Heap.get?_push_size _ rfl) (I.hok.fresh hsz) (nofr _ hsz) hco (fun b qs e => ⟨qs, e⟩)
end
end LamX
namespace Lr
open PySem PySem.Spec L2
open PyProof.Rows hiding St
end Lr
namespace Lr
open PySem PySem.Spec L2
open PyProof.Rows hiding St
theorem HM.ext {ι : List Addr} {H H1 : Hp} (e : LamX.ExtN H H1) (tb : ∀ b ps, H b = some (.tbl ps) → ∃ qs, H1 b = some (.tbl qs)) : HM ι H ι H1 :=
  ⟨List.prefix_refl _, fun b xs h => e b _ h (fun _ z => nomatch z), fun b o u h => e b _ h (fun _ z => nomatch z), fun b u _ h hu => e b u h hu, fun _ h n => absurd h n, tb⟩
theorem SR.ext {K : PySem.W.Frag} {κ : Kap} {ι : List Addr} {μ : Store} {H H1 : Hp} (sr : SR K κ ι μ H) (e : LamX.ExtN H H1) (t : LamX.Tabs κ.T H1) : SR K κ ι μ H1 := by
  have keep : ∀ a ∈ ι, ∀ u, H a = some u → H1 a = some u := fun a ha u h => e a u h fun ps z => by
    have := sr.ne a ha
    rw [h, z] at this
    exact this
  have m : HW H H1 := ⟨fun b xs h => e b _ h (fun _ z => nomatch z), fun b o u h => e b _ h (fun _ z => nomatch z)⟩
  refine ⟨sr.len, sr.nd, fun a ha => ?_, fun a ha => ?_, t, fun n o a h1 h2 => (sr.obj n o a h1 h2).mono (List.prefix_refl _) m (keep a (List.mem_of_getElem? h2))⟩
  · cases h : H a with
    | none => exact absurd h (sr.on a ha)
    | some u => rw [keep a ha u h]; simp
  · cases h : H a with
    | none => exact absurd h (sr.on a ha)
    | some u =>
      rw [keep a ha u h]
      have := sr.ne a ha
      rw [h] at this
      exact this
end Lr
namespace Lr
open PySem PySem.Spec L2
open PyProof.Rows hiding St
theorem FnD.ofC {c : Addr} {κ : Kap} {P : Program} {w : World} {K : PySem.W.Frag} {mg : Str → Option Value} {base : Heap} {k : Nat} {x qual : Str} {st : Stmt} {f : Addr} {fd : FuncData} {N ps : List Str} {b : AS} (F : Fun K x qual st f fd) (S : FnScope N ps (defScope st)) (hsm : ∃ o, base.get? sysModules = some o)
    (hco : fd.code = .ref c)
    (hb : ∀ (A : Around) (outer : List Env) (s : Shared) (H : Hp) (E : XK), Cl (cxOf (L2.CX P w) P w K mg base N qual (defScope st) f (.ref c) A outer s H E) k → DSs κ (cxOf (L2.CX P w) P w K mg base N qual (defScope st) f (.ref c) A outer s H E) (defBody st) b) :
    FnD κ P w K mg base (k + 1) f fd ps (fnR N.length ps.length b) := by
  obtain ⟨oc, od, kV, doc, pm, an, cdv, ct, osl, rfl, lk, hcd⟩ := F.ex
  have hco : cdv = .ref c := hco
  subst hco
  refine ⟨fun as μ hn => if_neg hn, fun A outer s0 s H args us vs as ι μ Q E hr hgd e0 KX hbd r ra hl sr h => ?_⟩
  have lim : s.heap.NoLimit := e0.mod.nolimit.keeps fun b o e => (e0.bs b o e).1
  have par : ∀ y ∈ ps.zip us, (defScope st).names.lookup y.1 = some .local ∨ ((defScope st).names.lookup y.1 = some .cell ∧ ((cellsFrom (s.heap.objs.size + 1) (defScope st).names []).lookup y.1).isSome = true) := by
    rintro ⟨n, v⟩ hy
    exact (S.par n (List.of_mem_zip hy).1).imp id fun q => ⟨q, PySem.W.cellsFrom_some _ _ _ (.inl q)⟩
  refine codeAny_call_function hr.depth (KX _ _ lk) rfl S.co S.gen rfl (PySem.W.codeRec_of KX hcd) (hbd _ _ _ _ ?_)
  refine wpAny_newFunctionEnv_cells S.kind par fun env he s1 x => ?_
  subst he
  refine ⟨lim.keeps x.toInCall.keep, codeAny_func ?_⟩
  have I := inv_start (CX := L2.CX P w) (E := E) (f := f) (qual := qual) (cd := .ref c) S hr.hd e0 hl r x
  have cl : Cl (cxOf (L2.CX P w) P w K mg base N qual (defScope st) f (.ref c) A outer s H E) k := ⟨rfl, S.nd, hr.deeper _, guards_deeper hgd, hsm⟩
  obtain ⟨t, pt, it⟩ := hb A outer s H E cl _ (takes_of rfl rfl rfl rfl)
  have hlen : as.length = ps.length := ra.length.trans hl
  have go : t { nx := fun _ H' => Q .non H', rt := Q } (L2.start N vs) H := by
    refine it _ _ H ι (startA N.length as) μ sr (start_rel ra) ?_
    have h2 := gc_ok (r := bodyR N.length b as μ) sr (by simpa only [fnR, if_pos hlen] using h)
    unfold bodyR at h2
    cases eb : b (startA N.length as) μ with
    | nx ρ' μ' => rw [eb] at h2; exact fun ι' H' σ' p m sr' _ => h2 ι' H' p m sr' .non .non
    | rt v μ' => rw [eb] at h2; exact fun ι' H' x p m sr' rx => h2 ι' H' p m sr' x rx
    | ex c p ρ' μ' => rw [eb] at h2; exact fun ι' H' σ' d p m sr' _ e => h2 ι' H' d p m sr' e
    | bk ρ' μ' => rw [eb] at h2; exact False.elim h2
    | ct ρ' μ' => rw [eb] at h2; exact False.elim h2
    | bad => rw [eb] at h2; exact False.elim h2
  refine wpAny_mono (pt.run [] s1 (L2.start N vs) H _ I go) (fun fl s' hs => ?_) fun e s' hs => hs
  cases fl with
  | next =>
    obtain ⟨σ', H', J, q⟩ := hs
    exact ⟨V.non, H', J.os, J.bare, J.base, J.hok, rfl, q⟩
  | ret u =>
    obtain ⟨v, σ', H', J, rv, q⟩ := hs
    exact ⟨v, H', J.os, J.bare, J.base, J.hok, rv, q⟩
  | brk =>
    obtain ⟨_, _, _, q⟩ := hs
    exact False.elim q
  | cont =>
    obtain ⟨_, _, _, q⟩ := hs
    exact False.elim q
theorem tab_hu {L : List (Addr × Str)} (nd : (L.map (·.1)).Nodup) {P : Addr} {q : Str} (h : (P, q) ∈ L) : ∀ p ∈ L, p.1 = P → p.2 = q := by
  induction L with
  | nil => cases h
  | cons y ys ih =>
    rw [List.map_cons, List.nodup_cons] at nd
    intro p hp e
    rcases List.mem_cons.mp h with h | h
    · rcases List.mem_cons.mp hp with hp | hp
      · rw [hp, ← h]
      · exact absurd (List.mem_map.mpr ⟨p, hp, e.trans (by rw [← h])⟩) nd.1
    · rcases List.mem_cons.mp hp with hp | hp
      · exact absurd (List.mem_map.mpr ⟨_, h, e.symm.trans (by rw [hp])⟩) nd.1
      · exact ih nd.2 h p hp e
theorem tab_of {K : PySem.W.Frag} {fa c P : Addr} {h : Heap} {fd : FuncData} {oc e : Value} {od dd : Option Addr} {vs : Array Value} {sl sl2 : Array (Option Value)} (o : LamX.OwnTab K fa h) (l : K.lookup fa = some ⟨oc, od, .func fd, sl⟩) (hc : fd.code = .ref c)
    (l2 : K.lookup c = some ⟨e, dd, .fields vs, sl2⟩) (hv : vs[11]? = some (.ref P)) : h.get? P = some { cls := .none, data := .fields #[] } := o c P _ fd e dd vs sl2 l rfl hc l2 hv
theorem law_walkN {l : PySem.W.OpenLaw} {n k : Nat} {q : Program} {loose : List Str} {XP : (Str → Option Value) → Heap → Prop} {YP : World → Heap → Prop} {d : DefRec} {K : Params → PySem.W.Frag} {x : Str} (dns : List Str)
    (hn : l.most = some n) (hn2 : n ≤ sizeLine) (hdf : d.params.defaults = []) (hr : Room k callerA) (hq : importsNone q = true) (hrec : (dns.all fun dn => (recsOf q).any fun e => e.name == dn) = true)
    (hY : ∀ (w : World) (h : Heap), YP w h → (K w.params).In h)
    (F : ∀ (w : World) (mg : Str → Option Value) (fa : Addr) (h : Heap), YP w h → (K w.params).In h → h.Ns mainGlobals mg → mg d.name = some (.ref fa) → (∀ dn ∈ dns, ∀ fa', mg dn = some (.ref fa') → LamX.OwnTab (K w.params) fa' h) →
      ∃ (fd : FuncData) (κ : Kap) (cs : List (Addr × Addr)) (r : Fn), (∀ p ∈ cs, h.get? p.2 = some { cls := .none, data := .fields #[] }) ∧ (∀ p ∈ cs, (K w.params).lookup p.2 = none) ∧ (∀ p ∈ cs, PySem.W.CodeHd h p.1 p.2) ∧ (∀ p ∈ κ.T, p.1 ∈ cs.map (·.2)) ∧
        (∀ (s : Shared) (u : Value), BindsTo s fd ⟨[u], []⟩ [(x, u)]) ∧ (∀ ns : List Int, ns.length ≤ n → (∀ i ∈ ns, Builtin.Int.intBits i ≤ 1048576) → ∃ μ', r [.scr ns] [] = .ok (.bl true) μ') ∧
        ∀ base : Heap, (K w.params).In base → base.Ns mainGlobals mg → (∃ o, base.get? sysModules = some o) → (∀ p ∈ cs, LamX.TabB base mg p.1 p.2) → FnD κ l.prog w (K w.params) mg base k fa fd [x] r) :
    PySem.W.WalkO q loose XP YP l.row.toRowW d [] (fun f vs => PySem.call f vs) := by
  refine Att.attach_callB hn hdf fun w s₀ s₁ mg mb fa o pm cd doc a vs ns G Y ho hd hcd hmg hobj hints hlen hbits hg => ?_
  have KX := hY w _ Y
  have own : ∀ dn ∈ dns, ∀ fa', mg dn = some (.ref fa') → LamX.OwnTab (K w.params) fa' s₁.heap := fun dn hdn fa' hmg' c P o1 fd1 e dd vs1 sl k1 k2 k3 k4 k5 => by
    obtain ⟨dL, hm, hn1⟩ := List.any_eq_true.mp (List.all_eq_true.mp hrec dn hdn)
    have hn2 : dL.name = dn := beq_iff_eq.mp hn1
    obtain ⟨a', o', fd', c', P', h1, h2, h3, h4, h5, h6⟩ := G.T.tab dL hm
    rw [hn2, hmg'] at h1
    cases h1
    have g1 := KX _ _ k1
    rw [g1] at h2
    cases h2
    rw [k2] at h3
    cases h3
    rw [k3] at h4
    cases h4
    obtain ⟨⟨oc, vc, e1, _, e3, e4⟩, hP⟩ := h6
    have g2 := KX _ _ k4
    rw [g2] at e1
    cases e1
    cases e3
    rw [k5] at e4
    cases e4
    exact hP
  obtain ⟨fd, κ, cs, r, hT, nT, C, hkT, hb, hok, hF⟩ := F w mg fa _ Y KX G.T.g hmg own
  obtain ⟨μ', e⟩ := hok ns hlen hbits
  exact law_run KX G.T.g G.T.b G.T.builtins G.T.nolimit (G.T.seer hq) hg hT nT C G.T.bmain hkT hobj hints (Nat.le_trans hlen hn2) hr hF hb e
end Lr
namespace Lr
open PySem PySem.Spec L2
open PyProof.Rows hiding St
end Lr
namespace Lr
open PySem PySem.Spec L2
open PyProof.Rows hiding St
theorem RelL.maps {K : PySem.W.Frag} {κ : Kap} {ι : List Addr} {H : Hp} {γ : Type} {f : γ → AV} {g : γ → V} (h : ∀ x, Rel K κ ι H (f x) (g x)) : ∀ xs : List γ, RelL K κ ι H (xs.map f) (xs.map g)
  | [] => .nil
  | x :: xs => .cons (h x) (RelL.maps h xs)
section
variable {κ : Kap} {X : Cx} {a : Expr} {ra : AE} {k : Nat} {p p2 pos pos2 : Pos}
def aLRg (r : AE) : AA := fun ρ μ => (r ρ μ).bind fun x μ1 => match x with
  | .int n => if decide (0 ≤ n) && decide (n ≤ 1000000) then .ok (rangeL 0 n.toNat) μ1 else .bad
  | _ => .bad
theorem DN.lrg (cl : Cl X k) (hg : Gl X "list") (hm : X.mg "list" = none) (hg2 : Gl X "range") (hm2 : X.mg "range" = none) (ha : DE κ X a ra)
    (na : starEach [a] X.env = (false, eval a X.env) :: starEach [] X.env := by rfl)
    (nb : starEach [.Call (.Name "range" p2) [a] [] pos2] X.env = (false, eval (.Call (.Name "range" p2) [a] [] pos2) X.env) :: starEach [] X.env := by rfl) :
    DN κ X (.Call (.Name "list" p) [.Call (.Name "range" p2) [a] [] pos2] [] pos) (aLRg ra) := DN.mk cl fun W tk => by
  obtain ⟨t, q, i⟩ := ha W tk
  refine ⟨_, pe_listRg cl.calm hg hm (prg_1 hg2 hm2 q na) nb, fun σ H Q ι ρ μ sr rl h => ?_⟩
  refine i σ H _ ι ρ μ sr rl (PG.bind0 h fun x μ1 ι1 H1 p1 m1 sr1 h1 v rv => ?_)
  split at h1 <;> first | exact False.elim h1 | skip
  rename_i n
  cases rv
  by_cases hz : (decide (0 ≤ n) && decide (n ≤ 1000000)) = true
  · rw [if_pos hz] at h1
    simp only [Bool.and_eq_true, decide_eq_true_eq] at hz
    obtain ⟨z1, z2⟩ := hz
    refine ⟨n, rfl, RgOk.of_le (by omega) (by omega) (by omega) (by omega), fun l hn => okNew sr sr1 m1 h1 ?_ hn⟩
    unfold rangeL rgV
    rw [Int.sub_zero]
    exact RelL.maps (fun i => .int _) _
  · rw [if_neg hz] at h1
    exact False.elim h1
end
end Lr
namespace Lr
open PySem PySem.Spec L2
open PyProof.Rows hiding St
def putFA (f : Str) (v : AV) : List (Str × AV) → List (Str × AV)
  | [] => [(f, v)]
  | (g, x) :: r => if g = f then (g, v) :: r else (g, x) :: putFA f v r
section
variable {K : PySem.W.Frag} {κ : Kap} {ι : List Addr} {H : Hp} {f : Str}
theorem RelF.put {v : AV} {x : V} (h : Rel K κ ι H v x) : ∀ {fs : List (Str × AV)} {gs : List (Str × V)}, RelF K κ ι H fs gs → RelF K κ ι H (putFA f v fs) (putF f x gs)
  | _, _, .nil => .cons ⟨rfl, h⟩ .nil
  | (g, y) :: fs, (g2, z) :: gs, .cons a r => by
    obtain ⟨e, ry⟩ := a
    dsimp only at e ry
    subst e
    unfold putFA putF
    split
    · exact .cons ⟨rfl, h⟩ r
    · exact .cons ⟨rfl, ry⟩ (RelF.put h r)
theorem RelF.look {v : AV} : ∀ {fs : List (Str × AV)} {gs : List (Str × V)}, RelF K κ ι H fs gs → fs.lookup f = some v → ∃ x, gs.lookup f = some x ∧ Rel K κ ι H v x
  | _, _, .nil, e => by cases e
  | (g, y) :: fs, (g2, z) :: gs, .cons a r, e => by
    obtain ⟨e1, ry⟩ := a
    dsimp only at e1 ry
    subst e1
    simp only [List.lookup] at e ⊢
    split at e
    · cases e; exact ⟨z, rfl, ry⟩
    · exact RelF.look r e
theorem RelF.lookN : ∀ {fs : List (Str × AV)} {gs : List (Str × V)}, RelF K κ ι H fs gs → fs.lookup f = none → gs.lookup f = none
  | _, _, .nil, e => rfl
  | (g, y) :: fs, (g2, z) :: gs, .cons a r, e => by
    obtain ⟨e1, ry⟩ := a
    dsimp only at e1 ry
    subst e1
    simp only [List.lookup] at e ⊢
    split at e
    · cases e
    · exact RelF.lookN r e
theorem RelF.length : ∀ {fs : List (Str × AV)} {gs : List (Str × V)}, RelF K κ ι H fs gs → fs.length = gs.length
  | _, _, .nil => rfl
  | _, _, .cons _ r => congrArg (· + 1) (RelF.length r)
end
def insAt (μ : Store) (v : AV) : Option (Nat × Nat × List (Str × AV)) := match v with
  | .loc n => (match μ[n]? with
    | some (.ins c fs) => some (n, c, fs)
    | _ => none)
  | _ => none
theorem insAt_loc {μ : Store} {n c : Nat} {fs : List (Str × AV)} (h : μ[n]? = some (.ins c fs)) : insAt μ (.loc n) = some (n, c, fs) := by unfold insAt; simp only [h]
section
variable {K : PySem.W.Frag} {κ : Kap} {ι : List Addr} {H : Hp} {μ : Store}
theorem insAt_spec {v : AV} {x : V} {n c : Nat} {fs : List (Str × AV)} (sr : SR K κ ι μ H) (r : Rel K κ ι H v x) (e : insAt μ v = some (n, c, fs)) : ∃ (a dx : Addr) (gs : List (Str × V)), v = .loc n ∧ x = .ref a ∧ ι[n]? = some a ∧ μ[n]? = some (.ins c fs) ∧ H a = some (.ins (κ c) dx gs) ∧ RelF K κ ι H fs gs := by
  unfold insAt at e
  split at e
  · split at e
    · rename_i m c' fs' hm
      cases e
      cases r with
      | loc h =>
        obtain ⟨dx, gs, h1, h2⟩ := sr.obj _ _ _ hm h
        exact ⟨_, dx, gs, rfl, rfl, h, hm, h1, h2⟩
    · cases e
  · cases e
end
def eFld (cs : List Nat) (f : Str) (ra : AE) : AE := fun ρ μ => (ra ρ μ).bind fun v μ1 => match insAt μ1 v with
  | some (_, c, fs) => if c ∈ cs then (match fs.lookup f with
    | some u => .ok u μ1
    | none => .bad) else .bad
  | none => .bad
section
variable {κ : Kap} {X : Cx} {e o : Expr} {es : List Expr} {ra ro rv : AE} {rs : AA} {f x m : Str} {pos pos' apos p : Pos} {cs : List Nat} {k j c : Nat}
theorem DE.fld (cs : List Nat) (hk : ∀ c ∈ cs, Cls X.K (κ c) ∧ NoAttr X.K (κ c) f) (ha : DE κ X e ra) (hb : attributeBase e f X.env (eval e X.env) = eval e X.env := by rfl) : DE κ X (.Attribute e f pos) (eFld cs f ra) := fun W tk => by
  obtain ⟨t, p, i⟩ := ha W tk
  refine ⟨tFld X.K t f, pe_fld p hb, fun σ H Q ι ρ μ sr rl h => ?_⟩
  refine i σ H _ ι ρ μ sr rl (PG.bind h fun v μ1 ι1 H1 p1 m1 sr1 h1 x rx => ?_)
  cases e1 : insAt μ1 v with
  | none => rw [e1] at h1; exact False.elim h1
  | some q =>
    obtain ⟨n, c, fs⟩ := q
    rw [e1] at h1
    dsimp only at h1
    split at h1
    · rename_i hc
      cases e2 : fs.lookup f with
      | none => rw [e2] at h1; exact False.elim h1
      | some u =>
        rw [e2] at h1
        obtain ⟨a, dx, gs, e3, e4, e5, e6, e7, e8⟩ := insAt_spec sr1 rx e1
        obtain ⟨y, ey, ry⟩ := e8.look e2
        exact ⟨a, _, dx, gs, y, e4, e7, (hk c hc).1, (hk c hc).2, ey, h1 ι1 H1 (List.prefix_refl _) (HM.refl _) sr1 y ry⟩
    · exact False.elim h1
def putAt (cs : List Nat) (f : Str) (o v : AV) (ρ : Loc) (μ : Store) (go : Store → Out) : Out := match insAt μ o with
  | some (n, c, fs) => if c ∈ cs ∧ fs.length < 1000 then go (μ.set n (.ins c (putFA f v fs))) else .bad
  | none => .bad
theorem putAt_ok {K : PySem.W.Frag} {W : WX} {ι : List Addr} {H : Hp} {D : Ends} {ρ : Loc} {μ : Store} {o v : AV} {xo xv : V} {go : Store → Out} {σ : St} (hk : ∀ c ∈ cs, Cls K (κ c) ∧ NoAttr K (κ c) f) (sr : SR K κ ι μ H) (rl : RelS K κ ι H ρ σ) (ro : Rel K κ ι H o xo) (rv : Rel K κ ι H v xv)
    (h : PO' K κ W ι H D (putAt cs f o v ρ μ go)) : ∃ (a C dx : Addr) (gs : List (Str × V)), xo = .ref a ∧ H a = some (.ins C dx gs) ∧ Cls K C ∧ NoAttr K C f ∧ gs.length < 1000 ∧ HM ι H ι (L2.upd H a (.ins C dx (putF f xv gs))) ∧ (∃ μ', SR K κ ι μ' (L2.upd H a (.ins C dx (putF f xv gs))) ∧ PO' K κ W ι (L2.upd H a (.ins C dx (putF f xv gs))) D (go μ')) := by
  unfold putAt at h
  cases e1 : insAt μ o with
  | none => rw [e1] at h; exact False.elim h
  | some q =>
    obtain ⟨n, c, fs⟩ := q
    rw [e1] at h
    dsimp only at h
    split at h
    · rename_i hc
      obtain ⟨a, dx, gs, e3, e4, e5, e6, e7, e8⟩ := insAt_spec sr ro e1
      have mu : Mut (H a) := by rw [e7]; exact True.intro
      have m2 : HM ι H ι (L2.upd H a (.ins (κ c) dx (putF f xv gs))) := HM.wr mu (List.mem_of_getElem? e5)
      refine ⟨a, _, dx, gs, e4, e7, (hk c hc.1).1, (hk c hc.1).2, by rw [← e8.length]; exact hc.2, m2, _, sr.write (o := .ins c (putFA f v fs)) e5 mu ⟨dx, _, upd_same, ((e8.put rv).mono (List.prefix_refl _) m2.w)⟩, PO'.mono (List.prefix_refl _) m2 h⟩
    · exact False.elim h
def sFldP (cs : List Nat) (f : Str) (ro rv : AE) : AS := fun ρ μ => (rv ρ μ).out ρ fun v μ1 => (ro ρ μ1).out ρ fun o μ2 => putAt cs f o v ρ μ2 fun μ3 => .nx ρ μ3
theorem DS.fldP (cs : List Nat) (hk : ∀ c ∈ cs, Cls X.K (κ c) ∧ NoAttr X.K (κ c) f) (ho : DE κ X o ro) (hv : DE κ X e rv) (hs : swapsWith e (some (.Attribute o f pos')) pos.line X.env = pure false := by rfl) : DS κ X (.Assign [.Attribute o f pos'] e pos) (sFldP cs f ro rv) := fun W tk => by
  obtain ⟨to, po, io⟩ := ho W tk
  obtain ⟨tv, pv, iv⟩ := hv W tk
  refine ⟨sFld X.K to tv f, ps_fld po pv hs, fun D σ H ι ρ μ sr rl h => ?_⟩
  refine iv σ H _ ι ρ μ sr rl (PO'.bind rl h fun v μ1 ι1 H1 p1 m1 sr1 h1 y ry => ?_)
  have rl1 := rl.mono p1 m1
  refine io σ H1 _ ι1 ρ μ1 sr1 rl1 (PO'.bind rl1 h1 fun o μ2 ι2 H2 p2 m2 sr2 h2 x rx => ?_)
  obtain ⟨a, C, dx, gs, e1, e2, e3, e4, e5, m3, μ', sr3, h3⟩ := putAt_ok hk sr2 (rl1.mono p2 m2) rx (ry.mono p2 m2) h2
  exact ⟨a, C, dx, gs, e1, e2, e3, e4, e5, h3 ι2 _ σ (List.prefix_refl _) (HM.refl _) sr3 ((rl1.mono p2 m2).mono (List.prefix_refl _) m3)⟩
def DGF (κ : Kap) (X : Cx) (es : List Expr) (r : List AV → AS) : Prop := ∀ W, Takes X W → ∃ t, PGs X es t ∧ ∀ (D : Ends) (σ : St) (H : Hp) (ι : List Addr) (ρ : Loc) (μ : Store) (vs : List AV) (xs : List V), SR X.K κ ι μ H → RelS X.K κ ι H ρ σ → RelL X.K κ ι H vs xs → PO' X.K κ W ι H D (r vs ρ μ) → t xs σ H D.nx
def gF0 : List AV → AS := fun vs ρ μ => match vs with
  | [] => .nx ρ μ
  | _ => .bad
theorem DGF.nil : DGF κ X [] gF0 := fun W tk => ⟨_, pgs_nil, fun D σ H ι ρ μ vs xs sr rl r h => by
  cases r with
  | nil => exact ⟨rfl, h ι H σ (List.prefix_refl _) (HM.refl _) sr rl⟩
  | cons _ _ => exact False.elim h⟩
def eMkI (c : Nat) (r : Fn) (a : AA) : AE := fun ρ μ => (a ρ μ).bind fun as μ1 => (r (.loc μ1.length :: as) (μ1 ++ [.ins c []])).bind fun v μ2 => match v with
  | .non => .ok (.loc μ1.length) μ2
  | _ => .bad
theorem guards_under {A : Around} {C : Addr} {us : List Value} (h : A.guards = some []) : (A.under (.builtin "type.__call__" ⟨.ref C :: us, []⟩)).guards = some [] := by
  first | exact h | (simpa [Around.under] using h)
theorem DE.mki {fI : Addr} {fd : FuncData} {ps : List Str} {r : Fn} (M : Mk X.K (κ c) fI) (cl : Cl X (k + 1)) (F : FnD κ X.prog X.w X.K X.mg X.base k fI fd ps r) (hg : Gl X x) (hm : X.mg x = some (.ref (κ c))) (hb : Binds X.K fd ps [])
    (ha : DA κ X (e :: es) rs) (hdb : (x == ("__debug__" : Str)) = false := by decide) (he : starEach (e :: es) X.env = (false, eval e X.env) :: starEach es X.env := by rfl) (hpl : (backTo pos (starEach es X.env)).any (·.1) = false := by rfl) :
    DE κ X (.Call (.Name x p) (e :: es) [] pos) (eMkI c r rs) := fun W tk => by
  obtain ⟨t, q, i⟩ := ha W tk
  refine ⟨fun σ H Q => t σ H fun vs H1 => ∃ (ι : List Addr) (μ : Store) (as : List AV), SR X.K κ ι μ H1 ∧ RelL X.K κ ι H1 as vs ∧ PG X.K κ W σ ι H1 (CV X.K κ Q) ((r (.loc μ.length :: as) (μ ++ [.ins c []])).bind fun v μ2 => match v with
    | .non => .ok (.loc μ.length) μ2
    | _ => .bad), ⟨fun pins s σ H Q I h => ?_⟩, fun σ H Q ι ρ μ sr rl h => ?_⟩
  · refine wpAny_Call_Name_kw (ld_glob I hg hm ?_ hdb)
    refine PySem.W.callWith_K (h₀ := X.base) I.ok.mod.kin M.kp (thn (q.run pos pins s σ H _ I h) fun us s1 ⟨vs, H1, I1, rv, ι, μ, as, sr, ra, h1⟩ => ⟨I1.kIn, ?_⟩) he hpl
    have nx : H1 (s1.heap.objs.size + 1) = none := I1.hok.fresh (Nat.le_succ _)
    have nd : H1 s1.heap.objs.size = none := I1.hok.fresh (Nat.le_refl _)
    have hne : s1.heap.objs.size ≠ s1.heap.objs.size + 1 := Nat.ne_of_lt (Nat.lt_succ_self _)
    generalize ex : s1.heap.objs.size + 1 = x at *
    have I2 := Inv.made (C := κ c) I1
    rw [ex] at I2
    have nx1 : L2.upd H1 s1.heap.objs.size (.own x) x = none := by rw [upd_ne (Ne.symm hne)]; exact nx
    have mA : HM ι H1 ι (L2.upd H1 s1.heap.objs.size (.own x)) := HM.fresh nd
    have mB : HM ι (L2.upd H1 s1.heap.objs.size (.own x)) ι (L2.upd (L2.upd H1 s1.heap.objs.size (.own x)) x (.ins (κ c) s1.heap.objs.size [])) := HM.fresh nx1
    have mC := (mA.trans mB).more nx
    have sr2 : SR X.K κ (ι ++ [x]) (μ ++ [.ins c []]) (L2.upd (L2.upd H1 s1.heap.objs.size (.own x)) x (.ins (κ c) s1.heap.objs.size [])) :=
      ((sr.new nd).new nx1).alloc ⟨_, [], upd_same, .nil⟩ (sr.notin nx) (by rw [upd_same]; simp) (by rw [upd_same]; trivial)
    have hl0 : (AV.loc μ.length :: as).length = ps.length := by
      by_cases z : (AV.loc μ.length :: as).length = ps.length
      · exact z
      · rw [F.len _ _ z] at h1; exact False.elim h1
    have rself : Rel X.K κ (ι ++ [x]) (L2.upd (L2.upd H1 s1.heap.objs.size (.own x)) x (.ins (κ c) s1.heap.objs.size [])) (.loc μ.length) (.ref x) := .loc (by rw [← sr.len]; simp)
    have ra2 : RelL X.K κ (ι ++ [x]) (L2.upd (L2.upd H1 s1.heap.objs.size (.own x)) x (.ins (κ c) s1.heap.objs.size [])) (AV.loc μ.length :: as) (V.ref x :: vs) := .cons rself (ra.mono (List.prefix_append _ _) mC)
    have r2 : Vals (V.ref x :: vs) (Value.ref x :: us) := .cons rfl rv
    have hl2 : (Value.ref x :: us ++ ([] : List Value)).length = ps.length := by rw [List.append_nil, ← r2.length, ← ra2.length]; exact hl0
    have hbd := hb _ (Value.ref x :: us) I2.kIn hl2
    rw [List.append_nil] at hbd
    have hq : PG X.K κ (fun cls d _ H' => W cls d σ H') [] (ι ++ [x]) (L2.upd (L2.upd H1 s1.heap.objs.size (.own x)) x (.ins (κ c) s1.heap.objs.size [])) (CV X.K κ fun v H2 => v = .non ∧ Q (.ref x) H2) (r (.loc μ.length :: as) (μ ++ [.ins c []])) := by
      cases er : r (.loc μ.length :: as) (μ ++ [.ins c []]) with
      | bad => rw [er] at h1; exact h1
      | ex c2 v2 μ2 =>
        rw [er] at h1
        exact PG.mono (W := fun cls d _ H' => W cls d σ H') (σ := []) (C := CV X.K κ fun v H2 => v = .non ∧ Q (.ref x) H2) (r := Res.ex c2 v2 μ2) (List.prefix_append _ _) mC (by exact h1)
      | ok v2 μ2 =>
        rw [er] at h1
        intro ι' H' p' m' sr' y ry
        simp only [Res.bind_ok] at h1
        cases v2 with
        | non =>
          cases ry
          exact ⟨rfl, h1 ι' H' ((List.prefix_append _ _).trans p') (mC.trans m') sr' _ (rself.mono p' m')⟩
        | _ => exact False.elim h1
    refine wpAny_call (make_map (f := fI) I1.kIn M.makes M.init (beq_iff_eq.mp M.fn) ?_)
    rw [ex]
    refine codeAny_mono (F.run _ X.stack _ _ ⟨Value.ref x :: us, []⟩ (Value.ref x :: us) (V.ref x :: vs) (.loc μ.length :: as) (ι ++ [x]) (μ ++ [.ins c []]) _ (fun cls d H' => W cls d σ H') (cl.room.make (κ c) us []) (guards_under cl.gd)
      (I2.env0.make (κ c) us []) hbd r2 ra2 (by rw [← ra2.length]; exact hl0) sr2 hq) fun rr s' hq' => ?_
    cases rr with
    | error e => exact tk e s' (XE.of_call I2 (fun _ _ _ z => z) hq')
    | ok fl =>
      cases fl with
      | ret u =>
        obtain ⟨v, H', I3, rv3, ev, q3⟩ := I2.after hq'
        subst ev
        exact ⟨rv3, ⟨V.ref x, H', I3, rfl, q3⟩⟩
      | next => exact False.elim hq'
      | brk => exact False.elim hq'
      | cont => exact False.elim hq'
  · exact i σ H _ ι ρ μ sr rl (PG.bind h fun as μ1 ι1 H1 p1 m1 sr1 h1 vs rv => ⟨ι1, μ1, as, sr1, rv, h1⟩)
def eMeth (cs : List Nat) (m : Str) (rm : Nat → Fn) (ro : AE) (a : AA) : AE := fun ρ μ => (ro ρ μ).bind fun o μ1 => match insAt μ1 o with
  | some (_, c, fs) => if c ∈ cs ∧ (fs.lookup m).isNone = true then (a ρ μ1).bind fun as μ2 => rm c (o :: as) μ2 else .bad
  | none => .bad
structure MethD (κ : Kap) (X : Cx) (k : Nat) (c : Nat) (m : Str) (r : Fn) : Prop where
  ex : ∃ (f : Addr) (fd : FuncData) (ps : List Str), Cls X.K (κ c) ∧ Meth X.K (κ c) m f ∧ FnD κ X.prog X.w X.K X.mg X.base k f fd ps r ∧ Binds X.K fd ps []
theorem DE.meth {pl : Sem Bool} (cl : Cl X k) (cs : List Nat) (rm : Nat → Fn) (hm : ∀ c ∈ cs, MethD κ X k c m (rm c)) (ho : DE κ X o ro) (ha : DA κ X (e :: es) rs)
    (hst : starEach (e :: es) X.env = (false, eval e X.env) :: starEach es X.env := by rfl) (hpl : (backTo pos (starEach es X.env)).any (·.1) = false := by rfl)
    (ht : eval (.Call (.Attribute o m apos) (e :: es) [] pos) X.env = (do
      let ov ← eval o X.env
      standAt apos.atName
      let (f, first) ← holding [ov] (getMethod ov m pl)
      callWith pos f first (backTo pos (starEach (e :: es) X.env)) (backToKw pos (keywordEach [] X.env))) := by rfl) :
    DE κ X (.Call (.Attribute o m apos) (e :: es) [] pos) (eMeth cs m rm ro rs) := fun W tk => by
  obtain ⟨to, po, io⟩ := ho W tk
  obtain ⟨ta, pa, ia⟩ := ha W tk
  refine ⟨fun σ H Q => ∃ (ι : List Addr) (ρ : Lr.Loc) (μ : Store), SR X.K κ ι μ H ∧ RelS X.K κ ι H ρ σ ∧ PG X.K κ W σ ι H (CV X.K κ Q) (eMeth cs m rm ro rs ρ μ), ⟨fun pins s σ H Q I h => ?_⟩, fun σ H Q ι ρ μ sr rl h => ⟨ι, ρ, μ, sr, rl, h⟩⟩
  obtain ⟨ι, ρ, μ, sr, rl, h⟩ := h
  refine PySem.W.methodCall_KW (pl := pl) (thn (po.run pins s σ H (fun x H1 => ∃ (a dx : Addr) (gs : List (Str × V)) (c : Nat) (ι1 : List Addr) (μ1 : Store) (v : AV), c ∈ cs ∧ x = .ref a ∧ H1 a = some (.ins (κ c) dx gs) ∧ gs.lookup m = none ∧ SR X.K κ ι1 μ1 H1 ∧ RelS X.K κ ι1 H1 ρ σ ∧ Rel X.K κ ι1 H1 v x ∧
      PG X.K κ W σ ι1 H1 (CV X.K κ Q) ((rs ρ μ1).bind fun as μ2 => rm c (v :: as) μ2)) I (io σ H _ ι ρ μ sr rl (PG.bind h fun v μ1 ι1 H1 p1 m1 sr1 h1 x rx => ?_))) fun u s1 ⟨x, H1, I1, rx, a, dx, gs, c, ι1, μ1, v, hc, ex, ea, hl, sr1, rl1, rv, h1⟩ => ?_) ht
  · cases e1 : insAt μ1 v with
    | none => rw [e1] at h1; exact False.elim h1
    | some q =>
      obtain ⟨n, c, fs⟩ := q
      rw [e1] at h1
      dsimp only at h1
      split at h1
      · rename_i hc
        obtain ⟨a, dx, gs, e3, e4, e5, e6, e7, e8⟩ := insAt_spec sr1 rx e1
        exact ⟨a, dx, gs, c, ι1, μ1, v, hc.1, e4, e7, e8.lookN (Option.isNone_iff_eq_none.mp hc.2), sr1, rl.mono p1 m1, rx, h1⟩
      · exact False.elim h1
  · subst ex
    obtain rfl : u = Value.ref a := rx
    obtain ⟨f, fd, ps, kc, km, F, hb⟩ := (hm c hc).ex
    refine getmeth_ok I1 ea kc km hl ?_
    refine PySem.W.callWith_K (first := [.ref a]) (h₀ := X.base) I.ok.mod.kin km.kp (thn (pa.run pos pins s1 σ H1 (fun vs H2 => ∃ (ι2 : List Addr) (μ2 : Store) (as : List AV), SR X.K κ ι2 μ2 H2 ∧ RelL X.K κ ι2 H2 (v :: as) (V.ref a :: vs) ∧ PG X.K κ W σ ι2 H2 (CV X.K κ Q) (rm c (v :: as) μ2)) I1
      (ia σ H1 _ ι1 ρ μ1 sr1 rl1 (PG.bind h1 fun as μ2 ι2 H2 p2 m2 sr2 h2 vs rvs => ⟨ι2, μ2, as, sr2, .cons (rv.mono p2 m2) rvs, h2⟩))) fun us s2 ⟨vs, H2, I2, r, ι2, μ2, as, sr2, ra, h2⟩ => ⟨I2.kIn, ?_⟩) hst hpl
    have hl1 : (v :: as).length = ps.length := by
      by_cases z : (v :: as).length = ps.length
      · exact z
      · rw [F.len _ μ2 z] at h2; exact False.elim h2
    have r2 : Vals (V.ref a :: vs) (Value.ref a :: us) := .cons rfl r
    have hl2 : (Value.ref a :: us ++ ([] : List Value)).length = ps.length := by rw [List.append_nil, ← r2.length, ← ra.length]; exact hl1
    have hbd := hb s2 (.ref a :: us) I2.kIn hl2
    rw [List.append_nil] at hbd
    refine wpAny_call (codeAny_mono (F.run X.A X.stack s2 H2 ⟨.ref a :: us, []⟩ (.ref a :: us) (.ref a :: vs) (v :: as) ι2 μ2 Q (fun cls d H' => W cls d σ H') cl.room cl.gd I2.env0 hbd r2 ra (by rw [← ra.length]; exact hl1) sr2 (by
      cases er : rm c (v :: as) μ2 with
      | ok v μ2 => rw [er] at h2; exact h2
      | ex c v μ2 => rw [er] at h2; exact h2
      | bad => rw [er] at h2; exact h2)) fun rr s' hq => ?_)
    cases rr with
    | error e => exact tk e s' (XE.of_call I2 (fun _ _ _ z => z) hq)
    | ok fl =>
      cases fl with
      | ret u => exact I2.after hq
      | next => exact False.elim hq
      | brk => exact False.elim hq
      | cont => exact False.elim hq
theorem DE.meth0 {pl : Sem Bool} (cl : Cl X k) (cs : List Nat) (rm : Nat → Fn) (hm : ∀ c ∈ cs, MethD κ X k c m (rm c)) (ho : DE κ X o ro)
    (ht : eval (.Call (.Attribute o m apos) [] [] pos) X.env = (do
      let ov ← eval o X.env
      standAt apos.atName
      let (f, first) ← holding [ov] (getMethod ov m pl)
      callWith pos f first (backTo pos (starEach [] X.env)) (backToKw pos (keywordEach [] X.env))) := by rfl) :
    DE κ X (.Call (.Attribute o m apos) [] [] pos) (eMeth cs m rm ro aNil) := fun W tk => by
  obtain ⟨to, po, io⟩ := ho W tk
  refine ⟨fun σ H Q => ∃ (ι : List Addr) (ρ : Lr.Loc) (μ : Store), SR X.K κ ι μ H ∧ RelS X.K κ ι H ρ σ ∧ PG X.K κ W σ ι H (CV X.K κ Q) (eMeth cs m rm ro aNil ρ μ), ⟨fun pins s σ H Q I h => ?_⟩, fun σ H Q ι ρ μ sr rl h => ⟨ι, ρ, μ, sr, rl, h⟩⟩
  obtain ⟨ι, ρ, μ, sr, rl, h⟩ := h
  refine PySem.W.methodCall_KW (pl := pl) (thn (po.run pins s σ H (fun x H1 => ∃ (a dx : Addr) (gs : List (Str × V)) (c : Nat) (ι1 : List Addr) (μ1 : Store) (v : AV), c ∈ cs ∧ x = .ref a ∧ H1 a = some (.ins (κ c) dx gs) ∧ gs.lookup m = none ∧ SR X.K κ ι1 μ1 H1 ∧ RelS X.K κ ι1 H1 ρ σ ∧ Rel X.K κ ι1 H1 v x ∧
      PG X.K κ W σ ι1 H1 (CV X.K κ Q) (rm c [v] μ1)) I (io σ H _ ι ρ μ sr rl (PG.bind h fun v μ1 ι1 H1 p1 m1 sr1 h1 x rx => ?_))) fun u s1 ⟨x, H1, I1, rx, a, dx, gs, c, ι1, μ1, v, hc, ex, ea, hl, sr1, rl1, rv, h1⟩ => ?_) ht
  · cases e1 : insAt μ1 v with
    | none => rw [e1] at h1; exact False.elim h1
    | some q =>
      obtain ⟨n, c, fs⟩ := q
      rw [e1] at h1
      dsimp only at h1
      split at h1
      · rename_i hc
        obtain ⟨a, dx, gs, e3, e4, e5, e6, e7, e8⟩ := insAt_spec sr1 rx e1
        exact ⟨a, dx, gs, c, ι1, μ1, v, hc.1, e4, e7, e8.lookN (Option.isNone_iff_eq_none.mp hc.2), sr1, rl.mono p1 m1, rx, h1⟩
      · exact False.elim h1
  · subst ex
    obtain rfl : u = Value.ref a := rx
    obtain ⟨f, fd, ps, kc, km, F, hb⟩ := (hm c hc).ex
    refine getmeth_ok I1 ea kc km hl ?_
    refine PySem.W.callWith_K0 (first := [.ref a]) I1.kIn km.kp ?_
    have hl1 : ([v] : List AV).length = ps.length := by
      by_cases z : ([v] : List AV).length = ps.length
      · exact z
      · rw [F.len _ μ1 z] at h1; exact False.elim h1
    have hl2 : ([Value.ref a] ++ ([] : List Value)).length = ps.length := hl1
    have hbd := hb s1 [.ref a] I1.kIn hl2
    rw [List.append_nil] at hbd
    refine wpAny_call (codeAny_mono (F.run X.A X.stack s1 H1 ⟨[.ref a], []⟩ [.ref a] [.ref a] [v] ι1 μ1 Q (fun cls d H' => W cls d σ H') cl.room cl.gd I1.env0 hbd (.cons rfl .nil) (.cons rv .nil) hl1 sr1 (by
      cases er : rm c [v] μ1 with
      | ok v μ2 => rw [er] at h1; exact h1
      | ex c v μ2 => rw [er] at h1; exact h1
      | bad => rw [er] at h1; exact h1)) fun rr s' hq => ?_)
    cases rr with
    | error e => exact tk e s' (XE.of_call I1 (fun _ _ _ z => z) hq)
    | ok fl =>
      cases fl with
      | ret u => exact I1.after hq
      | next => exact False.elim hq
      | brk => exact False.elim hq
      | cont => exact False.elim hq
end
end Lr
set_option maxHeartbeats 1000000
namespace Lr
open PySem PySem.Spec L2
open PyProof.Rows hiding St
def MC (X : Cx) (cs : List MatchCase) (t : V → TS) : Prop := ∀ (pins : List (Addr × Obj)) (s : Shared) (σ : St) (H : Hp) (D : Ends) (v : V) (u : Value) (first : Bool), Inv X pins σ H s → RelV v u → t v D σ H → wpAny (model X.prog X.w) X.A (matchCases cs X.env u first) (SP X pins D) X.xe s
def DMC (κ : Kap) (X : Cx) (cs : List MatchCase) (r : AV → AS) : Prop := ∀ W, Takes X W → ∃ t, MC X cs t ∧ ∀ (D : Ends) (σ : St) (H : Hp) (ι : List Addr) (ρ : Loc) (μ : Store) (v : AV) (x : V), SR X.K κ ι μ H → RelS X.K κ ι H ρ σ → Rel X.K κ ι H v x → PO' X.K κ W ι H D (r v ρ μ) → t x D σ H
def mc0 : AV → AS := fun _ ρ μ => .nx ρ μ
section
variable {κ : Kap} {X : Cx} {e g : Expr} {re : AE} {rg : AT} {body : List Stmt} {rb : AS} {rest : List MatchCase} {rr : AV → AS} {i j : Nat} {x y : Str} {p1 p2 p3 pos : Pos}
theorem DMC.nil : DMC κ X [] mc0 := fun W tk => ⟨fun v D σ H => D.nx σ H, fun pins s σ H D v u first I r h => wpAny_matchCases_nil ⟨σ, H, I, h⟩, fun D σ H ι ρ μ v x sr rl r h => h ι H σ (List.prefix_refl _) (HM.refl _) sr rl⟩
end
end Lr
set_option maxHeartbeats 1000000
namespace Lr
open PySem PySem.Spec L2
open PyProof.Rows hiding St
def kI (K : PySem.W.Frag) (κ : Kap) (W : WX) (r : AI) : TI := fun σ H R => ∃ (ι : List Addr) (ρ : Loc) (μ : Store), SR K κ ι μ H ∧ RelS K κ ι H ρ σ ∧ PG K κ W σ ι H (fun src ι' H' => ∀ J, JR K κ ι' H' src J → R J H') (r ρ μ)
theorem DI.kan {κ : Kap} {X : Cx} {tg e : Expr} {r : AI} {W : WX} (h : DI κ X tg e r) (tk : Takes X W) : PI X tg e (kI X.K κ W r) := by
  obtain ⟨t, p, i⟩ := h W tk
  exact ⟨fun pins s σ H R I ⟨ι, ρ, μ, sr, rl, z⟩ => p.run pins s σ H R I (i σ H R ι ρ μ sr rl z)⟩
end Lr
set_option maxHeartbeats 2000000
namespace Lr
open PySem PySem.Spec L2
open PyProof.Rows hiding St
def leI (a b : Int) : Bool := decide (a ≤ b)
def sortI (ns : List Int) : List Int := ns.mergeSort leI
theorem leI_trans (a b c : Int) (h : leI a b = true) (g : leI b c = true) : leI a c = true := by simp only [leI, decide_eq_true_eq] at *; omega
theorem leI_total (a b : Int) : (leI a b || leI b a) = true := by simp only [leI, Bool.or_eq_true, decide_eq_true_eq]; omega
theorem sortI_perm (ns : List Int) : (sortI ns).Perm ns := List.mergeSort_perm ns leI
theorem sortI_pw (ns : List Int) : (sortI ns).Pairwise (· ≤ ·) := (List.pairwise_mergeSort leI_trans leI_total ns).imp fun h => by simpa only [leI, decide_eq_true_eq] using h
theorem ints_mapA : ∀ {xs : List AV} {ns : List Int}, intsOf xs = some ns → xs = ns.map AV.int
  | [], ns, e => by cases e; rfl
  | x :: xs, ns, e => by
    cases x <;> simp only [intsOf] at e <;> first | (cases e; done) | skip
    cases h : intsOf xs with
    | none => rw [h] at e; cases e
    | some cs =>
      rw [h] at e
      cases e
      rw [List.map_cons, ints_mapA h]
section
variable {κ : Kap} {X : Cx} {k : Nat}
theorem vals_ints2 {K : PySem.W.Frag} {ι : List Addr} {H : Hp} : ∀ {ns : List Int} {vs : List V}, RelL K κ ι H (ns.map AV.int) vs → vs = ns.map V.int
  | [], _, r => by cases r; rfl
  | n :: ns, _, r => by
    cases r with
    | cons h r => cases h; rw [vals_ints2 r]; rfl
end
abbrev set0 (w : World) : Obj := { cls := .type "set", dict := none, data := .set #[] 0 (.fresh 0 0 (!w.params.followText "set-order")) }
section
variable {P : Program} {w : World} {A : Around} {E : Value → Shared → Prop} {s : Shared}
abbrev addS (s : Shared) (o : Obj) : Shared := { s with heap := s.heap.push o }
theorem set_of_list {l : Addr} {its : Array Value} (ns : List Int) {Q : Value → Shared → Prop} (hA : A.handled = none) (hL : s.heap.IsList l its) (hI : IntsAre its.toList ns) (hN : ns.length + 1 < scanBound)
    (hQ : ∀ (h' : Heap) (tk c : Nat), SetR w h' s.heap.objs.size (fun j => decide (j ∈ ns)) c → c ≤ ns.length → (∀ b o, s.heap.get? b = some o → h'.get? b = some o) → Q (.ref s.heap.objs.size) { s with heap := h', toks := tk }) :
    wpAny (model P w) A (call (.type "set") [.ref l]) Q E s := by
  have size_its : its.size = ns.length := by rw [← Array.length_toList]; exact hI.length
  obtain ⟨cM, restM, eMro⟩ := F.called_set.mro
  have eMade := F.called_set.made
  have eSub := F.called_set.sub
  have eNT := F.called_set.notType
  have eCC := F.called_set.canCreate
  have eTC := F.typeCall_set_1 (.ref l)
  refine wpAny_call (codeAny_of_tree (show wpAny _ _ (callAny (.type "set") _) _ _ _ from wpAny_pure ⟨Code.quiet_builtin _ (by decide +kernel), codeAny_builtin F.entry_type_call ?_⟩))
  rw [Around.under_plain (weight_type_call_type "set" [.ref l] []) rfl]
  repeat (any_goals (first | assumption | wp_step))
  refine codeAny_mono (code_set_led1 (.ref l) (E := E) (Q₁ := fun ob sh => ob = .ref s.heap.objs.size ∧ sh = addS s (set0 w)) ⟨rfl, rfl⟩) fun rr sh hr => ?_
  cases rr with
  | error _ => exact hr
  | ok fl =>
    cases fl with
    | next => exact hr.elim
    | brk => exact hr.elim
    | cont => exact hr.elim
    | ret ob =>
      obtain ⟨rfl, rfl⟩ := hr
      have gS : (addS s (set0 w)).heap.get? s.heap.objs.size = some (set0 w) := Heap.get?_push_size _ rfl
      have tS : (addS s (set0 w)).TypeIs (.ref s.heap.objs.size) "set" := ⟨_, gS, rfl⟩
      have eIL := F.called_set.init.lookup
      have eIB := F.called_set.init.bind (.ref s.heap.objs.size)
      repeat (any_goals (first | assumption | wp_step))
      refine codeAny_mono (codeAny_call_builtin (R := wants (fun q sh => q = .none ∧ ∃ h' tk c, sh = { s with heap := h', toks := tk } ∧ SetR w h' s.heap.objs.size (fun j => decide (j ∈ ns)) c ∧ c ≤ ns.length ∧ ∀ b o, s.heap.get? b = some o → h'.get? b = some o) E)
        F.called_set.init.plain F.entry_set_init (check_set_init_1 tS ?_)) fun r2 sh hr2 => ?_
      · obtain ⟨⟨_, dd, _, sl⟩, gL, cL, nL, dL⟩ := hL
        simp only at cL dL
        subst cL dL
        have gL2 : (addS s (set0 w)).heap.get? l = some { cls := .type "list", dict := dd, data := .seq its nL, slots := sl } := Heap.get?_push_of_some _ gL
        have eLS := F.sub_list_set
        have eLF := F.sub_list_frozenset
        have eND : (Value.type "list" == Value.type "dict") = false := by decide
        have hL2 : (addS s (set0 w)).heap.IsList l its := ⟨_, gL2, rfl, nL, rfl⟩
        unfold Builtin.«set.__init__» noKeywords Builtin.Frozenset.updateFrom
        generalize eP : pyIter = P'
        wp_walk
        subst eP
        refine wpAny_pyIter_list hL2 (wpAny_bind (wpAny_runValue ?_))
        have ltL : l < s.heap.objs.size := Heap.lt_size gL
        have szS : (addS s (set0 w)).heap.objs.size = s.heap.objs.size + 1 := Heap.size_push ..
        have neL : l ≠ (addS s (set0 w)).heap.objs.size := by rw [szS]; exact Nat.ne_of_lt (Nat.lt_succ_of_lt ltL)
        have outS : s.heap.objs.size ∉ [(addS s (set0 w)).heap.objs.size, l] := by
          rw [szS]
          simp only [List.mem_cons, List.not_mem_nil, or_false, not_or]
          exact ⟨Nat.ne_of_lt (Nat.lt_succ_self _), Nat.ne_of_gt ltL⟩
        have items : ∀ (i : Nat) (v : Value), its[i]? = some v → ∃ k t, ns[i]? = some k ∧ v = .int k t := fun i v hv => by
          have lt : i < ns.length := by rw [← size_its]; exact (Array.getElem?_eq_some_iff.mp hv).1
          obtain ⟨t, e⟩ := PyProof.Rows.IntsAre.int_at hI i v (by rw [Array.getElem?_toList]; exact hv)
          exact ⟨ns[i], t, List.getElem?_eq_getElem lt, by rw [e, List.getD_eq_getElem?_getD, List.getElem?_eq_getElem lt] <;> rfl⟩
        refine set_update_ints ((Walks.list (by simp [hA]) _ l neL its).toS) s.heap.objs.size outS ns size_its hN items (its.size - 0) 0 _ (by omega) (Nat.zero_le _) ⟨⟨_, Heap.get?_push_size _ rfl, rfl, rfl⟩, hL2.push _⟩ ?atStart ?atEnd
        case atStart => exact ⟨0, Nat.le_refl 0, setR_new_at (Heap.get?_push_of_some _ gS)⟩
        case atEnd =>
          rintro ⟨h', g', d', tk', os'⟩ c mv le sr
          have e1 : g' = s.gens := mv.gens
          have e2 : d' = s.drawn := mv.drawn
          have e3 : os' = s.os := mv.os
          subst e1 e2 e3
          refine wpAny_pure (show wpAny _ _ (ret Value.none) _ _ _ from wpAny_pure ⟨rfl, h', tk', c, rfl, sr, by rw [← size_its]; exact le, fun b o e => ?_⟩)
          have ltb : b < s.heap.objs.size := Heap.lt_size e
          refine mv.heap b o ?_ (Heap.get?_push_of_some _ (Heap.get?_push_of_some _ e))
          rw [szS]
          simp only [List.mem_cons, List.not_mem_nil, or_false, not_or]
          exact ⟨Nat.ne_of_lt ltb, Nat.ne_of_lt (Nat.lt_succ_of_lt ltb)⟩
      · cases r2 with
        | error _ => exact hr2
        | ok fl =>
          cases fl with
          | next => exact hr2.elim
          | brk => exact hr2.elim
          | cont => exact hr2.elim
          | ret q =>
            obtain ⟨rfl, h', tk, c, rfl, sr, le, keep⟩ := hr2
            repeat (any_goals (first | assumption | wp_step))
            exact hQ _ _ _ sr le keep
end
def dedI : List Int → List Int
  | [] => []
  | x :: r => if x ∈ dedI r then dedI r else x :: dedI r
theorem mem_dedI {k : Int} : ∀ {ns : List Int}, k ∈ dedI ns ↔ k ∈ ns
  | [] => Iff.rfl
  | x :: r => by
    unfold dedI
    split
    · rename_i h
      rw [mem_dedI, List.mem_cons]
      exact ⟨.inr, fun z => z.elim (fun e => by rw [e]; exact mem_dedI.mp h) id⟩
    · rw [List.mem_cons, List.mem_cons, mem_dedI]
theorem nodup_dedI : ∀ ns : List Int, (dedI ns).Nodup
  | [] => .nil
  | x :: r => by
    unfold dedI
    split
    · exact nodup_dedI r
    · rename_i h
      exact List.nodup_cons.mpr ⟨h, nodup_dedI r⟩
def sortD (ns : List Int) : List Int := sortI (dedI ns)
theorem mem_sortD {ns : List Int} {k : Int} : k ∈ sortD ns ↔ k ∈ ns := by
  unfold sortD
  rw [(sortI_perm _).mem_iff, mem_dedI]
theorem pw_lt {l : List Int} (h : l.Pairwise (· ≤ ·)) (d : l.Nodup) : l.Pairwise (· < ·) := (h.and d).imp fun ⟨a, b⟩ => by omega
theorem sortD_pw (ns : List Int) : (sortD ns).Pairwise (· < ·) := pw_lt (sortI_pw _) ((sortI_perm _).nodup_iff.mpr (nodup_dedI ns))
theorem lt_ext {a b : List Int} (ha : a.Pairwise (· < ·)) (hb : b.Pairwise (· < ·)) (h : ∀ k, k ∈ a ↔ k ∈ b) : a = b := by
  have na : a.Nodup := ha.imp fun h => by omega
  have nb : b.Nodup := hb.imp fun h => by omega
  have p : a.Perm b := (List.perm_ext_iff_of_nodup na nb).mpr h
  exact List.Perm.eq_of_pairwise (le := (· ≤ ·)) (fun _ _ _ _ h g => by omega) (ha.imp fun h => by omega) (hb.imp fun h => by omega) p
theorem sortD_eq {ns ys : List Int} (h : ys.Pairwise (· < ·)) (m : ∀ k, k ∈ ys ↔ k ∈ ns) : ys = sortD ns := lt_ext h (sortD_pw ns) fun k => by rw [m, mem_sortD]
section
variable {X : Cx} {κ : Kap}
def rSetL (K : PySem.W.Frag) (w : World) : List V → Hp → VK → Prop := fun xs H Q => ∃ (l : Addr) (ns : List Int), xs = [.ref l] ∧ SqL K H l (ns.map V.int) ∧ ns.length + 1 < scanBound ∧ ∀ a c, H a = none → c ≤ ns.length → (∀ zs : List Int, zs.Pairwise (· < ·) → (∀ k, k ∈ zs ↔ k ∈ ns) → c = zs.length) → Q (.ref a) (L2.upd H a (SetO w a (fun j => decide (j ∈ ns)) c))
theorem setR_count {w : World} {h : Heap} {a : Addr} {ns : List Int} {c : Nat} (R : SetR w h a (fun j => decide (j ∈ ns)) c) {zs : List Int} (hz : zs.Pairwise (· < ·)) (m : ∀ k, k ∈ zs ↔ k ∈ ns) : c = zs.length := by
  obtain ⟨o, es, ep, t, h1, h2, h3, h4, h5, h6, h7, h8, h9, h10, h11⟩ := R
  have nz : zs.Nodup := hz.imp fun h => by omega
  have p : (es.toList.map L2.keyOf).Perm zs := (List.perm_ext_iff_of_nodup h5 nz).mpr fun k => by rw [← h6, decide_eq_true_iff, m]
  have := p.length_eq
  rw [List.length_map, Array.length_toList] at this
  omega
theorem cr_setL (hc : X.calm = true) : CallR X (.type "set") (rSetL X.K X.w) := by
  intro pins s σ H xs us Q I r h
  obtain ⟨l, ns, rfl, hq, hn, q⟩ := h
  obtain ⟨its, rv, hl, hz⟩ := I.list hq
  rw [Vals.ref1 r]
  refine set_of_list ns (I.ok.hd hc) hl.isList (by simpa using rv.ints) hn fun h' tk c R le keep => ?_
  refine ⟨.ref _, L2.upd H s.heap.objs.size (SetO X.w s.heap.objs.size (fun j => decide (j ∈ ns)) c), I.laid (t' := tk) keep (Nat.le_refl _) (setO_new R), rfl, q _ c (I.hok.fresh (Nat.le_refl _)) le fun zs h1 h2 => setR_count R h1 h2⟩
def aSortSet (re : AE) : AA := fun ρ μ => (re ρ μ).bind fun v μ1 => match lsOf μ1 v with
  | some xs => match intsOf xs with
    | some ns => if ns.length ≤ 4000 ∧ (sortD ns).length < 64 then .ok ((sortD ns).map AV.int) μ1 else .bad
    | none => .bad
  | none => .bad
theorem DN.sortSet {k : Nat} {e : Expr} {re : AE} {p p2 pos q : Pos} (cl : Cl X k) (hg : Gl X "sorted") (hm : X.mg "sorted" = none) (hg2 : Gl X "set") (hm2 : X.mg "set" = none) (he : DE κ X e re)
    (h1 : starEach [.Call (.Name "set" p2) [e] [] q] X.env = (false, eval (.Call (.Name "set" p2) [e] [] q) X.env) :: starEach [] X.env := by rfl) (h2 : starEach [e] X.env = (false, eval e X.env) :: starEach [] X.env := by rfl) :
    DN κ X (.Call (.Name "sorted" p) [.Call (.Name "set" p2) [e] [] q] [] pos) (aSortSet re) := DN.mk cl fun W tk => by
  obtain ⟨t, pt, i⟩ := he W tk
  refine ⟨_, pe_callB (cr_sortedSet cl.calm) hg hm (by decide +kernel) (pa_cons (pe_callTy (cr_setL cl.calm) hg2 hm2 (by decide +kernel) (pa_cons pt pa_nil h2) (by decide) (by decide) h2) pa_nil h1) (by decide) (by decide) h1, fun σ H Q ι ρ μ sr rl h => ?_⟩
  refine i σ H _ ι ρ μ sr rl (PG.bind0 h fun v μ1 ι1 H1 p1 m1 sr1 hh x rx => ?_)
  cases e1 : lsOf μ1 v with
  | none => rw [e1] at hh; exact False.elim hh
  | some xs =>
    rw [e1] at hh
    dsimp only at hh
    cases e2 : intsOf xs with
    | none => rw [e2] at hh; exact False.elim hh
    | some ns =>
      rw [e2] at hh
      dsimp only at hh
      split at hh
      · rename_i hz
        obtain ⟨a, vs, rfl, hq, rv⟩ := ls_rel sr1 rx e1
        have e3 := ints_mapA e2
        subst e3
        have e4 := vals_ints2 rv
        subst e4
        refine ⟨a, ns, rfl, hq, by unfold scanBound; omega, fun b c hb le hc => ?_⟩
        have ec := hc (sortD ns) (sortD_pw ns) fun k => mem_sortD
        refine ⟨b, _, c, rfl, upd_same, by omega, fun ys q' h3 h4 h5 h6 => ?_⟩
        rw [sortD_eq (ns := ns) h3 fun k => by rw [h4]; simp]
        have m2 : HM ι1 H1 ι1 (L2.upd H1 b (SetO X.w b (fun j => decide (j ∈ ns)) c)) := HM.fresh hb
        exact okNew sr (sr1.new hb) (m1.trans m2) hh (RelL.ints _) h6
      · exact False.elim hh
end
end Lr
set_option maxHeartbeats 1000000
namespace Lr
open PySem PySem.Spec L2
open PyProof.Rows hiding St
end Lr
set_option maxHeartbeats 1000000
namespace Lr
open PySem PySem.Spec L2
open PyProof.Rows hiding St
end Lr
set_option maxHeartbeats 1000000
namespace Lr
open PySem PySem.Spec L2
open PyProof.Rows hiding St
variable {κ : Kap} {X : Cx} {k : Nat}
theorem RelK.at {K : PySem.W.Frag} {ι : List Addr} {H : Hp} : ∀ {kvs : List (Key × AV)} {vs : List (Key × V)} (i : Nat), RelK K κ ι H kvs vs → (kvs[i]?).map (·.1) = (vs[i]?).map (·.1)
  | _, _, _, .nil => rfl
  | _, _, 0, .cons h r => by simpa using h.1
  | _, _, i + 1, .cons h r => by simpa using RelK.at i r
end Lr
set_option maxHeartbeats 1000000
namespace Lr
open PySem PySem.Spec L2
open PyProof.Rows hiding St
variable {κ : Kap} {X : Cx} {k : Nat}
theorem RelK.get' {K : PySem.W.Frag} {ι : List Addr} {H : Hp} : ∀ {kvs : List (Key × AV)} {vs : List (Key × V)} {i : Nat} {p : Key × AV}, RelK K κ ι H kvs vs → kvs[i]? = some p → ∃ v, vs[i]? = some (p.1, v) ∧ Rel K κ ι H p.2 v
  | _, _, _, _, .nil, e => by simp at e
  | _, _, 0, _, .cons (b := q) h r, e => by simp at e; subst e; exact ⟨q.2, by rw [h.1]; rfl, h.2⟩
  | _, _, i + 1, _, .cons h r, e => by
    obtain ⟨v, e1, r1⟩ := RelK.get' (i := i) r (by simpa using e)
    exact ⟨v, by simpa using e1, r1⟩
theorem draws_tuple {prog : Program} {w : World} {A : Around} (hh : A.handled = none) (it l : Addr) (hne : l ≠ it) (items : Array Value) :
    Draws prog w A it [it, l] items.size (fun i v => items[i]? = some v) (fun i h => h.IsTupleIter it l i ∧ h.IsTuple l items) where
  live := fun _ _ st => let ⟨o, ho, _⟩ := st.1; ⟨o, ho⟩
  frame := fun _ _ _ st hk => ⟨st.1.at fun o e => hk it (by simp) o e, let ⟨o, ho, r⟩ := st.2; ⟨o, hk l (by simp) o ho, r⟩⟩
  item := fun i s Q E hi st hQ => by
    refine RZ.nextOf_tuple_item st.1 st.2 (x := items[i]) (by simp [hi]) fun h' hit' hs' => ?_
    exact hQ _ h' s.toks (by simp [hi]) ⟨hit', st.2.extBut hs'.extBut hne⟩ hs'
  done := fun s Q E st hE => RZ.nextOf_tuple_end hh st.1 st.2 (by simp) hE
def IteT (K : PySem.W.Frag) (a : Addr) : It :=
  ⟨fun i H => ∃ (xs : List V) (x : V), SqT K H a xs ∧ xs[i]? = some x, fun i H v H' => ∃ T x, v = .ref T ∧ H T = none ∧ H' = upd H T (.tup [.int (i : Nat), x]) ∧ ∀ xs, SqT K H a xs → xs[i]? = some x, fun i H => ∃ xs : List V, SqT K H a xs ∧ xs.length ≤ i⟩
set_option maxHeartbeats 4000000 in
theorem turn_enumT {P : Program} {w : World} {K : PySem.W.Frag} {elts : List Expr} {kk : Nat} {tpos : Pos} (a e it : Addr) (hai : a ≠ it) (hae : a ≠ e) :
    Turn P w K (.Tuple elts kk tpos) (IteT K a) [e, it] e (fun i h => (∃ old, IsEnum h e it ((i : Nat) : Int) old) ∧ h.IsTupleIter it a i ∧ e ≠ it) where
  mem := by simp
  obj := fun i h st b hb => by
    obtain ⟨⟨old, he⟩, ⟨o, ho, hc, hd⟩, _⟩ := st
    have e' : b = e ∨ b = it := by simpa using hb
    rcases e' with z | z
    · rw [z]; exact ⟨_, he, fun v q => nomatch q⟩
    · rw [z]; exact ⟨o, ho, fun v q => by rw [hd] at q; cases q⟩
  keep := fun i h h' st k => let ⟨⟨old, he⟩, hi, hne⟩ := st; ⟨⟨old, k e (by simp) _ he⟩, hi.at fun o q => k it (by simp) o q, hne⟩
  item := by
    intro X hP hw hK hc i pins s σ H E I hf st hg
    subst hP hw hK
    obtain ⟨⟨old, he⟩, hit, hne⟩ := st
    obtain ⟨xs, x, hq, hx⟩ := hg
    obtain ⟨its, rv, p, hz⟩ := I.tuple hq
    obtain ⟨u, hu, ru⟩ := rv.get hx
    have hel : e < s.heap.objs.size := Heap.lt_size he
    have hil : it < s.heap.objs.size := by obtain ⟨_, q, _⟩ := hit; exact Heap.lt_size q
    have hlt : i < its.toArray.size := by
      have := (List.getElem?_eq_some_iff.mp hu).1
      simpa using this
    have hin : X.A.in1.handled = none := I.ok.hd hc
    refine wpAny_pyNext_enum_itemD (draws_tuple hin it a hai its.toArray) he ⟨hit, p⟩ hlt hne (by simp only [List.mem_cons, List.not_mem_nil, or_false, not_or]; exact ⟨hne, Ne.symm hae⟩) fun x' h' tk hP ho hst' hT hsz hk => ?_
    have hxu : x' = u := by
      have h1 : its.toArray[i]? = some u := by simpa using hu
      rw [h1] at hP
      exact (Option.some.inj hP).symm
    subst hxu
    refine ⟨_, rfl, wpAny_letOwnedTupleGo_enum (s := { s with heap := h', toks := tk + 1 }) ho fun h'' he' sb => ?_⟩
    have hT2 : h''.get? s.heap.objs.size = some { cls := .type "tuple", data := .seq #[.int i tk, x'] } := (sb.2 _ (Nat.ne_of_gt hel)).trans hT
    have new : ObjOk X.prog X.w (upd H s.heap.objs.size (.tup [.int (i : Nat), x])) h'' s.heap.objs.size (.tup [.int (i : Nat), x]) :=
      ⟨by show 2 ≤ sizeLine; decide, [.int i tk, x'], .cons ⟨_, rfl⟩ (.cons ru .nil), ⟨_, hT2, rfl, _, rfl⟩⟩
    have I1 : Inv X pins σ (upd H s.heap.objs.size (.tup [.int (i : Nat), x])) { s with heap := h'', toks := tk + 1 } :=
      I.turnedNew (ch := [e, it]) (fun b ob hb q => (sb.2 b (fun z => hb (by simp [z]))).trans (hk b ob (fun z => hb (by simp [z])) (fun z => hb (by simp [z])) q)) hf (Nat.le_refl _) new
    refine ⟨.ref s.heap.objs.size, _, I1, rfl, ⟨_, x, rfl, I.hok.fresh (Nat.le_refl _), rfl, fun ys hy => by rw [I.tuple_inj hy hq]; exact hx⟩, ⟨⟨x', ?_⟩, hst'.1.at fun o q => (sb.2 it (Ne.symm hne)).trans q, hne⟩, fun b hb => ?_⟩
    · have e1 : ((i + 1 : Nat) : Int) = (i : Int) + 1 := by omega
      rw [e1]; exact he'
    · have hb' : b < s.heap.objs.size := by
        have e' : b = e ∨ b = it := by simpa using hb
        rcases e' with z | z
        · rw [z]; exact hel
        · rw [z]; exact hil
      rw [upd_ne (Nat.ne_of_lt hb')]
      exact (hf b hb).1
  done := by
    intro X hP hw hK hc i pins s σ H E I hf st hg
    subst hP hw hK
    obtain ⟨⟨old, he⟩, hit, hne⟩ := st
    obtain ⟨xs, hq, hx⟩ := hg
    obtain ⟨its, rv, p, hz⟩ := I.tuple hq
    obtain ⟨f0, f1, f2, f3, f4, f5⟩ := hf it (by simp)
    have hl := rv.length
    have hin : X.A.in1.handled = none := I.ok.hd hc
    have hT : s.TypeIs (.ref e) "enumerate" := ⟨_, he, rfl⟩
    unfold pyNext
    refine wpAny_bind (wpAny_attempt (wpAny_callSpecial?_slot (name := Str.ofString "__next__") hT F.slot_enumerate_next
      (wpAny_call_entry F.slot_enumerate_next hT F.entry_enumerate_next ?_ (F.args_enumerate_next_1 _))))
    show wpAny _ _ (field (.ref e) 2 >>= _) _ _ _
    refine wpAny_bind (wpAny_field he rfl (x := .ref it) rfl ?_)
    refine wpAny_bind (RZ.nextOf_tuple_end hin hit p (by simp; omega) fun h' x eb hx' => ?_)
    obtain ⟨o, ho, hc'⟩ := hx'
    refine wpAny_bind (wpAny_isInstance (T := "StopIteration") (b := true) ⟨o, ho, hc'⟩ isSubtype_stop ?_)
    exact wpAny_pure ⟨rfl, I.turned (t' := s.toks) (fun b o hb q => eb b o hb q) f0 f1 f3 f4 f5⟩
  self := fun A i s Q E st h => let ⟨⟨_, he⟩, _⟩ := st; wpAny_pyIter_enum he h
set_option maxHeartbeats 2000000 in
theorem meets_enumerate_newT (l : Addr) (items : Array Value) :
    Meets (Builtin.«enumerate.__new__» ⟨[.type "enumerate", .ref l], []⟩) (fun _ R s => s.heap.IsTuple l items ∧
      R (.ok (.ret (.ref (s.heap.push { cls := .type "tuple_iterator", data := .fields #[.ref l, .int 0 0] }).objs.size)))
        { s with heap := (s.heap.push { cls := .type "tuple_iterator", data := .fields #[.ref l, .int 0 0] }).push { cls := .type "enumerate", data := .fields #[.none, .bool false, .ref s.heap.objs.size, rawInt 0, .none, .none] } }) :=
  .of_wp fun prog w A R s h => by
    obtain ⟨hp, g, d, tk, os⟩ := s; obtain ⟨h1, h⟩ := h
    have hsub := sub_enumerate
    have hL : Heap.IsTuple (Shared.heap ⟨hp, g, d, tk, os⟩) l items := h1
    have q1 : ∀ {A' : Around} {E : Value → Shared → Prop} {Q : Value → Shared → Prop}, Q (.ref hp.objs.size) ⟨hp.push { cls := .type "tuple_iterator", data := .fields #[.ref l, .int 0 0] }, g, d, tk, os⟩ → wpAny (model prog w) A' (pyIter (.ref l)) Q E ⟨hp, g, d, tk, os⟩ :=
      fun q => wpAny_pyIter_tuple hL q
    wp_walk using q1
    refine wpAny_stack_any fun st => wpAny_pure ?_
    split
    · rename_i c _ _ _ _ _
      cases (c == Value.type "enumerate")
      · wp_walk using q1
        exact ⟨_, rfl, h⟩
      · wp_walk using q1
        exact ⟨_, rfl, h⟩
    · wp_walk using q1
      exact ⟨_, rfl, h⟩
theorem call_enumerate_tup {prog : Program} {w : World} {A : Around} {E : Value → Shared → Prop} {s : Shared} {l : Addr} {items : Array Value} {Q : Value → Shared → Prop} (hL : s.heap.IsTuple l items)
    (h : ∀ h', IsEnum h' (s.heap.objs.size + 1) s.heap.objs.size 0 .none → h'.IsTupleIter s.heap.objs.size l 0 → h'.objs.size = s.heap.objs.size + 2 →
      (∀ b o, s.heap.get? b = some o → h'.get? b = some o) → Q (.ref (s.heap.objs.size + 1)) { s with heap := h' }) :
    wpAny (model prog w) A (call (.type "enumerate") [.ref l]) Q E s := by
  refine callType_new F.called_enumerate (by decide) (F.typeCall_enumerate_1 _) (F.newCall_enumerate_1 _) (fun obj => F.args_object_init_2 obj _) F.entry_enumerate_new
    (meets_enumerate_newT l items) ⟨hL, ?_⟩
  have hz : (s.heap.push { cls := .type "tuple_iterator", data := .fields #[.ref l, .int 0 0] }).objs.size = s.heap.objs.size + 1 := Heap.size_push ..
  show _ ∧ _
  rw [hz]
  have he : IsEnum ((s.heap.push { cls := .type "tuple_iterator", data := .fields #[.ref l, .int 0 0] }).push
      { cls := .type "enumerate", data := .fields #[.none, .bool false, .ref s.heap.objs.size, rawInt 0, .none, .none] }) (s.heap.objs.size + 1) s.heap.objs.size 0 .none := by
    have := Heap.get?_push_size (s.heap.push { cls := .type "tuple_iterator", data := .fields #[.ref l, .int 0 0] })
      (o := { cls := .type "enumerate", data := .fields #[.none, .bool false, .ref s.heap.objs.size, rawInt 0, .none, .none] }) rfl
    rw [hz] at this; exact this
  refine ⟨⟨_, he, rfl⟩, h _ he ⟨_, Heap.get?_push_of_some _ (Heap.get?_push_size _ rfl), rfl, rfl⟩ (by rw [Heap.size_push, hz]) fun b o x => Heap.get?_push_of_some _ (Heap.get?_push_of_some _ x)⟩
def iEnumT (K : PySem.W.Frag) (ta : TA) : TI := fun σ H R => ta σ H fun vs H1 => ∃ a xs, vs = [.ref a] ∧ ((SqL K H1 a xs ∧ R (Ite K a) H1) ∨ (SqT K H1 a xs ∧ R (IteT K a) H1))
theorem pi_enumT {e : Expr} {ta : TA} {p pos tpos : Pos} {elts : List Expr} {kk : Nat} (hg : Gl X "enumerate") (hm : X.mg "enumerate" = none) (ha : PA X [e] ta) (hs : starEach [e] X.env = [(false, eval e X.env)] := by rfl) :
    PI X (.Tuple elts kk tpos) (.Call (.Name "enumerate" p) [e] [] pos) (iEnumT X.K ta) := by
  refine ⟨fun pins s σ H R I h => ?_⟩
  refine Call_ (ld_blt I hg hm boot_enumerate (PyProof.Rows.callWith_type1 (thn (ha.run pos pins s σ H _ I h) fun us s1 ⟨vs, H1, I1, r1, q1⟩ => ?_) hs rfl))
  obtain ⟨a, xs, ex, q1⟩ := q1
  subst ex
  cases r1 with
  | cons r rr =>
    cases rr
    cases r
    have fresh2 : ∀ b ∈ [s1.heap.objs.size + 1, s1.heap.objs.size], FpOk X pins H1 b := fun b hb => by
      have e' : b = s1.heap.objs.size + 1 ∨ b = s1.heap.objs.size := by simpa using hb
      have hle : s1.heap.objs.size ≤ b := by
        rcases e' with z | z
        · rw [z]; exact Nat.le_add_right _ _
        · rw [z]; exact Nat.le_refl _
      exact I1.fpOk hle (I1.hok.fresh hle)
    rcases q1 with ⟨hq, q⟩ | ⟨hq, q⟩
    · obtain ⟨its, rv, p', hz⟩ := I1.list hq
      refine call_enumerate_list p'.isList fun h' he hit hsz hk => wpAny_pyIter_enum he ?_
      have I2 : Inv X pins σ H1 { s1 with heap := h' } := I1.kept (t' := s1.toks) hk
      exact ⟨s1.heap.objs.size + 1, [s1.heap.objs.size + 1, s1.heap.objs.size], _, _, H1, rfl, I2, turn_enum a (s1.heap.objs.size + 1) s1.heap.objs.size, ⟨⟨.none, he⟩, hit, Nat.succ_ne_self _⟩, fresh2, q⟩
    · obtain ⟨its, rv, p', hz⟩ := I1.tuple hq
      obtain ⟨o1, ho1, _⟩ := id p'
      have hlt := Heap.lt_size ho1
      refine call_enumerate_tup (show s1.heap.IsTuple a its.toArray from p') fun h' he hit hsz hk => wpAny_pyIter_enum he ?_
      have I2 : Inv X pins σ H1 { s1 with heap := h' } := I1.kept (t' := s1.toks) hk
      exact ⟨s1.heap.objs.size + 1, [s1.heap.objs.size + 1, s1.heap.objs.size], _, _, H1, rfl, I2, turn_enumT a (s1.heap.objs.size + 1) s1.heap.objs.size (Nat.ne_of_lt hlt) (Nat.ne_of_lt (Nat.lt_succ_of_lt hlt)), ⟨⟨.none, he⟩, hit, Nat.succ_ne_self _⟩, fresh2, q⟩
theorem JR.enumT {K : PySem.W.Frag} {ι : List Addr} {H : Hp} {xs : List AV} {vs : List V} {p : Addr} (hq : SqT K H p vs) (rl : RelL K κ ι H xs vs) : JR K κ ι H (.dat (enumA xs)) (IteT K p) := fun i ι' H' μ hm sr => by
  simp only [Src.at, enumA_get]
  cases e : xs[i]? with
  | none => exact ⟨vs, hm.w.seqT hq, by rw [← rl.length]; exact List.getElem?_eq_none_iff.mp e⟩
  | some v =>
    obtain ⟨x, ex, rx⟩ := rl.get e
    refine ⟨⟨vs, x, hm.w.seqT hq, ex⟩, fun y H2 hy => ?_⟩
    obtain ⟨T, x', rfl, hT, rfl, h⟩ := hy
    have z := h vs (hm.w.seqT hq)
    rw [ex] at z
    cases z
    have m2 : HM ι' H' ι' (upd H' T (.tup [.int (i : Nat), x])) := HM.fresh hT
    exact ⟨m2, sr.new hT, .tup (.inl (.inl upd_same)) (.cons (.int _) (.cons (rx.monoW hm.pre (hm.w.trans m2.w)) .nil))⟩
def iEnumU (r : AA) : AI := fun ρ μ => (r ρ μ).bind fun xs μ1 => match xs with
  | [.lst xs] => .ok (.dat (enumA xs)) μ1
  | [.tup xs] => .ok (.dat (enumA xs)) μ1
  | _ => .bad
theorem DI.enumU {a : Expr} {rs : AA} {pos : Pos} {elts : List Expr} {kk : Nat} {tpos p : Pos} (hg : Gl X "enumerate") (hm : X.mg "enumerate" = none) (ha : DA κ X [a] rs) (hs : starEach [a] X.env = [(false, eval a X.env)] := by rfl) : DI κ X (.Tuple elts kk tpos) (.Call (.Name "enumerate" p) [a] [] pos) (iEnumU rs) := fun W tk => by
  obtain ⟨t, p, i⟩ := ha W tk
  refine ⟨_, pi_enumT hg hm p hs, fun σ H R ι ρ μ sr rl h => ?_⟩
  refine i σ H _ ι ρ μ sr rl (PG.bind0 h fun xs μ1 ι1 H1 p1 m1 sr1 h1 vs rv => ?_)
  split at h1 <;> first | exact False.elim h1 | skip
  · rename_i ys
    cases rv with
    | cons ry rn =>
      cases rn
      cases ry with
      | lst hq rl => exact ⟨_, _, rfl, .inl ⟨hq.sq, h1 ι1 H1 p1 m1 sr1 _ (JR.enum hq rl)⟩⟩
  · rename_i ys
    cases rv with
    | cons ry rn =>
      cases rn
      cases ry with
      | tup hq rl => exact ⟨_, _, rfl, .inr ⟨hq, h1 ι1 H1 p1 m1 sr1 _ (JR.enumT hq rl)⟩⟩
def zipA (xs ys : List AV) : List AV := (xs.zip ys).map fun p => .tup [p.1, p.2]
theorem JR.zip {K : PySem.W.Frag} {ι : List Addr} {H : Hp} {xs ys : List AV} {vs us : List V} {p q : Addr} (hp : SqL K H p vs) (hq : SqL K H q us) (hv : ∀ ι' H', HV ι H ι' H' → SqL K H' p vs ∧ SqL K H' q us) (rl : RelL K κ ι H xs vs) (rl2 : RelL K κ ι H ys us) : JR K κ ι H (.dat (zipA xs ys)) (Itz K p q) := fun i ι' H' μ hm sr => by
  obtain ⟨hp', hq'⟩ := hv ι' H' hm
  unfold zipA
  simp only [Src.at, List.getElem?_map]
  cases e : (xs.zip ys)[i]? with
  | none =>
    refine ⟨vs, us, hp', hq', ?_⟩
    have := List.getElem?_eq_none_iff.mp e
    rw [List.length_zip, rl.length, rl2.length] at this
    omega
  | some v =>
    obtain ⟨e1, e2⟩ := List.getElem?_zip_eq_some.mp e
    obtain ⟨x, ex, rx⟩ := rl.get e1
    obtain ⟨y, ey, ry⟩ := rl2.get e2
    refine ⟨⟨vs, us, x, y, hp', hq', ex, ey⟩, fun z H2 hy => ?_⟩
    obtain ⟨T, x', y', rfl, hT, rfl, h1, h2⟩ := hy
    have z1 := h1 vs hp'
    rw [ex] at z1
    cases z1
    have z2 := h2 us hq'
    rw [ey] at z2
    cases z2
    have m2 : HM ι' H' ι' (upd H' T (.tup [x, y])) := HM.fresh hT
    exact ⟨m2, sr.new hT, .tup (.inl (.inl upd_same)) (.cons (rx.monoW hm.pre (hm.w.trans m2.w)) (.cons (ry.monoW hm.pre (hm.w.trans m2.w)) .nil))⟩
def dropA (kvs : List (Key × AV)) (k : Key) : List (Key × AV) := kvs.filter fun kv => decide (kv.1 ≠ k)
theorem RelK.drop {K : PySem.W.Frag} {ι : List Addr} {H : Hp} (k : Key) : ∀ {kvs : List (Key × AV)} {vs : List (Key × V)}, RelK K κ ι H kvs vs → RelK K κ ι H (dropA kvs k) (dropK vs k)
  | _, _, .nil => .nil
  | _, _, .cons (a := p) (b := q) h r => by
    unfold dropA dropK
    by_cases e : p.1 = k
    · rw [List.filter_cons_of_neg (by simpa using e), List.filter_cons_of_neg (by rw [← h.1]; simpa using e)]
      exact RelK.drop k r
    · rw [List.filter_cons_of_pos (by simpa using e), List.filter_cons_of_pos (by rw [← h.1]; simpa using e)]
      exact .cons h (RelK.drop k r)
end Lr
set_option maxHeartbeats 1000000
namespace Lr
open PySem PySem.Spec L2
open PyProof.Rows hiding St
end Lr
set_option maxHeartbeats 1000000
namespace Lr
open PySem PySem.Spec L2
open PyProof.Rows hiding St
variable {κ : Kap} {X : Cx} {k : Nat}
def jstrs : List AV → Option (List Str)
  | [] => some []
  | .str z :: r => (jstrs r).map (z :: ·)
  | _ :: _ => none
theorem jstrs_rel {K : PySem.W.Frag} {ι : List Addr} {H : Hp} : ∀ {xs : List AV} {vs : List V} {zs : List Str}, RelL K κ ι H xs vs → jstrs xs = some zs → vs = zs.map V.str
  | _, _, _, .nil, e => by cases e; rfl
  | _, _, _, .cons (x := x) (xs := xs) h r, e => by
    cases x <;> first | (cases e; done) | skip
    simp only [jstrs] at e
    cases q : jstrs xs with
    | none => rw [q] at e; cases e
    | some ys =>
      rw [q] at e
      cases e
      cases h
      rw [jstrs_rel r q]
      rfl
def jseq : AV → Option (List AV)
  | .lst ys => some ys
  | .tup ys => some ys
  | _ => none
def eJoin (o a : AE) : AE := fun ρ μ => (o ρ μ).bind fun s μ1 => match s with
  | .str z => (a ρ μ1).bind fun x μ2 => match (jseq x).bind jstrs with
    | some zs => if (zs.map (·.length)).sum + zs.length * z.length ≤ 16777216 then .ok (.str (Txt.join z zs)) μ2 else .bad
    | none => .bad
  | _ => .bad
theorem jseq_rel {K : PySem.W.Frag} {ι : List Addr} {H : Hp} {x : AV} {v : V} {xs : List AV} (r : Rel K κ ι H x v) (e : jseq x = some xs) : ∃ p vs, v = .ref p ∧ (SqL K H p vs ∨ SqT K H p vs) ∧ RelL K κ ι H xs vs := by
  cases x <;> first | (cases e; done) | skip
  · cases e
    cases r with
    | tup h r => exact ⟨_, _, rfl, .inr h, r⟩
  · cases e
    cases r with
    | lst h r => exact ⟨_, _, rfl, .inl h.sq, r⟩
theorem DE.join {o a : Expr} {ra rb : AE} {apos cpos : Pos} (ho : DE κ X o ra) (ha : DE κ X a rb) (hs : starEach [a] X.env = [(false, eval a X.env)] := by rfl) (hbase : attributeBase o "join" X.env (eval o X.env) = eval o X.env := by rfl) (hline : (apos.endLine == cpos.line) = true := by rfl) :
    DE κ X (.Call (.Attribute o "join" apos) [a] [] cpos) (eJoin ra rb) := fun W tk => by
  obtain ⟨t1, p1, i1⟩ := ho W tk
  obtain ⟨t2, p2, i2⟩ := ha W tk
  refine ⟨_, pe_join p1 p2 hs hbase hline, fun σ H Q ι ρ μ sr rl h => ?_⟩
  refine i1 σ H _ ι ρ μ sr rl (PG.bind h fun l μ1 ι1 H1 q1 m1 sr1 h1 lv rlv => ?_)
  cases l <;> first | exact False.elim h1 | skip
  rename_i z
  cases rlv
  refine ⟨⟨z, rfl⟩, ?_⟩
  refine i2 σ H1 _ ι1 ρ μ1 sr1 (rl.mono q1 m1) (PG.bind h1 fun x μ2 ι2 H2 q2 m2 sr2 h2 v rv => ?_)
  cases e : (jseq x).bind jstrs with
  | none => simp only [e] at h2; exact False.elim h2
  | some zs =>
    simp only [e] at h2
    obtain ⟨xs, e1, e2⟩ := Option.bind_eq_some_iff.mp e
    obtain ⟨p, vs, rfl, hq, r⟩ := jseq_rel rv e1
    by_cases hz : (zs.map (·.length)).sum + zs.length * z.length ≤ 16777216
    · rw [if_pos hz] at h2
      refine ⟨z, p, zs, rfl, rfl, ?_, hz, ok1 sr2 h2 (.str _)⟩
      rw [← jstrs_rel r e2]
      exact hq
    · rw [if_neg hz] at h2
      exact False.elim h2
def aSplit (o a : AE) : AA := fun ρ μ => (o ρ μ).bind fun s μ1 => match s with
  | .str z => (a ρ μ1).bind fun x μ2 => match x with
    | .str y => if (y.length == 0) = false ∧ z.length + 2 ≤ 16777216 then .ok ((Txt.split z y).map AV.str) μ2 else .bad
    | _ => .bad
  | _ => .bad
theorem DN.split {o a : Expr} {ra rb : AE} {apos cpos : Pos} (cl : Cl X k) (ho : DE κ X o ra) (ha : DE κ X a rb) (hs : starEach [a] X.env = [(false, eval a X.env)] := by rfl) (hbase : attributeBase o "split" X.env (eval o X.env) = eval o X.env := by rfl) (hline : (apos.endLine == cpos.line) = true := by rfl) :
    DN κ X (.Call (.Attribute o "split" apos) [a] [] cpos) (aSplit ra rb) := DN.mk cl fun W tk => by
  obtain ⟨t1, p1, i1⟩ := ho W tk
  obtain ⟨t2, p2, i2⟩ := ha W tk
  refine ⟨_, pe_split p1 p2 hs hbase hline, fun σ H Q ι ρ μ sr rl h => ?_⟩
  refine i1 σ H _ ι ρ μ sr rl (PG.bind0 h fun l μ1 ι1 H1 q1 m1 sr1 h1 lv rlv => ?_)
  cases l <;> first | exact False.elim h1 | skip
  rename_i z
  cases rlv
  refine ⟨⟨z, rfl⟩, ?_⟩
  refine i2 σ H1 _ ι1 ρ μ1 sr1 (rl.mono q1 m1) (PG.bindF m1 h1 fun x μ2 ι2 H2 q2 m2 sr2 h2 v rv => ?_)
  cases x <;> first | exact False.elim h2 | skip
  rename_i y
  cases rv
  by_cases hz : (y.length == 0) = false ∧ z.length + 2 ≤ 16777216
  · simp only [if_pos hz] at h2
    refine ⟨z, y, rfl, rfl, hz.1, by rw [line16]; exact hz.2, fun p hn => okNew sr sr2 (m1.trans m2) h2 ?_ hn⟩
    exact RelL.maps (fun i => .str _) _
  · simp only [if_neg hz] at h2
    exact False.elim h2
end Lr
set_option maxHeartbeats 2000000
namespace Lr
open PySem PySem.Spec L2
open PyProof.Rows hiding St
def setL (ns : List Str) : List Str := ns.foldl (fun ks x => if x ∈ ks then ks else ks ++ [x]) []
end Lr
namespace Lr
open PySem PySem.Spec L2
end Lr
namespace Lr
open PySem PySem.Spec L2
open PyProof.Rows hiding St
end Lr
set_option maxHeartbeats 1000000
namespace Lr
open PySem PySem.Spec L2
open PyProof.Rows hiding St
variable {κ : Kap} {X : Cx} {k : Nat}
section
variable {pins : List (Addr × Obj)} {σ : St} {H : Hp} {s : Shared} {ι : List Addr}
def asKey : AV → Option NestedKey
  | .tup xs => match keyN (.tup xs) with
    | some k => if k.depth ≤ 8 then some k else none
    | none => none
  | _ => none
theorem asKey_of {v : AV} {k : NestedKey} (h : asKey v = some k) : keyN v = some k ∧ k.depth ≤ 8 ∧ ∃ xs, v = .tup xs := by
  unfold asKey at h
  split at h
  · rename_i xs
    split at h
    · rename_i k1 e
      split at h
      · cases h
        exact ⟨e, by assumption, _, rfl⟩
      · cases h
    · cases h
  · cases h
end
def valN (kvs : List (AV × AV)) (k : NestedKey) : Option AV := (kvs.find? fun p => decide (keyN p.1 = some k)).map (·.2)
def putN (kvs : List (AV × AV)) (j : AV) (k : NestedKey) (v : AV) : List (AV × AV) := if (valN kvs k).isSome then kvs.map (fun p => if keyN p.1 = some k then (p.1, v) else p) else kvs ++ [(j, v)]
section
variable {K : PySem.W.Frag} {ι : List Addr} {H : Hp}
theorem RelN.length {kvs : List (AV × AV)} {xs : List (NestedKey × Addr × Value)} (r : RelN K κ ι H kvs xs) : kvs.length = xs.length := Paired.length r
theorem RelN.val {k : NestedKey} : ∀ {kvs : List (AV × AV)} {xs : List (NestedKey × Addr × Value)}, RelN K κ ι H kvs xs → match valN kvs k with
    | some v => ∃ b u y, atKey xs k = some (b, y) ∧ RelV u y ∧ Rel K κ ι H v u
    | none => atKey xs k = none
  | _, _, .nil => rfl
  | p :: kvs, q :: xs, .cons h r => by
    obtain ⟨⟨h1, _⟩, h2, u, h3, h4⟩ := h
    have ih := RelN.val (k := k) r
    by_cases e : q.1 = k
    · have e1 : valN (p :: kvs) k = some p.2 := by simp [valN, List.find?_cons, h1, e]
      rw [e1]
      exact ⟨q.2.1, u, q.2.2, by simp [atKey, List.find?_cons, e], h3, h4⟩
    · have e1 : valN (p :: kvs) k = valN kvs k := by simp [valN, List.find?_cons, h1, e]
      have e2 : atKey (q :: xs) k = atKey xs k := by simp [atKey, List.find?_cons, e]
      rw [e1, e2]
      exact ih
theorem RelN.isSome {k : NestedKey} {kvs : List (AV × AV)} {xs : List (NestedKey × Addr × Value)} (r : RelN K κ ι H kvs xs) : (atKey xs k).isSome = (valN kvs k).isSome := by
  have := r.val (k := k)
  cases e : valN kvs k with
  | none => rw [e] at this; rw [this]; rfl
  | some v =>
    rw [e] at this
    obtain ⟨b, u, y, e1, _⟩ := this
    rw [e1]
    rfl
theorem RelN.repl {k : NestedKey} {v : AV} {u : V} {y : Value} (ru : RelV u y) (rv : Rel K κ ι H v u) : ∀ {kvs : List (AV × AV)} {xs : List (NestedKey × Addr × Value)}, RelN K κ ι H kvs xs → RelN K κ ι H (kvs.map fun p => if keyN p.1 = some k then (p.1, v) else p) (xs.map (PySem.putAt k y))
  | _, _, .nil => .nil
  | p :: kvs, q :: xs, .cons h r => by
    rw [List.map_cons, List.map_cons]
    refine .cons ?_ (RelN.repl ru rv r)
    obtain ⟨h0, h2, u2, h3, h4⟩ := h
    by_cases e : q.1 = k
    · rw [if_pos (by rw [h0.1, e]), show PySem.putAt k y q = (q.1, q.2.1, y) by unfold PySem.putAt; rw [if_pos e]]
      exact ⟨h0, h2, u, ru, rv⟩
    · rw [if_neg (by rw [h0.1]; exact fun z => e (Option.some.inj z)), show PySem.putAt k y q = q by unfold PySem.putAt; rw [if_neg e]]
      exact ⟨h0, h2, u2, h3, h4⟩
theorem RelN.app : ∀ {kvs ks : List (AV × AV)} {xs ys : List (NestedKey × Addr × Value)}, RelN K κ ι H kvs xs → RelN K κ ι H ks ys → RelN K κ ι H (kvs ++ ks) (xs ++ ys)
  | _, _, _, _, .nil, s => s
  | _, _, _, _, .cons h r, s => .cons h (RelN.app r s)
theorem RelN.put {k : NestedKey} {j v : AV} {a : Addr} {u : V} {y : Value} {kvs : List (AV × AV)} {xs : List (NestedKey × Addr × Value)} (r : RelN K κ ι H kvs xs) (e : asKey j = some k) (rj : Rel K κ ι H j (.ref a)) (ru : RelV u y) (rv : Rel K κ ι H v u) :
    RelN K κ ι H (putN kvs j k v) (storedH xs k a y) := by
  unfold putN storedH
  rw [r.isSome]
  split
  · exact r.repl ru rv
  · exact r.app (.cons ⟨asKey_of e, rj, u, ru, rv⟩ .nil)
def stN (μ : Store) : AV → Option (List (AV × AV))
  | .loc n => match μ[n]? with
    | some (.dtn kvs) => some kvs
    | some (.fdtn kvs) => some kvs
    | _ => none
  | _ => none
theorem stN_rel {μ : Store} (sr : SR K κ ι μ H) {a : AV} {x : V} {kvs : List (AV × AV)} (r : Rel K κ ι H a x) (e : stN μ a = some kvs) : ∃ p w xs, x = .ref p ∧ p ≠ sysModules ∧ kvs.length ≤ 16777216 ∧ κ.w = some w ∧ Rd H p (DtnO w p xs) ∧ RelN K κ ι H kvs xs := by
  cases r <;> first | (cases e; done) | skip
  rename_i n p h
  simp only [stN] at e
  cases q : μ[n]? with
  | none => rw [q] at e; cases e
  | some o =>
    rw [q] at e
    cases o <;> first | (cases e; done) | skip
    · cases e
      obtain ⟨hn, hz, w, xs, hw, e1, r1⟩ := sr.obj n _ p q h
      exact ⟨p, w, xs, rfl, hn, hz, hw, .inl e1, r1⟩
    · cases e
      obtain ⟨hn, hz, w, o, xs, hw, e1, r1⟩ := sr.obj n _ p q h
      exact ⟨p, w, xs, rfl, hn, hz, hw, .inr ⟨o, e1⟩, r1⟩
end
section
variable {pins : List (Addr × Obj)} {σ : St} {H : Hp} {s : Shared} {ι : List Addr}
theorem sys_ne {a : Addr} (h : a ≠ sysModules) : (a == sysModules) = false := beq_eq_false_iff_ne.mpr h
theorem noE_w {w : World} {a : Addr} {xs : List (NestedKey × Addr × Value)} : NoE (some (DtnO w a xs)) := noE_dtn w a xs
end
end Lr
set_option maxHeartbeats 1000000
namespace Lr
open PySem PySem.Spec L2
open PyProof.Rows hiding St
end Lr
set_option maxHeartbeats 1000000
namespace Lr
open PySem PySem.Spec L2
open PyProof.Rows hiding St
variable {κ : Kap} {X : Cx} {k : Nat}
theorem RelN.get {K : PySem.W.Frag} {ι : List Addr} {H : Hp} : ∀ {kvs : List (AV × AV)} {xs : List (NestedKey × Addr × Value)} {i : Nat} {p : AV × AV}, RelN K κ ι H kvs xs → kvs[i]? = some p → ∃ e u, xs[i]? = some e ∧ Rel K κ ι H p.1 (.ref e.2.1) ∧ RelV u e.2.2 ∧ Rel K κ ι H p.2 u
  | _, _, _, _, .nil, e => by simp at e
  | _, _, 0, _, .cons (b := q) h r, e => by
    simp at e
    subst e
    obtain ⟨_, h1, u, h2, h3⟩ := h
    exact ⟨q, u, rfl, h1, h2, h3⟩
  | _, _, i + 1, _, .cons h r, e => by
    obtain ⟨e1, u, e2, r1⟩ := RelN.get (i := i) r (by simpa using e)
    exact ⟨e1, u, by simpa using e2, r1⟩
end Lr
set_option maxHeartbeats 1000000
namespace Lr
open PySem PySem.Spec L2
open PyProof.Rows hiding St
abbrev lkB (n : Str) (p0 p1 p2 p3 p4 : Pos) (xx : Nat) : Expr := .Tuple [.Call (.Name "len" p0) [.Name n p1] [] p2, .Name n p3] xx p4
theorem reads_len {h : Heap} : ∀ {vs : List Value} {ds : List PyData} {as : List Addr}, ReadsAll h vs ds as → vs.length = ds.length
  | _, _, _, .nil => rfl
  | _, _, _, .cons _ r => congrArg (· + 1) (reads_len r)
section
variable {prog : Program} {w : World} {A : Around} {s : Shared} {f c' : Addr} {q n : Str} {params : Arguments} {scope : Scope} {pm ctv v : Value} {mg mb : Str → Option Value} {ds : List PyData}
theorem lk_call {p0 p1 p2 p3 p4 : Pos} {xx : _} (hroom : A.depth < recursionLimit) (ho : s.heap.get? f = some (PySem.W.kla_obj "<lambda>" q params (lkB n p0 p1 p2 p3 p4 xx) scope [] pm c' ctv)) (hrec : s.heap.CodeRec (.ref c') q) (nl : s.heap.NoLimit)
    (hg : s.heap.Ns mainGlobals mg) (hb : s.heap.Ns builtinsNs mb) (hmb : mb "len" = some (.builtin "len")) (hm : mg "len" = none) (hk : scope.kind = .function) (hco : scope.isCoroutine = false) (hgen : scope.isGenerator = false)
    (hn : scope.names.lookup n = some .local) (hl : scope.names.lookup ("len" : Str) = some .globalImplicit) (hcell : ∀ y ∈ scope.names, y.2 ≠ .cell)
    (hbind : bindArgs (PySem.W.kla_fn "<lambda>" q params (lkB n p0 p1 p2 p3 p4 xx) scope [] pm (.ref c') ctv) ⟨[v], []⟩ = pure [(n, v)])
    (hr : Reads s.heap v (.tuple ds) []) (hz : ds.length ≤ 16777216) (hd : (n == ("__debug__" : Str)) = false) :
    wpAny (model prog w) A (call (.ref f) [v]) (PySem.W.KeyPure (.tuple [.int ds.length, .tuple ds]) s) (fun _ _ => False) s := by
  refine wpAny_call (PySem.W.kla_callFunE hroom ho rfl hco hgen rfl hrec ?_)
  rw [hbind]
  refine wpAny_pure (wpAny_newFunctionEnv hcell (fun y hy => ?_) (fun h₁ hns hsb => ?_) hk)
  · have e : y = (n, v) := by simpa using hy
    subst e
    exact hn
  have kp : ∀ b o, s.heap.get? b = some o → h₁.get? b = some o := fun b o e => hsb.extBut b o (Nat.ne_of_lt (Heap.lt_size e)) (Heap.get?_push_of_some _ e)
  refine ⟨nl.keeps kp, PySem.W.kla_codeExpr (wpAny_mono (Q := fun v s' => PySem.W.KeyPure (.tuple [.int ds.length, .tuple ds]) s v s') (E := fun _ _ => False) ?_ (fun _ _ h => h) fun _ _ h => h.elim)⟩
  have ln : ∀ {p : Pos} {s' : Shared} {Q : Value → Shared → Prop} {A' : Around}, s'.heap = h₁ → Q v s' → wpAny (model prog w) A' (eval (.Name n p) (newEnv scope s.heap.objs.size mainGlobals [] (q ++ ".<locals>.") (some f) (.ref c') none builtinsNs)) Q (fun _ _ => False) s' := fun {p s' Q A'} e hQ =>
    wpAny_Name (wpAny_loadName_local hk hn (by rw [e]; exact hns) (by simp [List.lookup]) hQ) hd
  obtain ⟨a, rfl⟩ : ∃ a, v = .ref a := by cases hr; exact ⟨_, rfl⟩
  cases hr with
  | tuple h1 h2 h3 h4 =>
  rename_i o vs nn
  have hvl : vs.toList.length = ds.length := reads_len h4
  have hvs : vs.size = ds.length := by rw [← hvl, Array.length_toList]
  refine wpAny_Tuple_spliced ?_
  show wpAny _ _ (spliced [(false, eval (.Call (.Name "len" p0) [.Name n p1] [] p2) _), (false, eval (.Name n p3) _)]) _ _ _
  refine Calls.spliced_cons (wpAny_Call_Name_kw (Calls.Name_function_global hk hl (Calls.loadGlobal_builtin (hg.keeps kp) hm (hb.keeps kp) hmb ?_)))
  refine PyProof.Rows.callWith_builtin1 (Calls.spliced_cons (ln rfl (Calls.spliced_nil (PyProof.Rows.len_tuple (items := vs) ⟨o, kp _ _ h1, h2, nn, h3⟩ ?_ ?_))))
  · rw [hvs]; omega
  refine Calls.spliced_cons (ln rfl (Calls.spliced_nil ⟨by show 2 ≤ sizeLine; decide, ?_⟩))
  refine ⟨_, _, rfl, fun b o e => Heap.get?_push_of_some _ (kp b o e), ?_⟩
  refine .tuple (as := []) (Heap.get?_push_size _ rfl) rfl rfl ?_
  refine .cons (as := []) (by rw [hvs]; exact .int _ _) (.cons (as := []) (bs := []) (.tuple (Heap.get?_push_of_some _ (kp _ _ h1)) h2 h3 ?_) .nil)
  exact PyProof.Rows.ReadsAll.keeps (fun b o e => Heap.get?_push_of_some _ (kp b o e)) h4
end
end Lr
set_option maxHeartbeats 1000000
namespace Lr
open PySem PySem.Spec L2
open PyProof.Rows hiding St
def srcK (μ : Store) (v : AV) : Option (List AV) := match stN μ v with
  | some kvs => some (kvs.map (·.1))
  | none => lsOf μ v
section
variable {K : PySem.W.Frag} {κ : Kap} {ι : List Addr} {H : Hp}
def RAV (K : PySem.W.Frag) (κ : Kap) (ι : List Addr) (H : Hp) (u : Value) (v : AV) : Prop := ∃ x, RelV x u ∧ Rel K κ ι H v x
theorem rav_list : ∀ {xs : List AV} {vs : List V} {us : List Value}, RelL K κ ι H xs vs → Vals vs us → PySem.W.EachIs (RAV K κ ι H) us xs
  | _, _, _, .nil, r => by cases r; exact .nil
  | _, _, _, .cons h r, s => by
    cases s with
    | cons h2 s => exact .cons ⟨_, h2, h⟩ (rav_list r s)
theorem rav_back : ∀ {xs : List AV} {us : List Value}, PySem.W.EachIs (RAV K κ ι H) us xs → ∃ vs : List V, Vals vs us ∧ RelL K κ ι H xs vs
  | _, _, .nil => ⟨[], .nil, .nil⟩
  | _, _, .cons ⟨x, h1, h2⟩ r => by
    obtain ⟨vs, r1, r2⟩ := rav_back r
    exact ⟨x :: vs, .cons h1 r1, .cons h2 r2⟩
end
theorem sortedK_col {prog : Program} {w : World} {A : Around} {s : Shared} {u : Value} {f : Addr} {β : Type} {R : Value → β → Prop} {k : β → PyData} {bs : List β} {Q E : Value → Shared → Prop}
    (col : ∀ (E' : Value → Shared → Prop) (Qc : List Value → Shared → Prop), (∀ h' tk vs, (∀ b o, s.heap.get? b = some o → h'.get? b = some o) → PySem.W.EachIs R vs bs → Qc vs { s with heap := h', toks := tk }) → wpAny (model prog w) A.in1 (collect u) Qc E' s)
    (hal : PySem.W.AllAlike (bs.map k)) (hk : PySem.W.Sortable (bs.map k)) (hL : bs.length ≤ sizeLine) (hu : ∀ x, x ∈ bs → A.units + 2 + (k x).depth < cLine)
    (turn : ∀ (v : Value) (x : β), R v x → x ∈ bs → ∀ (h : Heap) (tk : Nat), (∀ b o, s.heap.get? b = some o → h.get? b = some o) →
      wpAny (model prog w) A.in1.in1 (call (.ref f) [v]) (PySem.W.KeyPure (k x) { s with heap := h, toks := tk }) (fun _ _ => False) { s with heap := h, toks := tk })
    (h : ∀ (out : List Value) c (h1 h' : Heap) tk a, a = h1.objs.size → (∀ b o, s.heap.get? b = some o → h1.get? b = some o) → (∀ b o, h1.get? b = some o → h'.get? b = some o) → h'.get? a = some (seqObj "list" (List.toArray out) c) → PySem.W.EachIs R out (bs.mergeSort (PySem.W.dataLe false k)) →
      Q (.ref a) { s with heap := h', toks := tk }) :
    wpAny (model prog w) A (call (.builtin "sorted") [u] [(Str.ofString "key", .ref f)]) Q E s := by
  refine PyProof.Rows.call_function_entry_kw PyProof.Rows.kind_sorted PyProof.Rows.plain_sorted PyProof.Rows.entry_sorted (PyProof.Rows.ksk_s1 _ _) ?_
  unfold Builtin.«sorted»
  refine wpAny_bind (m := checkCount "sorted" 1 1 _) (wpAny_pure ?_)
  refine wpAny_bind (col _ _ fun h' tk vs hkp he => ?_)
  have hvl : vs.length = bs.length := he.length
  refine wpAny_bind (wpAny_newList ?_ (by rw [hvl]; exact hL))
  have old : ∀ b o, s.heap.get? b = some o → (h'.push (seqObj "list" vs.toArray 0)).get? b = some o := fun b o e => Heap.get?_push_of_some _ (hkp b o e)
  have bt : ∀ {b o}, s.heap.get? b = some o → b ≠ h'.objs.size := fun {b o} e => Nat.ne_of_lt (Heap.lt_size (hkp b o e))
  show wpAny _ _ _ _ _ { s with heap := h'.push (seqObj "list" vs.toArray 0), toks := tk }
  refine wpAny_bind (wpAny_holding ?_)
  refine PySem.W.list_sort_key_data (s := { s with heap := h'.push (seqObj "list" vs.toArray 0), toks := tk }) (vs := vs) (n := 0) (b := false) k (Heap.get?_push_size _ rfl) he hal hk hL (fun x hx => ?_) (PyProof.Rows.ksk_l1 _ _) (PyProof.Rows.ksk_t1 _ _) (fun v x hv hx g tk2 kb => ?_) fun out c g tk2 kb hat hl2 hout => ?_
  · exact hu x hx
  · exact turn v x hv hx g tk2 fun b o e => kb b o (bt e) (old b o e)
  · refine wpAny_pure ⟨_, rfl, ?_⟩
    exact h out c h' g tk2 _ rfl hkp (fun b o e => kb b o (Nat.ne_of_lt (Heap.lt_size e)) (Heap.get?_push_of_some _ e)) hat hout
section
variable {κ : Kap} {X : Cx} {k : Nat} {e : Expr} {re : AE} {n : Str} {params : Arguments} {scope : Scope} {c P : Addr} {p lpos pos p0 p1 p2 p3 p4 : Pos} {xx : Nat} {kpos : Pos}
theorem col_src {pins : List (Addr × Obj)} {σ : St} {H : Hp} {s : Shared} {ι : List Addr} {μ : Store} {v : AV} {x : V} {u : Value} {xs : List AV} (hc : X.calm = true) (hw : ∀ w, κ.w = some w → w = X.w) (I : Inv X pins σ H s) (sr : SR X.K κ ι μ H) (rx : Rel X.K κ ι H v x) (ru : RelV x u) (e : srcK μ v = some xs) {A : Around} (hA : A.handled = none) (hz : xs.length ≤ 16777216)
    (E' : Value → Shared → Prop) (Qc : List Value → Shared → Prop) (q : ∀ h' tk vs, (∀ b o, s.heap.get? b = some o → h'.get? b = some o) → PySem.W.EachIs (RAV X.K κ ι H) vs xs → Qc vs { s with heap := h', toks := tk }) : wpAny (model X.prog X.w) A (collect u) Qc E' s := by
  unfold srcK at e
  cases es : stN μ v with
  | none =>
    rw [es] at e
    obtain ⟨pp, vs, rfl, hs, rl⟩ := ls_rel sr rx e
    obtain rfl : u = Value.ref pp := ru
    obtain ⟨its, hv, pl, hl⟩ := I.list hs
    have hlen := hv.length
    refine PyProof.Rows.collect_list pl.isList (q _ s.toks its (fun b o eb => ?_) (rav_list rl hv)) (by rw [← hlen]; exact hl)
    rw [Heap.get?_update_ne _ _ _ _ (Nat.ne_of_lt (Heap.lt_size eb))]
    exact Heap.get?_push_of_some _ eb
  | some kvs =>
    rw [es] at e
    cases e
    obtain ⟨pp, w, ys, rfl, hn, hkl, hw2, rd, rn⟩ := stN_rel sr rx es
    obtain rfl := hw w hw2
    obtain rfl : u = Value.ref pp := ru
    obtain ⟨⟨o, ent, ep, h1, h2, h3, h4, _⟩, _⟩ := (rd.ok I.hok : ObjOk X.prog X.w H s.heap pp (DtnO X.w pp ys))
    have hlen : ent.size = kvs.length := by
      have := congrArg List.length h4
      rw [Array.length_toList, List.length_map, ← rn.length] at this
      exact this
    refine PySem.W.kdu_collect (PySem.KdlSrc.rawDict (es := ent) (ep := ep) (sys_ne hn)) hA ⟨o, h1, h2, h3⟩ (by rw [hlen]; exact hkl) fun h' tk acc hk hacc => q h' tk acc.toList hk ?_
    have hal : acc.toList.length = kvs.length := by rw [Array.length_toList, hacc.1, hlen]
    refine PySem.W.EachIs.of_zip (by rw [hal, List.length_map]) fun z hz => ?_
    obtain ⟨i, hi, ez⟩ := List.getElem_of_mem hz
    have hi2 : i < kvs.length := by
      rw [List.length_zip, hal, List.length_map, Nat.min_self] at hi
      exact hi
    obtain ⟨e1, u1, g1, g2, _⟩ := rn.get (List.getElem?_eq_getElem hi2)
    rw [List.getElem_zip] at ez
    have h5 : (acc.toList)[i]? = some z.1 := by rw [← ez]; exact List.getElem?_eq_getElem _
    obtain ⟨hi3, h6⟩ := hacc.2 i z.1 (by rw [← Array.getElem?_toList]; exact h5)
    have h7 : ent.toList[i]? = some ent[i] := by rw [Array.getElem?_toList]; exact Array.getElem?_eq_getElem hi3
    rw [h4, List.getElem?_map, g1] at h7
    have h8 := Option.some.inj h7
    refine ⟨.ref e1.2.1, ?_, ?_⟩
    · rw [h6, ← h8]; rfl
    · rw [← ez, List.getElem_map]
      exact g2
end
end Lr
set_option maxHeartbeats 1000000
namespace Lr
open PySem PySem.Spec L2
open PyProof.Rows hiding St
end Lr
set_option maxHeartbeats 1000000
namespace Lr
open PySem PySem.Spec L2
open PyProof.Rows hiding St
variable {κ : Kap} {X : Cx} {k : Nat}
abbrev ADN := Lr.Loc → Store → Res (List (AV × AV))
def DDN (κ : Kap) (X : Cx) (e : Expr) (r : ADN) : Prop := ∀ W, Takes X W → ∃ t, PE X e t ∧ ∀ σ H Q ι ρ μ, SR X.K κ ι μ H → RelS X.K κ ι H ρ σ →
  PG X.K κ W σ ι H (fun kvs ι' H' => ∀ (a : Addr) (xs : List (NestedKey × Addr × Value)), kvs.length ≤ 16777216 → a ≠ sysModules → RelN X.K κ ι' H' kvs xs → H' a = some (DtnO X.w a xs) → a ∉ ι' → H a = none → Q (.ref a) H') (r ρ μ) → t σ H Q
def eNKeep (r : ADN) : AE := fun ρ μ => (r ρ μ).bind fun kvs μ1 => .ok (.loc μ1.length) (μ1 ++ [.dtn kvs])
theorem DDN.new {e : Expr} {r : ADN} (hw : κ.w = some X.w) (h : DDN κ X e r) : DE κ X e (eNKeep r) := fun W tk => by
  obtain ⟨t, p, i⟩ := h W tk
  refine ⟨t, p, fun σ H Q ι ρ μ sr rl h => ?_⟩
  refine i σ H _ ι ρ μ sr rl (PG.bind0 h fun kvs μ1 ι1 H1 p1 m1 sr1 h1 a xs hz hs rv ea hn h0 => ?_)
  have h2 : SR X.K κ (ι1 ++ [a]) (μ1 ++ [.dtn kvs]) H1 := sr1.alloc ⟨hs, hz, X.w, xs, hw, ea, rv⟩ hn (by rw [ea]; simp) (by rw [ea]; exact noE_w)
  refine h1 (ι1 ++ [a]) H1 (p1.trans (List.prefix_append _ _)) (m1.more h0) h2 _ (.loc ?_)
  rw [← sr1.len]
  simp
end Lr
set_option maxHeartbeats 1000000
namespace Lr
open PySem PySem.Spec L2
open PyProof.Rows hiding St
end Lr
set_option maxHeartbeats 1000000
namespace Lr
open PySem PySem.Spec L2
open PyProof.Rows hiding St
section
variable {κ : Kap} {X : Cx} {k : Nat}
def gFn (i : Nat) (r : List AV → AS) : List AV → AS := fun vs ρ μ => match vs with
  | v :: vs => r vs (ρ.set i (some v)) μ
  | [] => .bad
theorem DGF.name {x : Str} {pos : Pos} {es : List Expr} {r : List AV → AS} {i : Nat} (hN : X.N.Nodup) (hi : X.N[i]? = some x) (hx : L2.Loc X.env.scope x) (hr : DGF κ X es r) (hf : X.fn x = true ∨ X.env.scope.names.lookup x = some .local := by first | exact .inl rfl | exact .inr rfl) (hs : (assignEach (.Name x pos :: es) X.env).map (·.2) = assign (.Name x pos) X.env :: (assignEach es X.env).map (·.2) := by rfl) : DGF κ X (.Name x pos :: es) (gFn i r) := fun W tk => by
  obtain ⟨t, pt, it⟩ := hr W tk
  refine ⟨_, pgs_cons (pg_name hN hi hx hf) pt hs, fun D σ H ι ρ μ vs xs sr rl rv h => ?_⟩
  cases rv with
  | nil => exact False.elim h
  | cons r1 r2 => exact ⟨_, _, rfl, it D _ H ι _ μ _ _ sr (rl.set r1) r2 h⟩
end
end Lr
set_option maxHeartbeats 1000000
namespace Lr
open PySem PySem.Spec L2
open PyProof.Rows hiding St
end Lr
set_option maxHeartbeats 1000000
namespace Lr
open PySem PySem.Spec L2
open PyProof.Rows hiding St
end Lr
set_option maxHeartbeats 1000000
namespace Lr
open PySem PySem.Spec L2
open PyProof.Rows hiding St
section
variable {κ : Kap} {X : Cx} {e o : Expr} {r : AE} {s : Stmt}
def eBad : AE := fun _ _ => .bad
def sBad : AS := fun _ _ => .bad
theorem DE.bad : DE κ X e eBad := fun W tk => ⟨fun _ _ _ => False, ⟨fun pins s σ H Q I h => h.elim⟩, fun σ H Q ι ρ μ sr rl h => h⟩
theorem DS.bad : DS κ X s sBad := fun W tk => ⟨fun _ _ _ => False, ⟨fun D pins s σ H I h => h.elim⟩, fun D σ H ι ρ μ sr rl h => h⟩
end
end Lr
set_option maxHeartbeats 2000000
namespace Lr
open PySem PySem.Spec L2
open PyProof.Rows hiding St
section
variable {P : Program} {w : World} {A : Around} {E : Value → Shared → Prop} {s : Shared}
abbrev texS (es : Array (Int × Value)) : List Str := es.toList.map fun e => strOf e.2
def SetS (P : Program) (w : World) (h : Heap) (a : Addr) (L : List Str) : Prop :=
  ∃ es ep t, h.get? a = some (Froz.sObj "set" (es, ep, t)) ∧ ElemsOf (strKind P w) es.toList ∧ (texS es).Perm L ∧ L.Nodup ∧ t.fits es.size = true ∧ L2.Ris t.place.toList ∧ (w.params.followText "set-order" = true ∨ t.led = true)
theorem SetS.at {h h' : Heap} {a : Addr} {L : List Str} (R : SetS P w h a L) (k : ∀ o, h.get? a = some o → h'.get? a = some o) : SetS P w h' a L := by
  obtain ⟨es, ep, t, ho, r⟩ := R
  exact ⟨es, ep, t, k _ ho, r⟩
end
end Lr
namespace Lr
open PySem PySem.Spec L2
open PyProof.Rows hiding St
def aRevL (r : AE) : AA := fun ρ μ => (r ρ μ).bind fun x μ1 => match lsOf μ1 x with
  | some xs => .ok xs.reverse μ1
  | none => .bad
section
variable {κ : Kap} {X : Cx} {k kk : Nat} {a : Expr} {ra : AE} {p1 p2 p3 pos : Pos}
theorem DN.revL (cl : Cl X k) (ha : DE κ X a ra) : DN κ X (.Subscript a (.Slice none none (some (.UnaryOp .USub (.Constant (.int 1) kk p1) p2)) p3) pos) (aRevL ra) := DN.mk cl fun W tk => by
  obtain ⟨t1, q1, i1⟩ := ha W tk
  refine ⟨_, pe_revL q1, fun σ H Q ι ρ μ sr rl h => ?_⟩
  refine i1 σ H _ ι ρ μ sr rl (PG.bind0 h fun x μ1 ι1 H1 p1 m1 sr1 h1 v rv => ?_)
  split at h1
  · rename_i xs e1
    obtain ⟨p, vs, rfl, hq, rl⟩ := ls_rel sr1 rv e1
    refine ⟨p, vs, rfl, hq, fun a hn => ?_⟩
    exact okNew sr sr1 m1 h1 rl.reverse hn
  · exact False.elim h1
end
end Lr
set_option maxHeartbeats 2000000
namespace Lr
open PySem PySem.Spec L2
open PyProof.Rows hiding St
end Lr
set_option maxHeartbeats 1000000
namespace Lr
open PySem PySem.Spec L2
open PyProof.Rows hiding St
abbrev ASt := Lr.Loc → Store → Res (List Str)
abbrev CSt (X : Cx) (H : Hp) (Q : VK) : List Str → List Addr → Hp → Prop := fun ns ι' H' => ∀ a : Addr, H' a = some (StsO X.w a (setL ns)) → a ∉ ι' → H a = none → Q (.ref a) H'
def DSt (κ : Kap) (X : Cx) (e : Expr) (r : ASt) : Prop := ∀ W, Takes X W → ∃ t, PE X e t ∧ ∀ σ H Q ι ρ μ, SR X.K κ ι μ H → RelS X.K κ ι H ρ σ → PG X.K κ W σ ι H (CSt X H Q) (r ρ μ) → t σ H Q
def NoxP (acc : List AV) (r : Res (List AV)) : Prop := r = .bad ∨ ∃ out μ, r = .ok out μ ∧ acc <+: out
theorem NoxP.weak {acc acc' : List AV} {r : Res (List AV)} (h : NoxP acc' r) (p : acc <+: acc') : NoxP acc r := by
  rcases h with h | ⟨out, μ, e, q⟩
  · exact .inl h
  · exact .inr ⟨out, μ, e, p.trans q⟩
theorem NoxP.bind {acc : List AV} {r : Res (List AV)} {f : List AV → Store → Res (List AV)} (h : NoxP acc r) (k : ∀ out μ, acc <+: out → NoxP acc (f out μ)) : NoxP acc (r.bind f) := by
  rcases h with rfl | ⟨out, μ, rfl, q⟩
  · exact .inl rfl
  · exact k out μ q
theorem nox_cases {α : Type} (r : Res α) : r.nox = .bad ∨ ∃ a μ, r.nox = .ok a μ := by
  cases r with
  | ok a μ => exact .inr ⟨a, μ, rfl⟩
  | ex c p μ => exact .inl rfl
  | bad => exact .inl rfl
theorem NoxP.nox {α : Type} {acc : List AV} {r : Res α} {f : α → Store → Res (List AV)} (k : ∀ a μ, NoxP acc (f a μ)) : NoxP acc (r.nox.bind f) := by
  rcases nox_cases r with e | ⟨a, μ, e⟩
  · rw [e]; exact .inl rfl
  · rw [e]; exact k a μ
theorem lcF_pre (g : AG) (tt : AT) (te : AE) (src : Src) : ∀ (m i : Nat) (ρ : Loc) (acc : List AV) (μ : Store), NoxP acc (lcF g tt te src m i ρ acc μ)
  | 0, _, _, _, _ => .inl rfl
  | m + 1, i, ρ, acc, μ => by
    unfold lcF
    split
    · exact .inl rfl
    · exact .inr ⟨acc, μ, rfl, List.prefix_refl _⟩
    · split
      · exact .inl rfl
      · refine NoxP.nox fun b μ1 => ?_
        cases b with
        | false => exact lcF_pre g tt te src m _ _ _ _
        | true =>
          rw [if_pos rfl]
          refine NoxP.nox fun y μ2 => ?_
          split
          · exact (lcF_pre g tt te src m _ _ _ _).weak (List.prefix_append _ _)
          · exact .inl rfl
section
variable {κ : Kap} {X : Cx} {k : Nat} {elt tg iter tg1 iter1 : Expr} {ifs ifs1 : List Expr} {scope : Scope} {own : List (Str × Nat)} {it it1 : AI} {is is1 : List Nat} {g g1 : AG} {tt tt1 : AT} {te : AE} {pos : Pos}
theorem res_bind3 {α β γ : Type} (r : Res α) (f : α → Store → Res β) (f2 : β → Store → Res γ) : (r.bind f).bind f2 = r.bind fun a μ => (f a μ).bind f2 := by cases r <;> rfl
def eSKeep (r : ASt) : AE := fun ρ μ => (r ρ μ).bind fun ns μ1 => .ok (.loc μ1.length) (μ1 ++ [.sts (setL ns)])
theorem DSt.new {e : Expr} {r : ASt} (hw : κ.w = some X.w) (h : DSt κ X e r) : DE κ X e (eSKeep r) := fun W tk => by
  obtain ⟨t, p, i⟩ := h W tk
  refine ⟨t, p, fun σ H Q ι ρ μ sr rl h => ?_⟩
  refine i σ H _ ι ρ μ sr rl (PG.bind0 h fun ns μ1 ι1 H1 p1 m1 sr1 h1 a e hn h0 => ?_)
  have s2 : SR X.K κ (ι1 ++ [a]) (μ1 ++ [.sts (setL ns)]) H1 := sr1.alloc ⟨X.w, hw, e⟩ hn (by rw [e]; simp) (by rw [e]; exact noE_sts _ _ _)
  exact h1 (ι1 ++ [a]) H1 (p1.trans (List.prefix_append _ _)) (m1.more h0) s2 _ (.loc (by rw [← sr1.len]; simp))
end
end Lr
namespace Lr
open PySem PySem.Spec L2
open PyProof.Rows hiding St
end Lr
set_option maxHeartbeats 1000000
namespace Lr
open PySem PySem.Spec L2
open PyProof.Rows hiding St
end Lr
set_option maxHeartbeats 1000000
namespace Lr
open PySem PySem.Spec L2
open PyProof.Rows hiding St
end Lr
set_option maxHeartbeats 1000000
namespace Lr
open PySem PySem.Spec L2
open PyProof.Rows hiding St
section
variable {κ : Kap} {X : Cx} {k : Nat}
def gMinL : Fn := fun as μ => match as with
  | [x] => match lsOf μ x with
    | some xs => match intsOf xs with
      | some (n :: ns) => .ok (.int (ns.foldl (fun i j => if j < i then j else i) n)) μ
      | _ => .bad
    | none => .bad
  | _ => .bad
theorem minL_le : ∀ (ns : List Int) (n : Int), ns.foldl (fun i j => if j < i then j else i) n ∈ n :: ns ∧ ∀ y ∈ n :: ns, ns.foldl (fun i j => if j < i then j else i) n ≤ y
  | [], n => ⟨by simp, fun y hy => by simp at hy; simp [hy]⟩
  | m :: ns, n => by
    obtain ⟨a1, a2⟩ := minL_le ns (if m < n then m else n)
    refine ⟨?_, fun y hy => ?_⟩
    · show ns.foldl _ (if m < n then m else n) ∈ _
      rcases List.mem_cons.mp a1 with h | h
      · rw [h]
        by_cases z : m < n
        · simp [z]
        · simp [z]
      · exact List.mem_cons_of_mem _ (List.mem_cons_of_mem _ h)
    · show ns.foldl _ (if m < n then m else n) ≤ y
      have a3 := a2 _ List.mem_cons_self
      rcases List.mem_cons.mp hy with h | h
      · subst h
        by_cases z : m < y
        · rw [if_pos z] at a3 ⊢; omega
        · rw [if_neg z] at a3 ⊢; omega
      · rcases List.mem_cons.mp h with h | h
        · subst h
          by_cases z : y < n
          · rw [if_pos z] at a3 ⊢; omega
          · rw [if_neg z] at a3 ⊢; omega
        · exact a2 y (List.mem_cons_of_mem _ h)
theorem ca_minL (cl : Cl X k) : CallA κ X (.builtin "min") gMinL := fun W tk pins s σ H xs us Q I r hh => by
  obtain ⟨σ0, ι, μ, as, sr, rl, h⟩ := hh
  unfold gMinL at h
  split at h <;> first | exact False.elim h | skip
  split at h <;> first | exact False.elim h | skip
  rename_i x _ ys e1
  split at h <;> first | exact False.elim h | skip
  rename_i n ns e2
  cases rl with
  | cons r1 r2 =>
    cases r2
    obtain ⟨p, vs, rfl, hq, rl⟩ := ls_rel sr r1 e1
    have e3 := ints_map e2
    subst e3
    have e4 := ints_rel rl
    subst e4
    obtain ⟨b1, b2⟩ := minL_le ns n
    refine cr_min cl.calm pins s σ H _ us Q I r ⟨p, n :: ns, rfl, hq, by simp, fun m h1 h2 => ?_⟩
    have em : m = ns.foldl (fun i j => if j < i then j else i) n := Int.le_antisymm (h2 _ b1) (b2 _ h1)
    rw [em]
    exact ok1 sr h (.int _)
end
end Lr
namespace Lr
open PySem PySem.Spec L2
def wp {α : Type} (r : Res α) (Q : α → Store → Prop) : Prop := match r with
  | .ok a μ => Q a μ
  | _ => False
def wpX {α : Type} (r : Res α) (Q : α → Store → Prop) (E : Nat → Option AV → Store → Prop) : Prop := match r with
  | .ok a μ => Q a μ
  | .ex c p μ => E c p μ
  | .bad => False
structure Kt where
  nx : Loc → Store → Prop := fun _ _ => False
  rt : AV → Store → Prop := fun _ _ => False
  bk : Loc → Store → Prop := fun _ _ => False
  ct : Loc → Store → Prop := fun _ _ => False
def wo (o : Out) (D : Kt) : Prop := match o with
  | .nx ρ μ => D.nx ρ μ
  | .rt v μ => D.rt v μ
  | .bk ρ μ => D.bk ρ μ
  | .ct ρ μ => D.ct ρ μ
  | _ => False
section
variable {α β : Type} {Q : α → Store → Prop} {ρ : Loc} {μ : Store} {D : Kt}
@[simp] theorem wp_ok {a : α} : wp (.ok a μ) Q = Q a μ := rfl
@[simp] theorem wp_bad : wp (.bad : Res α) Q = False := rfl
@[simp] theorem wp_bind {r : Res β} {f : β → Store → Res α} : wp (r.bind f) Q = wp r fun b μ1 => wp (f b μ1) Q := by cases r <;> rfl
theorem wp.elim {r : Res α} (h : wp r Q) : ∃ a μ, r = .ok a μ ∧ Q a μ := by
  cases r with
  | ok a μ => exact ⟨a, μ, rfl, h⟩
  | ex c p μ => exact False.elim h
  | bad => exact False.elim h
theorem wp.mono {Q' : α → Store → Prop} {r : Res α} (h : wp r Q) (k : ∀ a μ, Q a μ → Q' a μ) : wp r Q' := by
  cases r with
  | ok a μ => exact k a μ h
  | ex c p μ => exact False.elim h
  | bad => exact False.elim h
@[simp] theorem wp_ite {c : Prop} [Decidable c] {r s : Res α} : wp (if c then r else s) Q = if c then wp r Q else wp s Q := by split <;> rfl
@[simp] theorem wo_nx : wo (.nx ρ μ) D = D.nx ρ μ := rfl
@[simp] theorem wo_rt {v : AV} : wo (.rt v μ) D = D.rt v μ := rfl
@[simp] theorem wo_bk : wo (.bk ρ μ) D = D.bk ρ μ := rfl
@[simp] theorem wo_ct : wo (.ct ρ μ) D = D.ct ρ μ := rfl
@[simp] theorem wo_bad : wo .bad D = False := rfl
@[simp] theorem wo_out {r : Res α} {f : α → Store → Out} : wo (r.out ρ f) D = wp r fun a μ1 => wo (f a μ1) D := by cases r <;> rfl
@[simp] theorem wo_ite {c : Prop} [Decidable c] {r s : Out} : wo (if c then r else s) D = if c then wo r D else wo s D := by split <;> rfl
@[simp] theorem wo_seq {a b : AS} : wo (sSeq a b ρ μ) D = wo (a ρ μ) { D with nx := fun ρ1 μ1 => wo (b ρ1 μ1) D } := by
  unfold sSeq
  cases a ρ μ <;> rfl
@[simp] theorem wo_nil : wo (sNil ρ μ) D = D.nx ρ μ := rfl
@[simp] theorem wo_expr {r : AE} : wo (sExpr r ρ μ) D = wp (r ρ μ) fun _ μ1 => D.nx ρ μ1 := by unfold sExpr; simp
@[simp] theorem wo_ret {r : AE} : wo (sRet r ρ μ) D = wp (r ρ μ) fun v μ1 => D.rt v μ1 := by unfold sRet; simp
@[simp] theorem wo_retN : wo (sRetN ρ μ) D = D.rt .non μ := rfl
@[simp] theorem wo_brk : wo (sBreak ρ μ) D = D.bk ρ μ := rfl
@[simp] theorem wo_cont : wo (sCont ρ μ) D = D.ct ρ μ := rfl
@[simp] theorem wo_if {t : AT} {a b : AS} : wo (sIf t a b ρ μ) D = wp (t ρ μ) fun k μ1 => if k = true then wo (a ρ μ1) D else wo (b ρ μ1) D := by unfold sIf; simp
@[simp] theorem wo_set {i : Nat} {r : AE} : wo (sSet i r ρ μ) D = wp (r ρ μ) fun v μ1 => D.nx (ρ.set i (some v)) μ1 := by unfold sSet; simp
theorem wo.mono {D' : Kt} {o : Out} (h : wo o D) (h1 : ∀ ρ μ, D.nx ρ μ → D'.nx ρ μ) (h2 : ∀ v μ, D.rt v μ → D'.rt v μ) (h3 : ∀ ρ μ, D.bk ρ μ → D'.bk ρ μ) (h4 : ∀ ρ μ, D.ct ρ μ → D'.ct ρ μ) : wo o D' := by
  cases o with
  | nx ρ μ => exact h1 _ _ h
  | rt v μ => exact h2 _ _ h
  | bk ρ μ => exact h3 _ _ h
  | ct ρ μ => exact h4 _ _ h
  | _ => exact False.elim h
@[simp] theorem eVar_s {i : Nat} : eVar i ρ μ = (match ρ[i]? with | some (some v) => .ok v μ | _ => .bad) := rfl
@[simp] theorem eC_s {v : AV} : eC v ρ μ = .ok v μ := rfl
@[simp] theorem aNil_s : aNil ρ μ = .ok [] μ := rfl
@[simp] theorem aCons_s {a : AE} {r : AA} : aCons a r ρ μ = (a ρ μ).bind fun x μ1 => (r ρ μ1).bind fun xs μ2 => .ok (x :: xs) μ2 := rfl
@[simp] theorem eTup_s {r : AA} : eTup r ρ μ = (r ρ μ).bind fun xs μ1 => if xs.length ≤ 16777216 then .ok (.tup xs) μ1 else .bad := rfl
@[simp] theorem aLst_s {r : AA} : aLst r ρ μ = (r ρ μ).bind fun xs μ1 => if xs.length ≤ 16777216 then .ok xs μ1 else .bad := rfl
@[simp] theorem eNew_s {r : AA} : eNew r ρ μ = (r ρ μ).bind fun xs μ1 => .ok (.loc μ1.length) (μ1 ++ [.lst xs]) := rfl
@[simp] theorem eDat_s {r : AA} : eDat r ρ μ = (r ρ μ).bind fun xs μ1 => .ok (.lst xs) μ1 := rfl
@[simp] theorem eOp_s {g : G2} {a b : AE} : eOp g a b ρ μ = (a ρ μ).bind fun x μ1 => (b ρ μ1).bind fun y μ2 => g x y μ2 := rfl
@[simp] theorem eCall_s {f : Fn} {a : AA} : eCall f a ρ μ = (a ρ μ).bind fun as μ1 => f as μ1 := rfl
@[simp] theorem eCB_s {f : Fn} {a : AA} : eCB f a ρ μ = (a ρ μ).bind fun as μ1 => f as μ1 := rfl
@[simp] theorem aCB_s {f : FnN} {a : AA} : aCB f a ρ μ = (a ρ μ).bind fun as μ1 => f as μ1 := rfl
@[simp] theorem eIf_s {t : AT} {a b : AE} : eIf t a b ρ μ = (t ρ μ).bind fun k μ1 => if k then a ρ μ1 else b ρ μ1 := rfl
@[simp] theorem tB1_s {r : AE} : tB1 r ρ μ = (r ρ μ).bind fun x μ1 => match x with | .bl k => .ok k μ1 | _ => .bad := rfl
@[simp] theorem tNt_s {r : AT} : tNt r ρ μ = (r ρ μ).bind fun b μ1 => .ok (!b) μ1 := rfl
@[simp] theorem tAn_s {t u : AT} : tAn t u ρ μ = (t ρ μ).bind fun b μ1 => if b then u ρ μ1 else .ok false μ1 := rfl
@[simp] theorem tOrr_s {t u : AT} : tOrr t u ρ μ = (t ρ μ).bind fun b μ1 => if b then .ok true μ1 else u ρ μ1 := rfl
@[simp] theorem tTr_s {r : AE} : tTr r ρ μ = (r ρ μ).bind fun x μ1 => match truA μ1 x with | some k => .ok k μ1 | none => .bad := rfl
@[simp] theorem gAdd_i {i j : Int} : gAdd (.int i) (.int j) μ = .ok (.int (i + j)) μ := rfl
@[simp] theorem gAdd_t {xs ys : List AV} : gAdd (.tup xs) (.tup ys) μ = if xs.length + ys.length ≤ 16777216 then .ok (.tup (xs ++ ys)) μ else .bad := rfl
@[simp] theorem gSub_i {i j : Int} : gSub (.int i) (.int j) μ = .ok (.int (i - j)) μ := rfl
@[simp] theorem gMul_i {i j : Int} : gMul (.int i) (.int j) μ = if mulOk i j then .ok (.int (i * j)) μ else .bad := rfl
theorem p64 : (2 : Nat) ^ 64 ≤ 2 ^ 4000 := Nat.pow_le_pow_right (by decide) (by decide)
theorem gDiv_i {i j : Int} (h : 0 < j) (h2 : j < 18446744073709551616) : gDiv (.int i) (.int j) μ = .ok (.int (i / j)) μ := by
  have h3 : j.natAbs < 2 ^ 64 := by omega
  have e : (decide (0 < j) && decide (j.natAbs < 2 ^ 4000)) = true := by rw [decide_eq_true h, decide_eq_true (Nat.lt_of_lt_of_le h3 p64)]; rfl
  exact if_pos e
theorem mulOk_l {i j : Int} (h : i.natAbs < 18446744073709551616) : mulOk i j = true := by
  have h3 : i.natAbs < 2 ^ 64 := h
  unfold mulOk
  rw [decide_eq_true h3]
  rfl
theorem mulOk_r {i j : Int} (h : j.natAbs < 18446744073709551616) : mulOk i j = true := by
  have h3 : j.natAbs < 2 ^ 64 := h
  unfold mulOk
  rw [decide_eq_true h3, Bool.or_true]
  rfl
@[simp] theorem gMod_i {i j : Int} : gMod (.int i) (.int j) μ = if decide (0 < j) then .ok (.int (i % j)) μ else .bad := rfl
@[simp] theorem gPow_i {i j : Int} : gPow (.int i) (.int j) μ = if decide (0 ≤ j) && decide (j ≤ 1000) && decide (i.natAbs < 2 ^ 64) then .ok (.int (i ^ j.toNat)) μ else .bad := rfl
@[simp] theorem gLt_i {i j : Int} : gLt (.int i) (.int j) μ = .ok (.bl (decide (i < j))) μ := rfl
@[simp] theorem gLe_i {i j : Int} : gLe (.int i) (.int j) μ = .ok (.bl (decide (i ≤ j))) μ := rfl
@[simp] theorem gGt_i {i j : Int} : gGt (.int i) (.int j) μ = .ok (.bl (decide (j < i))) μ := rfl
@[simp] theorem gGe_i {i j : Int} : gGe (.int i) (.int j) μ = .ok (.bl (decide (j ≤ i))) μ := rfl
@[simp] theorem eNeg_s {a : AE} : eNeg a ρ μ = (a ρ μ).bind fun x μ1 => match x with | .int i => .ok (.int (-i)) μ1 | .bl b => .ok (.int (-(if b then 1 else 0))) μ1 | _ => .bad := rfl
@[simp] theorem gLen_t {xs : List AV} : gLen [.tup xs] μ = .ok (.int xs.length) μ := rfl
@[simp] theorem gLen_l {xs : List AV} : gLen [.lst xs] μ = .ok (.int xs.length) μ := rfl
@[simp] theorem gLen_c {ns : List Int} : gLen [.scr ns] μ = .ok (.int ns.length) μ := rfl
@[simp] theorem gAbs_i {i : Int} : gAbs [.int i] μ = .ok (.int (if i < 0 then -i else i)) μ := rfl
@[simp] theorem gMax_i {i j : Int} : gMax [.int i, .int j] μ = .ok (.int (if j > i then j else i)) μ := rfl
@[simp] theorem gMin_i {i j : Int} : gMin [.int i, .int j] μ = .ok (.int (if j < i then j else i)) μ := rfl
@[simp] theorem gInt_i {i : Int} : gInt [.int i] μ = .ok (.int i) μ := rfl
@[simp] theorem gInt_b {b : Bool} : gInt [.bl b] μ = .ok (.int (if b then 1 else 0)) μ := rfl
@[simp] theorem gTuple_t {xs : List AV} : gTuple [.tup xs] μ = .ok (.tup xs) μ := rfl
@[simp] theorem gTuple_l {xs : List AV} : gTuple [.lst xs] μ = .ok (.tup xs) μ := rfl
@[simp] theorem gList_t {xs : List AV} : gList [.tup xs] μ = .ok xs μ := rfl
@[simp] theorem gList_l {xs : List AV} : gList [.lst xs] μ = .ok xs μ := rfl
@[simp] theorem sSub_s {o i r : AE} : sSub o i r ρ μ = (r ρ μ).out ρ fun v μ1 => (o ρ μ1).out ρ fun l μ2 => (i ρ μ2).out ρ fun j μ3 => match stL μ3 l, j with
  | some (n, xs), .int k => (match ixN xs.length k with
    | some m => .nx ρ (μ3.set n (.lst (xs.set m v)))
    | none => .bad)
  | _, _ => .bad := rfl
theorem stL_o {n : Nat} {xs : List AV} (e : μ[n]? = some (.lst xs)) : stL μ (.loc n) = some (n, xs) := by simp [stL, e]
theorem gIx_t {xs : List AV} {i : Int} {v : AV} (h : atI xs i = some v) : gIx (.tup xs) (.int i) μ = .ok v μ := by simp [gIx, seqOf, h]
theorem gIx_l {xs : List AV} {i : Int} {v : AV} (h : atI xs i = some v) : gIx (.lst xs) (.int i) μ = .ok v μ := by simp [gIx, seqOf, h]
theorem gIx_o {n : Nat} {xs : List AV} {i : Int} {v : AV} (e : μ[n]? = some (.lst xs)) (h : atI xs i = some v) : gIx (.loc n) (.int i) μ = .ok v μ := by simp [gIx, seqOf, lsOf, e, h]
theorem gIx_c {ns : List Int} {i j : Int} (h : atI ns i = some j) : gIx (.scr ns) (.int i) μ = .ok (.int j) μ := by simp [gIx, h]
theorem atI_nn {γ : Type} {xs : List γ} {i : Int} (h0 : 0 ≤ i) (h1 : i < xs.length) : atI xs i = xs[i.toNat]? := by
  unfold atI ixN
  simp [h0, h1]
theorem atI_get {γ : Type} {xs : List γ} {i : Int} (h0 : 0 ≤ i) (h1 : i < xs.length) : ∃ v, atI xs i = some v ∧ v ∈ xs := by
  rw [atI_nn h0 h1]
  have : i.toNat < xs.length := by omega
  exact ⟨xs[i.toNat], by rw [List.getElem?_eq_getElem this], List.getElem_mem _⟩
end
mutual

def pure? : AV → Bool
  | .tup xs => pureL xs
  | .lst xs => pureL xs
  | .dct kvs => pureD kvs
  | .loc _ => false
  | _ => true
def pureL : List AV → Bool
  | [] => true
  | x :: xs => pure? x && pureL xs
def pureD : List (AV × AV) → Bool
  | [] => true
  | (x, y) :: xs => pure? x && pure? y && pureD xs
end
mutual
theorem bel_pure (n : Nat) : ∀ v : AV, pure? v = true → bel n v = true
  | .tup xs, h => by simp only [pure?] at h; simp only [bel]; exact belL_pure n xs h
  | .lst xs, h => by simp only [pure?] at h; simp only [bel]; exact belL_pure n xs h
  | .dct kvs, h => by simp only [pure?] at h; simp only [bel]; exact belD_pure n kvs h
  | .loc _, h => by simp [pure?] at h
  | .non, _ => rfl
  | .bl _, _ => rfl
  | .int _, _ => rfl
  | .str _, _ => rfl
  | .obj _, _ => rfl
  | .scr _, _ => rfl
  | .ty _, _ => rfl
theorem belL_pure (n : Nat) : ∀ v : List AV, pureL v = true → belL n v = true
  | [], _ => rfl
  | x :: xs, h => by
    simp only [pureL, Bool.and_eq_true] at h
    simp only [belL, Bool.and_eq_true]
    exact ⟨bel_pure n x h.1, belL_pure n xs h.2⟩
theorem belD_pure (n : Nat) : ∀ v : List (AV × AV), pureD v = true → belD n v = true
  | [], _ => rfl
  | (x, y) :: xs, h => by
    simp only [pureD, Bool.and_eq_true] at h
    simp only [belD, Bool.and_eq_true]
    exact ⟨⟨bel_pure n x h.1.1, bel_pure n y h.1.2⟩, belD_pure n xs h.2⟩
end
theorem pureL_all : ∀ xs : List AV, pureL xs = xs.all pure?
  | [] => rfl
  | x :: xs => by rw [List.all_cons, ← pureL_all xs]; rfl
theorem fn_wp {n m : Nat} {b : AS} {as : List AV} {μ : Store} {Q : AV → Store → Prop} (hl : as.length = m)
    (h : wo (b (startA n as) μ) { nx := fun _ σ => gcOk μ σ ∧ Q .non (σ.take μ.length), rt := fun v σ => pure? v = true ∧ gcOk μ σ ∧ Q v (σ.take μ.length) }) : wp (fnR n m b as μ) Q := by
  unfold fnR
  rw [if_pos hl]
  unfold bodyR
  revert h
  cases b (startA n as) μ with
  | nx ρ σ =>
    intro h
    show wp (gc μ (.ok .non σ)) Q
    unfold gc
    simp only
    rw [if_pos ⟨rfl, h.1⟩]
    exact h.2
  | rt v σ =>
    intro h
    show wp (gc μ (.ok v σ)) Q
    unfold gc
    simp only
    rw [if_pos ⟨bel_pure _ v h.1, h.2.1⟩]
    exact h.2.2
  | _ => exact False.elim
theorem fn_wpN {n m : Nat} {b : AS} {as : List AV} {μ : Store} {Q : AV → Store → Prop} (hl : as.length = m)
    (h : wo (b (startA n as) μ) { rt := fun v σ => bel μ.length v = false ∧ Q v σ }) : wp (fnR n m b as μ) Q := by
  unfold fnR
  rw [if_pos hl]
  unfold bodyR
  revert h
  cases b (startA n as) μ with
  | rt v σ =>
    intro h
    show wp (gc μ (.ok v σ)) Q
    unfold gc
    simp only
    rw [if_neg (fun z => by rw [h.1] at z; exact absurd z.1 Bool.false_ne_true)]
    exact h.2
  | _ => exact False.elim
theorem wo_for {it : AI} {g : AG} {b : AS} {ρ : Loc} {μ : Store} {D : Kt} : wo (sFor it g b ρ μ) D = wp (it ρ μ) fun src μ1 => wo (forF g b src FUEL 0 ρ μ1) D := by unfold sFor; simp
theorem wo_dat {g : AG} {b : AS} {xs : List AV} {D : Kt} (W : Nat → Loc → Store → Prop) (hend : ∀ ρ μ, W xs.length ρ μ → D.nx ρ μ)
    (step : ∀ i (v : AV) ρ μ, xs[i]? = some v → W i ρ μ → ∃ ρ1, g v ρ = some ρ1 ∧ wo (b ρ1 μ) { D with nx := W (i + 1), ct := W (i + 1), bk := D.nx }) :
    ∀ (m i : Nat) ρ μ, xs.length - i < m → i ≤ xs.length → W i ρ μ → wo (forF g b (.dat xs) m i ρ μ) D
  | 0, i, ρ, μ, hm, _, _ => absurd hm (Nat.not_lt_zero _)
  | m + 1, i, ρ, μ, hm, hi, h => by
    unfold forF
    simp only [Src.at]
    cases e : xs[i]? with
    | none =>
      have : xs.length ≤ i := List.getElem?_eq_none_iff.mp e
      have hi' : i = xs.length := by omega
      subst hi'
      exact hend ρ μ h
    | some v =>
      have hlt : i < xs.length := (List.getElem?_eq_some_iff.mp e).1
      obtain ⟨ρ1, eg, hb⟩ := step i v ρ μ e h
      simp only [eg]
      revert hb
      cases b ρ1 μ with
      | nx ρ2 μ2 => exact fun hb => wo_dat W hend step m (i + 1) ρ2 μ2 (by omega) (by omega) hb
      | ct ρ2 μ2 => exact fun hb => wo_dat W hend step m (i + 1) ρ2 μ2 (by omega) (by omega) hb
      | bk ρ2 μ2 => exact id
      | rt v μ2 => exact id
      | ex c p ρ2 μ2 => exact id
      | bad => exact id
theorem wo_live {g : AG} {b : AS} {n : Nat} {xs : List AV} {D : Kt} (W : Nat → Loc → Store → Prop) (at_ : ∀ i ρ μ, W i ρ μ → μ[n]? = some (.lst xs)) (hend : ∀ ρ μ, W xs.length ρ μ → D.nx ρ μ)
    (step : ∀ i (v : AV) ρ μ, xs[i]? = some v → W i ρ μ → ∃ ρ1, g v ρ = some ρ1 ∧ wo (b ρ1 μ) { D with nx := W (i + 1), ct := W (i + 1), bk := D.nx }) :
    ∀ (m i : Nat) ρ μ, xs.length - i < m → i ≤ xs.length → W i ρ μ → wo (forF g b (.live n) m i ρ μ) D
  | 0, i, ρ, μ, hm, _, _ => absurd hm (Nat.not_lt_zero _)
  | m + 1, i, ρ, μ, hm, hi, h => by
    unfold forF
    simp only [Src.at, at_ i ρ μ h]
    cases e : xs[i]? with
    | none =>
      have : xs.length ≤ i := List.getElem?_eq_none_iff.mp e
      have hi' : i = xs.length := by omega
      subst hi'
      exact hend ρ μ h
    | some v =>
      have hlt : i < xs.length := (List.getElem?_eq_some_iff.mp e).1
      obtain ⟨ρ1, eg, hb⟩ := step i v ρ μ e h
      simp only [eg]
      revert hb
      cases b ρ1 μ with
      | nx ρ2 μ2 => exact fun hb => wo_live W at_ hend step m (i + 1) ρ2 μ2 (by omega) (by omega) hb
      | ct ρ2 μ2 => exact fun hb => wo_live W at_ hend step m (i + 1) ρ2 μ2 (by omega) (by omega) hb
      | bk ρ2 μ2 => exact id
      | rt v μ2 => exact id
      | ex c p ρ2 μ2 => exact id
      | bad => exact id
theorem wp_nox {α : Type} {r : Res α} {Q : α → Store → Prop} : wp r.nox Q = wp r Q := by cases r <;> rfl
theorem wp_lc {g : AG} {te : AE} {xs : List AV} {Q : List AV → Store → Prop} {ρ : Loc} (W : Nat → List AV → Store → Prop) (hz : xs.length ≤ 16777216) (hlen : ∀ i acc μ, W i acc μ → acc.length = i) (hend : ∀ acc μ, W xs.length acc μ → Q acc μ)
    (step : ∀ i (v : AV) acc μ, xs[i]? = some v → W i acc μ → ∃ ρ1, g v ρ = some ρ1 ∧ wp (te ρ1 μ) fun y μ2 => W (i + 1) (acc ++ [y]) μ2) :
    ∀ (m i : Nat) acc μ, xs.length - i < m → i ≤ xs.length → W i acc μ → wp (lcF g tTrue te (.dat xs) m i ρ acc μ) Q
  | 0, i, acc, μ, hm, _, _ => absurd hm (Nat.not_lt_zero _)
  | m + 1, i, acc, μ, hm, hi, h => by
    unfold lcF
    simp only [Src.at]
    cases e : xs[i]? with
    | none =>
      have : xs.length ≤ i := List.getElem?_eq_none_iff.mp e
      have hi' : i = xs.length := by omega
      subst hi'
      exact hend acc μ h
    | some v =>
      have hlt : i < xs.length := (List.getElem?_eq_some_iff.mp e).1
      obtain ⟨ρ1, eg, hb⟩ := step i v acc μ e h
      have hl := hlen i acc μ h
      simp only [eg, tTrue, Res.nox_ok, Res.bind_ok, if_true, wp_bind, wp_nox]
      refine hb.mono fun y μ2 hy => ?_
      rw [if_pos (by omega)]
      exact wp_lc W hz hlen hend step m (i + 1) _ μ2 (by omega) (by omega) hy
def Hst (μ : Store) (n B : Nat) : Prop := ∃ g c m : Int, μ[n]? = some (.lst [.int g, .int c, .int m]) ∧ 0 ≤ g ∧ 0 ≤ c ∧ c < 2147483647 ∧ 0 ≤ m ∧ m ≤ B
def Stp (n : Nat) (μ σ : Store) : Prop := σ.length = μ.length ∧ ∀ i, i ≠ n → σ[i]? = μ[i]?
def Ext (n : Nat) (μ σ : Store) : Prop := μ.length ≤ σ.length ∧ ∀ i, i < μ.length → i ≠ n → σ[i]? = μ[i]?
theorem Hst.lt {μ : Store} {n B : Nat} (h : Hst μ n B) : n < μ.length := let ⟨_, _, _, e, _⟩ := h; (List.getElem?_eq_some_iff.mp e).1
theorem Hst.le {μ : Store} {n B C : Nat} (h : Hst μ n B) (l : B ≤ C) : Hst μ n C := let ⟨g, c, m, e, h1, h2, h3, h4, h5⟩ := h; ⟨g, c, m, e, h1, h2, h3, h4, by omega⟩
theorem Hst.of {μ σ : Store} {n B : Nat} (h : Hst μ n B) (e : σ[n]? = μ[n]?) : Hst σ n B := by
  obtain ⟨g, c, m, h0, h⟩ := h
  exact ⟨g, c, m, e.trans h0, h⟩
theorem Stp.refl (n : Nat) (μ : Store) : Stp n μ μ := ⟨rfl, fun _ _ => rfl⟩
theorem Stp.trans {n : Nat} {μ σ τ : Store} (a : Stp n μ σ) (b : Stp n σ τ) : Stp n μ τ := ⟨b.1.trans a.1, fun i h => (b.2 i h).trans (a.2 i h)⟩
theorem Ext.refl (n : Nat) (μ : Store) : Ext n μ μ := ⟨Nat.le_refl _, fun _ _ _ => rfl⟩
theorem Ext.step {n : Nat} {μ σ τ : Store} (a : Ext n μ σ) (b : Stp n σ τ) : Ext n μ τ := ⟨by rw [b.1]; exact a.1, fun i h1 h2 => (b.2 i h2).trans (a.2 i h1 h2)⟩
theorem Stp.ext {n : Nat} {μ σ : Store} (b : Stp n μ σ) : Ext n μ σ := (Ext.refl n μ).step b
theorem Ext.push {n : Nat} {μ σ : Store} (a : Ext n μ σ) (o : AO) : Ext n μ (σ ++ [o]) := ⟨by have := a.1; simp; omega, fun i h1 h2 => by rw [List.getElem?_append_left (Nat.lt_of_lt_of_le h1 a.1)]; exact a.2 i h1 h2⟩
theorem Ext.set {n l : Nat} {μ σ : Store} (a : Ext n μ σ) (o : AO) (h : μ.length ≤ l ∨ l = n) : Ext n μ (σ.set l o) := ⟨by simp; exact a.1, fun i h1 h2 => by rw [List.getElem?_set_ne (by omega)]; exact a.2 i h1 h2⟩
theorem Hst.push {μ : Store} {n B : Nat} (h : Hst μ n B) (o : AO) : Hst (μ ++ [o]) n B := h.of (by rw [List.getElem?_append_left h.lt])
theorem Hst.set {μ : Store} {n l B : Nat} (h : Hst μ n B) (o : AO) (hl : l ≠ n) : Hst (μ.set l o) n B := h.of (by rw [List.getElem?_set_ne hl])
theorem Ext.gc {n B : Nat} {μ σ : Store} (a : Ext n μ σ) (h : Hst σ n B) (hn : n < μ.length) : gcOk μ σ ∧ Stp n μ (σ.take μ.length) ∧ Hst (σ.take μ.length) n B := by
  refine ⟨fun i o hi e => ?_, ⟨by rw [List.length_take]; have := a.1; omega, fun i hi => ?_⟩, ?_⟩
  · by_cases z : i = n
    · subst z
      obtain ⟨g, c, m, h0, _⟩ := h
      rw [h0] at e
      cases e
      exact .inr rfl
    · rw [a.2 i hi z] at e
      exact .inl e
  · by_cases z : i < μ.length
    · rw [List.getElem?_take_of_lt z, a.2 i z hi]
    · rw [List.getElem?_eq_none (by rw [List.length_take]; omega), List.getElem?_eq_none (by omega)]
  · exact h.of (List.getElem?_take_of_lt hn)
def Draws (f : Fn) (n : Nat) (as : List AV) (j : Nat) (P : AV → Prop) : Prop := ∀ μ B, B + j ≤ 1000000000 → Hst μ n B → wp (f as μ) fun v σ => Stp n μ σ ∧ Hst σ n (B + j) ∧ pure? v = true ∧ P v
theorem Draws.mono {f : Fn} {n : Nat} {as : List AV} {j k : Nat} {P P' : AV → Prop} (h : Draws f n as j P) (l : j ≤ k) (i : ∀ v, pure? v = true → P v → P' v) : Draws f n as k P' :=
  fun μ B hb hs => (h μ B (by omega) hs).mono fun v σ ⟨h1, h2, h3, h4⟩ => ⟨h1, h2.le (by omega), h3, i v h3 h4⟩
theorem Draws.of {n m k j : Nat} {b : AS} {as : List AV} {P : AV → Prop} (hl : as.length = m) (h : ∀ μ B, B + j ≤ 1000000000 → Hst μ n B →
    wo (b (startA k as) μ) { rt := fun v σ => pure? v = true ∧ Ext n μ σ ∧ Hst σ n (B + j) ∧ P v }) : Draws (fnR k m b) n as j P := fun μ B hb hs => by
  refine fn_wp hl ((h μ B hb hs).mono (fun _ _ h => False.elim h) (fun v σ ⟨h1, h2, h3, h4⟩ => ?_) (fun _ _ h => False.elim h) (fun _ _ h => False.elim h))
  obtain ⟨g1, g2, g3⟩ := h2.gc h3 hs.lt
  exact ⟨h1, g1, g2, g3, h1, h4⟩
end Lr
namespace Lr
open PySem PySem.Spec L2
section
variable {α β : Type} {ρ : Loc} {μ : Store} {D : Kt} {Q : AV → Store → Prop} {QL : List AV → Store → Prop} {QB : Bool → Store → Prop} {QO : Option Int → Store → Prop} {QS : Src → Store → Prop}
theorem w_ok {α : Type} {Q : α → Store → Prop} {a : α} (h : Q a μ) : wp (.ok a μ) Q := h
theorem w_var {i : Nat} {v : AV} (e : ρ[i]? = some (some v)) (h : Q v μ) : wp (eVar i ρ μ) Q := by rw [eVar_s, e]; exact h
theorem w_c {v : AV} (h : Q v μ) : wp (eC v ρ μ) Q := h
theorem w_nil (h : QL [] μ) : wp (aNil ρ μ) QL := h
theorem w_cons {a : AE} {r : AA} (h : wp (a ρ μ) fun x μ1 => wp (r ρ μ1) fun xs μ2 => QL (x :: xs) μ2) : wp (aCons a r ρ μ) QL := by simpa [aCons_s] using h
theorem w_tup {r : AA} (h : wp (r ρ μ) fun xs μ1 => xs.length ≤ 16777216 ∧ Q (.tup xs) μ1) : wp (eTup r ρ μ) Q := by
  rw [eTup_s, wp_bind]
  exact h.mono fun xs μ1 z => by rw [if_pos z.1]; exact z.2
theorem w_lst {r : AA} (h : wp (r ρ μ) fun xs μ1 => xs.length ≤ 16777216 ∧ QL xs μ1) : wp (aLst r ρ μ) QL := by
  rw [aLst_s, wp_bind]
  exact h.mono fun xs μ1 z => by rw [if_pos z.1]; exact z.2
theorem w_new {r : AA} (h : wp (r ρ μ) fun xs μ1 => Q (.loc μ1.length) (μ1 ++ [.lst xs])) : wp (eNew r ρ μ) Q := by rw [eNew_s, wp_bind]; exact h
theorem w_dat {r : AA} (h : wp (r ρ μ) fun xs μ1 => Q (.lst xs) μ1) : wp (eDat r ρ μ) Q := by rw [eDat_s, wp_bind]; exact h
theorem w_op {g : G2} {a b : AE} (h : wp (a ρ μ) fun x μ1 => wp (b ρ μ1) fun y μ2 => wp (g x y μ2) Q) : wp (eOp g a b ρ μ) Q := by rw [eOp_s, wp_bind]; exact h.mono fun x μ1 z => by rw [wp_bind]; exact z
theorem w_call {f : Fn} {a : AA} (h : wp (a ρ μ) fun as μ1 => wp (f as μ1) Q) : wp (eCall f a ρ μ) Q := by rw [eCall_s, wp_bind]; exact h
theorem w_cb {f : Fn} {a : AA} (h : wp (a ρ μ) fun as μ1 => wp (f as μ1) Q) : wp (eCB f a ρ μ) Q := by rw [eCB_s, wp_bind]; exact h
theorem w_acb {f : FnN} {a : AA} (h : wp (a ρ μ) fun as μ1 => wp (f as μ1) QL) : wp (aCB f a ρ μ) QL := by rw [aCB_s, wp_bind]; exact h
theorem w_if {t : AT} {a b : AE} (h : wp (t ρ μ) fun k μ1 => if k = true then wp (a ρ μ1) Q else wp (b ρ μ1) Q) : wp (eIf t a b ρ μ) Q := by rw [eIf_s, wp_bind]; exact h.mono fun k μ1 z => by rw [wp_ite]; exact z
theorem w_b1 {r : AE} (h : wp (r ρ μ) fun x μ1 => ∃ b, x = .bl b ∧ QB b μ1) : wp (tB1 r ρ μ) QB := by rw [tB1_s, wp_bind]; exact h.mono fun x μ1 ⟨b, e, z⟩ => by subst e; exact z
theorem w_nt {r : AT} (h : wp (r ρ μ) fun b μ1 => QB (!b) μ1) : wp (tNt r ρ μ) QB := by rw [tNt_s, wp_bind]; exact h
theorem w_an {t u : AT} (h : wp (t ρ μ) fun b μ1 => if b = true then wp (u ρ μ1) QB else QB false μ1) : wp (tAn t u ρ μ) QB := by rw [tAn_s, wp_bind]; exact h.mono fun k μ1 z => by rw [wp_ite]; exact z
theorem w_orr {t u : AT} (h : wp (t ρ μ) fun b μ1 => if b = true then QB true μ1 else wp (u ρ μ1) QB) : wp (tOrr t u ρ μ) QB := by rw [tOrr_s, wp_bind]; exact h.mono fun k μ1 z => by rw [wp_ite]; exact z
theorem w_tr {r : AE} (h : wp (r ρ μ) fun x μ1 => ∃ b, truA μ1 x = some b ∧ QB b μ1) : wp (tTr r ρ μ) QB := by rw [tTr_s, wp_bind]; exact h.mono fun x μ1 ⟨b, e, z⟩ => by simp only [e]; exact z
theorem w_add {i j : Int} (h : Q (.int (i + j)) μ) : wp (gAdd (.int i) (.int j) μ) Q := h
theorem w_addT {xs ys : List AV} (hz : xs.length + ys.length ≤ 16777216) (h : Q (.tup (xs ++ ys)) μ) : wp (gAdd (.tup xs) (.tup ys) μ) Q := by rw [gAdd_t, if_pos hz]; exact h
theorem w_sub {i j : Int} (h : Q (.int (i - j)) μ) : wp (gSub (.int i) (.int j) μ) Q := h
theorem w_mul {i j : Int} (hm : mulOk i j = true) (h : Q (.int (i * j)) μ) : wp (gMul (.int i) (.int j) μ) Q := by rw [gMul_i, if_pos hm]; exact h
theorem w_div {i j : Int} (h0 : 0 < j) (h1 : j < 18446744073709551616) (h : Q (.int (i / j)) μ) : wp (gDiv (.int i) (.int j) μ) Q := by rw [gDiv_i h0 h1]; exact h
theorem w_mod {i j : Int} (h0 : 0 < j) (h : Q (.int (i % j)) μ) : wp (gMod (.int i) (.int j) μ) Q := by rw [gMod_i, if_pos (decide_eq_true h0)]; exact h
theorem w_pow {i j : Int} (h0 : 0 ≤ j) (h1 : j ≤ 1000) (h2 : i.natAbs < 18446744073709551616) (h : Q (.int (i ^ j.toNat)) μ) : wp (gPow (.int i) (.int j) μ) Q := by
  have h3 : i.natAbs < 2 ^ 64 := h2
  rw [gPow_i, if_pos (by rw [decide_eq_true h0, decide_eq_true h1, decide_eq_true h3]; rfl)]
  exact h
theorem w_lt {i j : Int} (h : Q (.bl (decide (i < j))) μ) : wp (gLt (.int i) (.int j) μ) Q := h
theorem w_le {i j : Int} (h : Q (.bl (decide (i ≤ j))) μ) : wp (gLe (.int i) (.int j) μ) Q := h
theorem w_gt {i j : Int} (h : Q (.bl (decide (j < i))) μ) : wp (gGt (.int i) (.int j) μ) Q := h
theorem w_ge {i j : Int} (h : Q (.bl (decide (j ≤ i))) μ) : wp (gGe (.int i) (.int j) μ) Q := h
def negV : AV → Option Int
  | .int i => some (-i)
  | .bl b => some (-(if b then 1 else 0))
  | _ => none
theorem w_neg {a : AE} (h : wp (a ρ μ) fun x μ1 => ∃ i, negV x = some i ∧ Q (.int i) μ1) : wp (eNeg a ρ μ) Q := by
  rw [eNeg_s, wp_bind]
  refine h.mono fun x μ1 ⟨i, e, z⟩ => ?_
  cases x <;> simp only [negV] at e <;> first | (cases e; done) | skip
  · cases e
    exact z
  · cases e
    exact z
theorem w_addB {b : Bool} {j : Int} (h : Q (.int ((if b then 1 else 0) + j)) μ) : wp (gAdd (.bl b) (.int j) μ) Q := h
theorem w_subB {b : Bool} {j : Int} (h : Q (.int ((if b then 1 else 0) - j)) μ) : wp (gSub (.bl b) (.int j) μ) Q := h
theorem w_strB {b : Bool} (h : Q (.str (if b then "True" else "False")) μ) : wp (gStr [.bl b] μ) Q := h
theorem w_lenT {xs : List AV} (h : Q (.int xs.length) μ) : wp (gLen [.tup xs] μ) Q := h
theorem w_lenL {xs : List AV} (h : Q (.int xs.length) μ) : wp (gLen [.lst xs] μ) Q := h
theorem w_lenC {ns : List Int} (h : Q (.int ns.length) μ) : wp (gLen [.scr ns] μ) Q := h
theorem w_lenO {n : Nat} {xs : List AV} (e : μ[n]? = some (.lst xs)) (h : Q (.int xs.length) μ) : wp (gLen [.loc n] μ) Q := by simp only [gLen, seqOf, lsOf, e]; exact h
theorem w_abs {i : Int} (h : Q (.int (if i < 0 then -i else i)) μ) : wp (gAbs [.int i] μ) Q := h
theorem w_max {i j : Int} (h : Q (.int (if j > i then j else i)) μ) : wp (gMax [.int i, .int j] μ) Q := h
theorem w_min {i j : Int} (h : Q (.int (if j < i then j else i)) μ) : wp (gMin [.int i, .int j] μ) Q := h
theorem w_intI {i : Int} (h : Q (.int i) μ) : wp (gInt [.int i] μ) Q := h
theorem w_intB {b : Bool} (h : Q (.int (if b then 1 else 0)) μ) : wp (gInt [.bl b] μ) Q := h
theorem w_tupT {xs : List AV} (h : Q (.tup xs) μ) : wp (gTuple [.tup xs] μ) Q := h
theorem w_tupL {xs : List AV} (h : Q (.tup xs) μ) : wp (gTuple [.lst xs] μ) Q := h
theorem w_tupO {n : Nat} {xs : List AV} (e : μ[n]? = some (.lst xs)) (h : Q (.tup xs) μ) : wp (gTuple [.loc n] μ) Q := by simp only [gTuple, seqOf, lsOf, e]; exact h
theorem w_lisT {xs : List AV} (h : QL xs μ) : wp (gList [.tup xs] μ) QL := h
theorem w_ixT {xs : List AV} {i : Int} {v : AV} (e : atI xs i = some v) (h : Q v μ) : wp (gIx (.tup xs) (.int i) μ) Q := by rw [gIx_t e]; exact h
theorem w_ixL {xs : List AV} {i : Int} {v : AV} (e : atI xs i = some v) (h : Q v μ) : wp (gIx (.lst xs) (.int i) μ) Q := by rw [gIx_l e]; exact h
theorem w_ixO {n : Nat} {xs : List AV} {i : Int} {v : AV} (e : μ[n]? = some (.lst xs)) (e2 : atI xs i = some v) (h : Q v μ) : wp (gIx (.loc n) (.int i) μ) Q := by rw [gIx_o e e2]; exact h
theorem w_ixC {ns : List Int} {i j : Int} (e : atI ns i = some j) (h : Q (.int j) μ) : wp (gIx (.scr ns) (.int i) μ) Q := by rw [gIx_c e]; exact h
theorem w_chain {g g' : G2} {a b c : AE} (h : wp (a ρ μ) fun x μ1 => wp (b ρ μ1) fun y μ2 => wp (g x y μ2) fun z μ3 => ∃ k, z = .bl k ∧ if k = true then (wp (c ρ μ3) fun u μ4 => wp (g' y u μ4) Q) else Q (.bl false) μ3) : wp (eChain g g' a b c ρ μ) Q := by
  unfold eChain
  rw [wp_bind]
  refine h.mono fun x μ1 h => ?_
  rw [wp_bind]
  refine h.mono fun y μ2 h => ?_
  rw [wp_bind]
  refine h.mono fun z μ3 h => ?_
  obtain ⟨k, rfl, h⟩ := h
  cases k with
  | true => simp only [if_true] at h; simp only [wp_bind]; exact h
  | false => simpa using h
theorem w_eAn {a b : AE} (h : wp (a ρ μ) fun x μ1 => ∃ k, x = .bl k ∧ if k = true then wp (b ρ μ1) Q else Q (.bl false) μ1) : wp (eAn a b ρ μ) Q := by
  unfold eAn
  rw [wp_bind]
  refine h.mono fun z μ3 h => ?_
  obtain ⟨k, rfl, h⟩ := h
  cases k <;> simpa using h
theorem w_eOr {a b : AE} (h : wp (a ρ μ) fun x μ1 => ∃ k, x = .bl k ∧ if k = true then Q (.bl true) μ1 else wp (b ρ μ1) Q) : wp (eOr a b ρ μ) Q := by
  unfold eOr
  rw [wp_bind]
  refine h.mono fun z μ3 h => ?_
  obtain ⟨k, rfl, h⟩ := h
  cases k <;> simpa using h
theorem w_eNt {a : AE} (h : wp (a ρ μ) fun x μ1 => ∃ k, x = .bl k ∧ Q (.bl (!k)) μ1) : wp (eNt a ρ μ) Q := by
  unfold eNt
  rw [wp_bind]
  refine h.mono fun z μ3 h => ?_
  obtain ⟨k, rfl, h⟩ := h
  exact h
theorem w_oN (h : QO none μ) : wp (oNone ρ μ) QO := h
theorem w_oS {r : AE} (h : wp (r ρ μ) fun x μ1 => ∃ i, x = .int i ∧ QO (some i) μ1) : wp (oSome r ρ μ) QO := by
  unfold oSome
  rw [wp_bind]
  refine h.mono fun z μ3 h => ?_
  obtain ⟨k, rfl, h⟩ := h
  exact h
theorem w_sl {a : AE} {lo hi : AO'} (h : wp (a ρ μ) fun x μ1 => ∃ xs, x = .tup xs ∧ wp (lo ρ μ1) fun l μ2 => wp (hi ρ μ2) fun u μ3 => Q (.tup (cutA xs l u)) μ3) : wp (eSl a lo hi ρ μ) Q := by
  unfold eSl
  rw [wp_bind]
  refine h.mono fun z μ3 h => ?_
  obtain ⟨k, rfl, h⟩ := h
  rw [wp_bind]
  refine h.mono fun z μ3 h => ?_
  rw [wp_bind]
  exact h
theorem w_rev {a : AE} (h : wp (a ρ μ) fun x μ1 => ∃ xs, x = .tup xs ∧ Q (.tup xs.reverse) μ1) : wp (eRev a ρ μ) Q := by
  unfold eRev
  rw [wp_bind]
  refine h.mono fun z μ3 h => ?_
  obtain ⟨k, rfl, h⟩ := h
  exact h
theorem w_cat {a b : AE} (h : wp (a ρ μ) fun x μ1 => wp (b ρ μ1) fun y μ2 => ∃ xs ys, lsOf μ2 x = some xs ∧ lsOf μ2 y = some ys ∧ xs.length + ys.length ≤ 16777216 ∧ QL (xs ++ ys) μ2) : wp (aCat a b ρ μ) QL := by
  unfold aCat
  rw [wp_bind]
  refine h.mono fun x μ1 h => ?_
  rw [wp_bind]
  refine h.mono fun y μ2 h => ?_
  obtain ⟨xs, ys, e1, e2, hz, h⟩ := h
  simp only [e1, e2, if_pos hz]
  exact h
theorem w_app {o a : AE} (h : wp (o ρ μ) fun l μ1 => isLs μ1 l = true ∧ wp (a ρ μ1) fun v μ2 => ∃ n xs, l = .loc n ∧ μ2[n]? = some (.lst xs) ∧ xs.length < 16777216 ∧ Q .non (μ2.set n (.lst (xs ++ [v])))) : wp (eApp2 o a ρ μ) Q := by
  unfold eApp2
  rw [wp_bind]
  refine h.mono fun l μ1 h => ?_
  rw [if_pos h.1, wp_bind]
  refine h.2.mono fun v μ2 h => ?_
  obtain ⟨n, xs, rfl, e, hz, h⟩ := h
  simp only [stL_o e, if_pos hz]
  exact h
theorem w_ext {o a : AE} (h : wp (o ρ μ) fun l μ1 => isLs μ1 l = true ∧ wp (a ρ μ1) fun v μ2 => ∃ n xs ys, l = .loc n ∧ μ2[n]? = some (.lst xs) ∧ itsOf μ2 v = some ys ∧ xs.length + ys.length ≤ 16777216 ∧ Q .non (μ2.set n (.lst (xs ++ ys)))) : wp (eExt o a ρ μ) Q := by
  unfold eExt
  rw [wp_bind]
  refine h.mono fun l μ1 h => ?_
  rw [if_pos h.1, wp_bind]
  refine h.2.mono fun v μ2 h => ?_
  obtain ⟨n, xs, ys, rfl, e, e2, hz, h⟩ := h
  simp only [stL_o e, e2, if_pos hz]
  exact h
theorem w_dic0 (h : Q (.dct []) μ) : wp (eDic pNil ρ μ) Q := h
theorem w_dic1 {k : Str} {a : AE} (h : wp (a ρ μ) fun v μ1 => Q (.dct [(.str k, v)]) μ1) : wp (eDic (pCons (eC (.str k)) a pNil) ρ μ) Q := by
  unfold eDic pCons pNil
  simp only [eC_s, Res.bind_ok, wp_bind]
  refine h.mono fun v μ1 h => ?_
  simp [keysOf, keyOf]
  exact h
theorem w_gEq {x y : AV} {r : Bool} (e : eqB x y μ = some r) (hd : min (depM μ x) (depM μ y) ≤ 150) (h : Q (.bl r) μ) : wp (gEq x y μ) Q := by
  unfold gEq
  simp only [e, if_pos hd]
  exact h
theorem w_gNe {x y : AV} {r : Bool} (e : eqB x y μ = some r) (hd : min (depM μ x) (depM μ y) ≤ 150) (h : Q (.bl (!r)) μ) : wp (gNe x y μ) Q := by
  unfold gNe
  simp only [e, if_pos hd]
  exact h
theorem w_repr {x : AV} {d : PyData} (e : toD x = some d) (hk : repOk d = true) (h : Q (.str d.shown) μ) : wp (gRepr [x] μ) Q := by
  unfold gRepr
  simp only [e, if_pos hk]
  exact h
theorem w_all {xs : List AV} {bs : List Bool} (e : blsOf xs = some bs) (h : Q (.bl (bs.all _root_.id)) μ) : wp (gAll [.lst xs] μ) Q := by
  simp only [gAll, lsOf_lst, e]
  exact h
theorem w_rng {r : AA} (h : wp (r ρ μ) fun xs μ1 => ∃ j : Int, xs = [.int j] ∧ -4611686018427387904 ≤ j ∧ j < 4611686018427387904 ∧ QS (.dat (rangeL 0 j.toNat)) μ1) : wp (iRng r ρ μ) QS := by
  unfold iRng
  rw [wp_bind]
  refine h.mono fun xs μ1 h => ?_
  obtain ⟨j, rfl, h0, h1, h⟩ := h
  have e : (decide (-(2 ^ 62) ≤ j) && decide (j < 2 ^ 62)) = true := by
    rw [decide_eq_true (show -(2 ^ 62) ≤ j from h0), decide_eq_true (show j < 2 ^ 62 from h1)]
    rfl
  simp only [e, if_true]
  exact h
theorem w_anyT {r : AE} (h : wp (r ρ μ) fun x μ1 => ∃ xs, x = .tup xs ∧ QS (.dat xs) μ1) : wp (iAny r ρ μ) QS := by
  unfold iAny
  rw [wp_bind]
  refine h.mono fun xs μ1 h => ?_
  obtain ⟨j, rfl, h⟩ := h
  exact h
theorem w_anyL {r : AE} (h : wp (r ρ μ) fun x μ1 => ∃ xs, x = .lst xs ∧ QS (.dat xs) μ1) : wp (iAny r ρ μ) QS := by
  unfold iAny
  rw [wp_bind]
  refine h.mono fun xs μ1 h => ?_
  obtain ⟨j, rfl, h⟩ := h
  exact h
theorem w_anyO {r : AE} (h : wp (r ρ μ) fun x μ1 => ∃ n xs, x = .loc n ∧ μ1[n]? = some (.lst xs) ∧ QS (.live n) μ1) : wp (iAny r ρ μ) QS := by
  unfold iAny
  rw [wp_bind]
  refine h.mono fun xs μ1 h => ?_
  obtain ⟨j, xs, rfl, e, h⟩ := h
  simp only [e]
  exact h
theorem w_lcU {it : AI} {vs : List Nat} {g : AG} {tt : AT} {te : AE} (h : wp (it ρ μ) fun src μ1 => wp (lcF g tt te src FUEL 0 (wipeA ρ vs) [] μ1) QL) : wp (aLc it vs g tt te ρ μ) QL := by unfold aLc; rw [wp_bind]; exact h
theorem o_seq {a b : AS} (h : wo (a ρ μ) { D with nx := fun ρ1 μ1 => wo (b ρ1 μ1) D }) : wo (sSeq a b ρ μ) D := by rw [wo_seq]; exact h
theorem o_set {i : Nat} {r : AE} (h : wp (r ρ μ) fun v μ1 => D.nx (ρ.set i (some v)) μ1) : wo (sSet i r ρ μ) D := by rw [wo_set]; exact h
theorem o_ret {r : AE} (h : wp (r ρ μ) fun v μ1 => D.rt v μ1) : wo (sRet r ρ μ) D := by rw [wo_ret]; exact h
theorem o_expr {r : AE} (h : wp (r ρ μ) fun _ μ1 => D.nx ρ μ1) : wo (sExpr r ρ μ) D := by rw [wo_expr]; exact h
theorem o_if {t : AT} {a b : AS} (h : wp (t ρ μ) fun k μ1 => if k = true then wo (a ρ μ1) D else wo (b ρ μ1) D) : wo (sIf t a b ρ μ) D := by rw [wo_if]; exact h
theorem o_nil (h : D.nx ρ μ) : wo (sNil ρ μ) D := h
theorem o_for {it : AI} {g : AG} {b : AS} (h : wp (it ρ μ) fun src μ1 => wo (forF g b src FUEL 0 ρ μ1) D) : wo (sFor it g b ρ μ) D := by rw [wo_for]; exact h
theorem o_sub {o i r : AE} (h : wp (r ρ μ) fun v μ1 => wp (o ρ μ1) fun l μ2 => wp (i ρ μ2) fun j μ3 => ∃ n xs k m, l = .loc n ∧ j = .int k ∧ μ3[n]? = some (.lst xs) ∧ ixN xs.length k = some m ∧ D.nx ρ (μ3.set n (.lst (xs.set m v)))) : wo (sSub o i r ρ μ) D := by
  rw [sSub_s, wo_out]
  refine h.mono fun v μ1 h => ?_
  rw [wo_out]
  refine h.mono fun l μ2 h => ?_
  rw [wo_out]
  refine h.mono fun j μ3 h => ?_
  obtain ⟨n, xs, k, m, rfl, rfl, e, e2, h⟩ := h
  simp only [stL_o e, e2]
  exact h
theorem o_par {r : AA} {gs : AGs} (h : wp (r ρ μ) fun vs μ1 => vs.length ≤ 16777216 ∧ ∃ ρ1, gs vs ρ = some ρ1 ∧ D.nx ρ1 μ1) : wo (sPar r gs ρ μ) D := by
  unfold sPar
  rw [wo_out]
  refine h.mono fun vs μ1 h => ?_
  obtain ⟨hz, ρ1, e, h⟩ := h
  simp only [if_pos hz, e]
  exact h
theorem o_asg {r : AE} {g : AG} (h : wp (r ρ μ) fun v μ1 => ∃ ρ1, g v ρ = some ρ1 ∧ D.nx ρ1 μ1) : wo (sAsg r g ρ μ) D := by
  unfold sAsg
  rw [wo_out]
  refine h.mono fun vs μ1 h => ?_
  obtain ⟨ρ1, e, h⟩ := h
  simp only [e]
  exact h
end
section
variable {ρ : Loc} {μ : Store} {D : Kt} {Q : AV → Store → Prop} {QL : List AV → Store → Prop}
theorem w_dnew (h : Q (.loc μ.length) (μ ++ [.dct []])) : wp (eDNew ρ μ) Q := h
theorem w_dkeep {r : AD} (h : wp (r ρ μ) fun kvs μ1 => Q (.loc μ1.length) (μ1 ++ [.dct kvs])) : wp (eDKeep r ρ μ) Q := by
  unfold eDKeep
  rw [wp_bind]
  exact h
theorem stD_o {n : Nat} {kvs : List (Key × AV)} (e : μ[n]? = some (.dct kvs)) : stD μ (.loc n) = some (n, kvs) := by simp [stD, e]
theorem w_upd {o a : AE} (h : wp (o ρ μ) fun l μ1 => isDc μ1 l = true ∧ wp (a ρ μ1) fun v μ2 => ∃ n kvs m more, l = .loc n ∧ v = .loc m ∧ μ2[n]? = some (.dct kvs) ∧ μ2[m]? = some (.dct more) ∧ n ≠ m ∧ kvs.length + more.length ≤ 16777216 ∧ Q .non (μ2.set n (.dct (mergeA kvs more)))) : wp (eUpd o a ρ μ) Q := by
  unfold eUpd
  rw [wp_bind]
  refine h.mono fun l μ1 h => ?_
  rw [if_pos h.1, wp_bind]
  refine h.2.mono fun v μ2 h => ?_
  obtain ⟨n, kvs, m, more, rfl, rfl, e, e2, hne, hz, h⟩ := h
  simp only [stD_o e, stD_o e2]
  rw [if_pos ⟨hne, hz⟩]
  exact h
theorem o_dput {o i r : AE} (h : wp (r ρ μ) fun v μ1 => wp (o ρ μ1) fun l μ2 => wp (i ρ μ2) fun j μ3 => ∃ n kvs k, l = .loc n ∧ keyOf j = some k ∧ μ3[n]? = some (.dct kvs) ∧ kvs.length < 16777216 ∧ D.nx ρ (μ3.set n (.dct (putA kvs k v)))) : wo (sDPutA o i r ρ μ) D := by
  unfold sDPutA
  rw [wo_out]
  refine h.mono fun v μ1 h => ?_
  rw [wo_out]
  refine h.mono fun l μ2 h => ?_
  rw [wo_out]
  refine h.mono fun j μ3 h => ?_
  obtain ⟨n, kvs, k, rfl, ek, e, hz, h⟩ := h
  simp only [stD_o e, ek, if_pos hz]
  exact h
theorem w_sum {x : AV} {xs : List AV} {ns : List Int} (e : lsOf μ x = some xs) (e2 : intsOf xs = some ns) (h : Q (.int ns.sum) μ) : wp (gSum [x] μ) Q := by
  unfold gSum
  simp only [e, e2]
  exact h
theorem w_pop0 {o : AE} (h : wp (o ρ μ) fun l μ1 => ∃ n xs y, l = .loc n ∧ μ1[n]? = some (.lst xs) ∧ xs[xs.length - 1]? = some y ∧ Q y (μ1.set n (.lst xs.dropLast))) : wp (ePop0 o ρ μ) Q := by
  unfold ePop0
  rw [wp_bind]
  refine h.mono fun l μ1 h => ?_
  obtain ⟨n, xs, y, rfl, e, e2, h⟩ := h
  simp only [stL_o e, e2]
  exact h
theorem w_pop1 {o a : AE} (h : wp (o ρ μ) fun l μ1 => isLs μ1 l = true ∧ wp (a ρ μ1) fun v μ2 => ∃ n xs i j y, l = .loc n ∧ v = .int i ∧ μ2[n]? = some (.lst xs) ∧ ixN xs.length i = some j ∧ xs.length ≤ 16777216 ∧ xs[j]? = some y ∧ Q y (μ2.set n (.lst (xs.eraseIdx j)))) : wp (ePop1 o a ρ μ) Q := by
  unfold ePop1
  rw [wp_bind]
  refine h.mono fun l μ1 h => ?_
  rw [if_pos h.1, wp_bind]
  refine h.2.mono fun v μ2 h => ?_
  obtain ⟨n, xs, i, j, y, rfl, rfl, e, ej, hz, ey, h⟩ := h
  simp only [stL_o e, ej, if_pos hz, ey]
  exact h
theorem wp_lcI {g : AG} {tt : AT} {te : AE} {xs : List AV} (W : Nat → List AV → Store → Prop) (hend : ∀ acc μ, W xs.length acc μ → QL acc μ)
    (step : ∀ i (v : AV) acc μ, xs[i]? = some v → W i acc μ → ∃ ρ1, g v ρ = some ρ1 ∧ wp (tt ρ1 μ) fun b μ1 => if b = true then wp (te ρ1 μ1) fun y μ2 => acc.length < 16777216 ∧ W (i + 1) (acc ++ [y]) μ2 else W (i + 1) acc μ1) :
    ∀ (m i : Nat) acc μ, xs.length - i < m → i ≤ xs.length → W i acc μ → wp (lcF g tt te (.dat xs) m i ρ acc μ) QL
  | 0, i, acc, μ, hm, _, _ => absurd hm (Nat.not_lt_zero _)
  | m + 1, i, acc, μ, hm, hi, h => by
    unfold lcF
    simp only [Src.at]
    cases e : xs[i]? with
    | none =>
      have : xs.length ≤ i := List.getElem?_eq_none_iff.mp e
      have hi' : i = xs.length := by omega
      subst hi'
      exact hend acc μ h
    | some v =>
      have hlt : i < xs.length := (List.getElem?_eq_some_iff.mp e).1
      obtain ⟨ρ1, eg, ht⟩ := step i v acc μ e h
      simp only [eg]
      obtain ⟨b, μ1, eb, ht⟩ := ht.elim
      rw [eb]
      simp only [Res.nox_ok, Res.bind_ok]
      cases b with
      | false =>
        simp only [Bool.false_eq_true, if_false] at ht ⊢
        exact wp_lcI W hend step m (i + 1) acc μ1 (by omega) (by omega) ht
      | true =>
        simp only [if_true] at ht ⊢
        obtain ⟨y, μ2, ey, hz, hy⟩ := ht.elim
        rw [ey]
        simp only [Res.nox_ok, Res.bind_ok, if_pos hz]
        exact wp_lcI W hend step m (i + 1) _ μ2 (by omega) (by omega) hy
theorem wp_lcO {g : AG} {tt : AT} {te : AE} {n : Nat} {xs : List AV} (W : Nat → List AV → Store → Prop) (at_ : ∀ i acc μ, W i acc μ → μ[n]? = some (.lst xs)) (hend : ∀ acc μ, W xs.length acc μ → QL acc μ)
    (step : ∀ i (v : AV) acc μ, xs[i]? = some v → W i acc μ → ∃ ρ1, g v ρ = some ρ1 ∧ wp (tt ρ1 μ) fun b μ1 => if b = true then wp (te ρ1 μ1) fun y μ2 => acc.length < 16777216 ∧ W (i + 1) (acc ++ [y]) μ2 else W (i + 1) acc μ1) :
    ∀ (m i : Nat) acc μ, xs.length - i < m → i ≤ xs.length → W i acc μ → wp (lcF g tt te (.live n) m i ρ acc μ) QL
  | 0, i, acc, μ, hm, _, _ => absurd hm (Nat.not_lt_zero _)
  | m + 1, i, acc, μ, hm, hi, h => by
    unfold lcF
    simp only [Src.at, at_ i acc μ h]
    cases e : xs[i]? with
    | none =>
      have : xs.length ≤ i := List.getElem?_eq_none_iff.mp e
      have hi' : i = xs.length := by omega
      subst hi'
      exact hend acc μ h
    | some v =>
      have hlt : i < xs.length := (List.getElem?_eq_some_iff.mp e).1
      obtain ⟨ρ1, eg, ht⟩ := step i v acc μ e h
      simp only [eg]
      obtain ⟨b, μ1, eb, ht⟩ := ht.elim
      rw [eb]
      simp only [Res.nox_ok, Res.bind_ok]
      cases b with
      | false =>
        simp only [Bool.false_eq_true, if_false] at ht ⊢
        exact wp_lcO W at_ hend step m (i + 1) acc μ1 (by omega) (by omega) ht
      | true =>
        simp only [if_true] at ht ⊢
        obtain ⟨y, μ2, ey, hz, hy⟩ := ht.elim
        rw [ey]
        simp only [Res.nox_ok, Res.bind_ok, if_pos hz]
        exact wp_lcO W at_ hend step m (i + 1) _ μ2 (by omega) (by omega) hy
abbrev QD := List (Key × AV) → Store → Prop
theorem w_dcU {Q : QD} {it : AI} {vs : List Nat} {g : AG} {tt : AT} {tk tv : AE} (h : wp (it ρ μ) fun src μ1 => wp (dcF g tt tk tv src FUEL 0 (wipeA ρ vs) [] μ1) Q) : wp (aDc it vs g tt tk tv ρ μ) Q := by unfold aDc; rw [wp_bind]; exact h
theorem o_while {t : AT} {b : AS} (h : wo (whileF t b FUEL ρ μ) D) : wo (sWhile t b ρ μ) D := h
end
theorem w_len {n : Nat} {P : Prop} (h : n ≤ 16777216) (k : P) : n ≤ 16777216 ∧ P := ⟨h, k⟩
theorem startA_s {n : Nat} {as : List AV} : startA n as = as.map some ++ List.replicate (n - as.length) none := rfl
end Lr
namespace Lr
open PySem PySem.Spec L2
mutual
def sz : AV → Nat
  | .non => 4
  | .bl _ => 5
  | .int i => (PyData.shown (.int i)).length
  | .str x => (PyData.shown (.str x)).length
  | .tup xs => 3 + szL xs
  | .lst xs => 3 + szL xs
  | .dct kvs => 3 + szD kvs
  | _ => 0
def szL : List AV → Nat
  | [] => 0
  | x :: xs => sz x + 2 + szL xs
def szD : List (AV × AV) → Nat
  | [] => 0
  | (x, y) :: xs => sz x + sz y + 4 + szD xs
end
mutual

def sh : AV → Bool
  | .non => true
  | .bl _ => true
  | .str _ => true
  | .int i => decide (i.natAbs.log2 < 1920)
  | .tup xs => shL xs
  | .lst xs => shL xs
  | .dct kvs => shD kvs
  | _ => false
def shL : List AV → Bool
  | [] => true
  | x :: xs => sh x && shL xs
def shD : List (AV × AV) → Bool
  | [] => true
  | (x, y) :: xs => sh x && sh y && shD xs
end
def sumL (ts : List Str) : Nat := (ts.map fun t => t.length + 2).sum
theorem len_app (a b : Str) : (a ++ b).length = a.length + b.length := strLen_append a b
theorem textFrom_le : ∀ (ts : List Str) (k : Nat) (acc : Str), (textFrom k acc ts).length ≤ acc.length + sumL ts
  | [], k, acc => Nat.le_add_right _ _
  | t :: r, k, acc => by
    have ih := textFrom_le r (k + 1) (acc ++ (if k > 0 then ", " else "" : String) ++ t)
    have e : textFrom k acc (t :: r) = textFrom (k + 1) (acc ++ (if k > 0 then ", " else "" : String) ++ t) r := rfl
    rw [e]
    rw [len_app, len_app] at ih
    have h2 : (Str.ofString (if k > 0 then ", " else "" : String)).length ≤ 2 := by
      split <;> decide
    have : sumL (t :: r) = t.length + 2 + sumL r := by simp [sumL]
    have ih2 : (textFrom (k + 1) (acc ++ (if k > 0 then ", " else "" : String) ++ t) r).length ≤ acc.length + (Str.ofString (if k > 0 then ", " else "" : String)).length + t.length + sumL r := ih
    omega
theorem join_le : ∀ ts : List Str, (Str.join ", " ts).length ≤ sumL ts
  | [] => Nat.le_refl _
  | [x] => by show x.length ≤ _; simp [sumL]
  | x :: y :: r => by
    have ih := join_length_add (x :: y :: r) (by simp)
    have ih2 := join_le (y :: r)
    have e3 := join_length_add (y :: r) (by simp)
    have e : sumL (x :: y :: r) = x.length + 2 + sumL (y :: r) := by simp [sumL]
    have e2 : piled (x :: y :: r) = x.length + 2 + piled (y :: r) := by simp [piled]
    omega
theorem tupleText_le (ts : List Str) : (tupleText ts).length ≤ 3 + sumL ts := by
  unfold tupleText
  rw [len_app, len_app]
  have := join_le ts
  have h2 : (Str.ofString (if ts.length == 1 then ",)" else ")" : String)).length ≤ 2 := by split <;> decide
  have h1 : (Str.ofString "(").length = 1 := rfl
  have h3 : (Str.ofString "(").length + (Str.join ", " ts).length + (Str.ofString (if ts.length == 1 then ",)" else ")" : String)).length ≤ 3 + sumL ts := by omega
  exact h3
theorem listText_le (ts : List Str) : (listText ts).length ≤ 3 + sumL ts := by
  unfold listText
  rw [len_app]
  have := textFrom_le ts 0 "["
  have h1 : (Str.ofString "[").length = 1 := rfl
  have h2 : (Str.ofString "]").length = 1 := rfl
  have h3 : (textFrom 0 "[" ts).length + (Str.ofString "]").length ≤ 3 + sumL ts := by omega
  exact h3
theorem dictText_le (ts : List Str) : (dictText ts).length ≤ 3 + sumL ts := by
  unfold dictText
  rw [len_app, len_app]
  have := join_le ts
  have h1 : (Str.ofString "{").length = 1 := rfl
  have h2 : (Str.ofString "}").length = 1 := rfl
  have h3 : (Str.ofString "{").length + (Str.join ", " ts).length + (Str.ofString "}").length ≤ 3 + sumL ts := by omega
  exact h3
mutual
theorem toD_sh : ∀ v : AV, sh v = true → ∃ D, toD v = some D ∧ D.showable = true ∧ D.shown.length ≤ sz v ∧ D.depth ≤ dep v
  | .non, _ => ⟨_, rfl, rfl, by decide, Nat.le_refl _⟩
  | .bl b, _ => ⟨_, rfl, rfl, by cases b <;> decide, Nat.le_refl _⟩
  | .str x, _ => ⟨_, rfl, rfl, Nat.le_refl _, Nat.le_refl _⟩
  | .int i, h => ⟨_, rfl, by simpa [PyData.showable, sh] using h, Nat.le_refl _, Nat.le_refl _⟩
  | .tup xs, h => by
    obtain ⟨Ds, e, h1, h2, h3⟩ := toDL_sh xs (by simpa [sh] using h)
    exact ⟨.tuple Ds, by simp [toD, e], by simpa [PyData.showable] using h1, by
      have := tupleText_le (PyData.shownAll Ds)
      simp only [PyData.shown, sz]
      omega, by simp only [PyData.depth, dep]; omega⟩
  | .lst xs, h => by
    obtain ⟨Ds, e, h1, h2, h3⟩ := toDL_sh xs (by simpa [sh] using h)
    exact ⟨.list Ds, by simp [toD, e], by simpa [PyData.showable] using h1, by
      have := listText_le (PyData.shownAll Ds)
      simp only [PyData.shown, sz]
      omega, by simp only [PyData.depth, dep]; omega⟩
  | .dct xs, h => by
    obtain ⟨Ds, e, h1, h2, h3⟩ := toDD_sh xs (by simpa [sh] using h)
    exact ⟨.dict Ds, by simp [toD, e], by simpa [PyData.showable] using h1, by
      have := dictText_le (PyData.shownKv Ds)
      simp only [PyData.shown, sz]
      omega, by simp only [PyData.depth, dep]; omega⟩
  | .loc _, h => by simp [sh] at h
  | .obj _, h => by simp [sh] at h
  | .scr _, h => by simp [sh] at h
  | .ty _, h => by simp [sh] at h
theorem toDL_sh : ∀ v : List AV, shL v = true → ∃ D, toDL v = some D ∧ PyData.showableAll D = true ∧ sumL (PyData.shownAll D) ≤ szL v ∧ PyData.depthAll D ≤ depL v
  | [], _ => ⟨[], rfl, rfl, Nat.le_refl _, Nat.le_refl _⟩
  | x :: xs, h => by
    simp only [shL, Bool.and_eq_true] at h
    obtain ⟨D, e, h1, h2, h3⟩ := toD_sh x h.1
    obtain ⟨Ds, e', h1', h2', h3'⟩ := toDL_sh xs h.2
    refine ⟨D :: Ds, by simp [toDL, e, e'], by simp [PyData.showableAll, h1, h1'], ?_, by simp only [PyData.depthAll, depL]; omega⟩
    have : sumL (PyData.shownAll (D :: Ds)) = D.shown.length + 2 + sumL (PyData.shownAll Ds) := by simp [PyData.shownAll, sumL]
    simp only [szL]
    omega
theorem toDD_sh : ∀ v : List (AV × AV), shD v = true → ∃ D, toDD v = some D ∧ PyData.showableKv D = true ∧ sumL (PyData.shownKv D) ≤ szD v ∧ PyData.depthKv D ≤ depD v
  | [], _ => ⟨[], rfl, rfl, Nat.le_refl _, Nat.le_refl _⟩
  | (x, y) :: xs, h => by
    simp only [shD, Bool.and_eq_true] at h
    obtain ⟨D, e, h1, h2, h3⟩ := toD_sh x h.1.1
    obtain ⟨C, f, g1, g2, g3⟩ := toD_sh y h.1.2
    obtain ⟨Ds, e', h1', h2', h3'⟩ := toDD_sh xs h.2
    refine ⟨(D, C) :: Ds, by simp [toDD, e, f, e'], by simp [PyData.showableKv, h1, g1, h1'], ?_, by simp only [PyData.depthKv, depD]; omega⟩
    have : sumL (PyData.shownKv ((D, C) :: Ds)) = D.shown.length + 2 + C.shown.length + 2 + sumL (PyData.shownKv Ds) := by
      have z : (Str.ofString ": ").length = 2 := rfl
      have z2 : (D.shown ++ (": " : Str) ++ C.shown).length = D.shown.length + 2 + C.shown.length := by rw [len_app, len_app]; exact congrArg (fun q => D.shown.length + q + C.shown.length) z
      simp only [PyData.shownKv, sumL, List.map_cons, List.sum_cons]
      omega
    simp only [szD]
    omega
end
def Fit (c d : Nat) (v : AV) : Prop := sh v = true ∧ sz v ≤ c ∧ dep v ≤ d
theorem Fit.rep {c d : Nat} {v : AV} (h : Fit c d v) (hc : c ≤ 16777216) (hd : d ≤ 150) : ∃ D, toD v = some D ∧ repOk D = true := by
  obtain ⟨D, e, h1, h2, h3⟩ := toD_sh v h.1
  refine ⟨D, e, ?_⟩
  have := h.2.1
  have := h.2.2
  simp only [repOk, h1, Bool.true_and, Bool.and_eq_true, decide_eq_true_eq]
  omega
theorem Fit.mono {c d c' d' : Nat} {v : AV} (h : Fit c d v) (h1 : c ≤ c') (h2 : d ≤ d') : Fit c' d' v := ⟨h.1, by have := h.2.1; omega, by have := h.2.2; omega⟩
mutual
theorem sh_pure : ∀ v : AV, sh v = true → pure? v = true
  | .non, _ => rfl
  | .bl _, _ => rfl
  | .int _, _ => rfl
  | .str _, _ => rfl
  | .tup xs, h => by simp only [sh] at h; simp only [pure?]; exact shL_pure xs h
  | .lst xs, h => by simp only [sh] at h; simp only [pure?]; exact shL_pure xs h
  | .dct xs, h => by simp only [sh] at h; simp only [pure?]; exact shD_pure xs h
  | .loc _, h => by simp [sh] at h
  | .obj _, h => by simp [sh] at h
  | .scr _, h => by simp [sh] at h
  | .ty _, h => by simp [sh] at h
theorem shL_pure : ∀ v : List AV, shL v = true → pureL v = true
  | [], _ => rfl
  | x :: xs, h => by
    simp only [shL, Bool.and_eq_true] at h
    simp only [pureL, Bool.and_eq_true]
    exact ⟨sh_pure x h.1, shL_pure xs h.2⟩
theorem shD_pure : ∀ v : List (AV × AV), shD v = true → pureD v = true
  | [], _ => rfl
  | (x, y) :: xs, h => by
    simp only [shD, Bool.and_eq_true] at h
    simp only [pureD, Bool.and_eq_true]
    exact ⟨⟨sh_pure x h.1.1, sh_pure y h.1.2⟩, shD_pure xs h.2⟩
end
theorem Fit.pure {c d : Nat} {v : AV} (h : Fit c d v) : pure? v = true := sh_pure v h.1
def FitL (c d : Nat) (vs : List AV) : Prop := shL vs = true ∧ szL vs ≤ c ∧ depL vs ≤ d
theorem FitL.nil : FitL 0 0 [] := ⟨rfl, Nat.le_refl _, Nat.le_refl _⟩
theorem FitL.cons {c c' d d' : Nat} {v : AV} {vs : List AV} (h : Fit c d v) (g : FitL c' d' vs) : FitL (c + 2 + c') (max d d') (v :: vs) := by
  obtain ⟨h1, h2, h3⟩ := h
  obtain ⟨g1, g2, g3⟩ := g
  exact ⟨by simp [shL, h1, g1], by simp only [szL]; omega, by simp only [depL]; omega⟩
theorem FitL.mono {c d c' d' : Nat} {v : List AV} (h : FitL c d v) (h1 : c ≤ c') (h2 : d ≤ d') : FitL c' d' v := ⟨h.1, by have := h.2.1; omega, by have := h.2.2; omega⟩
theorem shL_app : ∀ xs ys : List AV, shL (xs ++ ys) = (shL xs && shL ys)
  | [], _ => rfl
  | x :: xs, ys => by rw [List.cons_append, shL, shL, shL_app xs ys, Bool.and_assoc]
theorem szL_app : ∀ xs ys : List AV, szL (xs ++ ys) = szL xs + szL ys
  | [], _ => by simp [szL]
  | x :: xs, ys => by rw [List.cons_append, szL, szL, szL_app xs ys]; omega
theorem depL_app : ∀ xs ys : List AV, depL (xs ++ ys) = max (depL xs) (depL ys)
  | [], _ => by simp [depL]
  | x :: xs, ys => by rw [List.cons_append, depL, depL, depL_app xs ys]; omega
theorem FitL.append {c c' d d' : Nat} {vs us : List AV} (h : FitL c d vs) (g : FitL c' d' us) : FitL (c + c') (max d d') (vs ++ us) := by
  obtain ⟨h1, h2, h3⟩ := h
  obtain ⟨g1, g2, g3⟩ := g
  exact ⟨by rw [shL_app, h1, g1]; rfl, by rw [szL_app]; omega, by rw [depL_app]; omega⟩
theorem FitL.tup {c d : Nat} {vs : List AV} (h : FitL c d vs) : Fit (3 + c) (d + 1) (.tup vs) := ⟨by simpa [sh] using h.1, by simp only [sz]; have := h.2.1; omega, by simp only [dep]; have := h.2.2; omega⟩
theorem FitL.lst {c d : Nat} {vs : List AV} (h : FitL c d vs) : Fit (3 + c) (d + 1) (.lst vs) := ⟨by simpa [sh] using h.1, by simp only [sz]; have := h.2.1; omega, by simp only [dep]; have := h.2.2; omega⟩
theorem Fit.non : Fit 4 0 .non := ⟨rfl, Nat.le_refl _, Nat.le_refl _⟩
theorem Fit.bl (b : Bool) : Fit 5 0 (.bl b) := ⟨rfl, Nat.le_refl _, Nat.le_refl _⟩
theorem FitL.mem {c d : Nat} {v : AV} : ∀ {vs : List AV}, FitL c d vs → v ∈ vs → Fit c d v
  | x :: xs, h, m => by
    obtain ⟨h1, h2, h3⟩ := h
    simp only [shL, Bool.and_eq_true] at h1
    simp only [szL] at h2
    simp only [depL] at h3
    rcases List.mem_cons.mp m with e | m
    · subst e
      exact ⟨h1.1, by omega, by omega⟩
    · exact FitL.mem (vs := xs) ⟨h1.2, by omega, by omega⟩ m
theorem FitL.of_all {c d n : Nat} : ∀ {vs : List AV}, (∀ v ∈ vs, Fit c d v) → vs.length ≤ n → FitL (n * (c + 2)) d vs
  | [], _, _ => ⟨rfl, by simp [szL], by simp [depL]⟩
  | x :: xs, h, l => by
    have hx := h x (List.mem_cons_self ..)
    have := FitL.of_all (n := n - 1) (fun v hv => h v (List.mem_cons_of_mem _ hv)) (by simp at l; omega) (vs := xs)
    have z := FitL.cons hx this
    have e : c + 2 + (n - 1) * (c + 2) = n * (c + 2) := by
      have : n ≠ 0 := by simp at l; omega
      obtain ⟨m, rfl⟩ := Nat.exists_eq_succ_of_ne_zero this
      simp only [Nat.succ_sub_one, Nat.succ_mul]
      omega
    rw [e] at z
    exact z.mono (Nat.le_refl _) (by omega)
mutual

def im (b : Nat) : AV → Bool
  | .int i => decide (i.natAbs ≤ b)
  | .tup xs => imL b xs
  | .lst xs => imL b xs
  | .dct kvs => imD b kvs
  | _ => true
def imL (b : Nat) : List AV → Bool
  | [] => true
  | x :: xs => im b x && imL b xs
def imD (b : Nat) : List (AV × AV) → Bool
  | [] => true
  | (x, y) :: xs => im b x && im b y && imD b xs
end
theorem fit_int {i : Int} (h : i.natAbs < 10 ^ 100) : Fit 102 0 (.int i) := by
  have hl : i.natAbs.log2 < 1920 := by
    by_cases z : i.natAbs = 0
    · rw [z]; decide
    · refine (Nat.log2_lt z).mpr (Nat.lt_of_lt_of_le h ?_)
      exact Nat.le_trans (by decide : 10 ^ 100 ≤ 2 ^ 400) (Nat.pow_le_pow_right (by decide) (by decide))
  refine ⟨by simpa [sh] using hl, ?_, Nat.le_refl _⟩
  show (Str.ofString (toString i)).length ≤ 102
  by_cases z : i < 0
  · rw [PyProof.Rows.len_text_neg z]
    have := PyProof.Rows.toString_length_le (v := 0 - i) (by omega) (by decide : 0 < 100) (by omega)
    omega
  · have := PyProof.Rows.toString_length_le (v := i) (by omega) (by decide : 0 < 100) (by omega)
    omega
end Lr
set_option maxHeartbeats 1000000
namespace Lr
open PySem PySem.Spec L2
open PyProof.Rows hiding St
variable {κ : Kap} {X : Cx} {k : Nat} {o i d e : Expr} {ra rb rc : AE} {pos pos' : Pos}
def leafOf : AV → Option Leaf
  | .non => some .none
  | .int i => some (.num i)
  | .str x => some (.text x)
  | _ => none
theorem leaf_is {K : PySem.W.Frag} {ι : List Addr} {H : Hp} {v : AV} {x : V} {u : Value} {kk : Leaf} (r : Rel K κ ι H v x) (ru : RelV x u) (e : leafOf v = some kk) : Leaf.isOf kk u = true := by
  cases v <;> first | (cases e; done) | skip
  · cases e; cases r; cases ru; rfl
  · cases e; cases r
    obtain ⟨t, rfl⟩ := ru
    exact decide_eq_true rfl
  · cases e; cases r
    obtain ⟨t, rfl⟩ := ru
    show (_ == _) = true
    simp
def valP (kvs : List (Leaf × AV)) (kk : Leaf) : Option AV := (kvs.find? fun kv => kv.1 = kk).map (·.2)
def putP (kvs : List (Leaf × AV)) (kk : Leaf) (v : AV) : List (Leaf × AV) := if kvs.any (fun kv => kv.1 = kk) then kvs.map (fun kv => if kv.1 = kk then (kv.1, v) else kv) else kvs ++ [(kk, v)]
theorem putP_len (kvs : List (Leaf × AV)) (kk : Leaf) (v : AV) : (putP kvs kk v).length ≤ kvs.length + 1 := by
  unfold putP
  split <;> simp
section
variable {K : PySem.W.Frag} {ι : List Addr} {H : Hp}
theorem RelLf.length {kvs : List (Leaf × AV)} {xs : List (Leaf × Value)} (r : RelLf K κ ι H kvs xs) : kvs.length = xs.length := Paired.length r
theorem RelLf.val {kk : Leaf} : ∀ {kvs : List (Leaf × AV)} {xs : List (Leaf × Value)}, RelLf K κ ι H kvs xs → match valP kvs kk with
    | some v => ∃ u y, valueAt xs kk = some y ∧ RelV u y ∧ Rel K κ ι H v u
    | none => valueAt xs kk = none
  | _, _, .nil => rfl
  | p :: kvs, q :: xs, .cons h r => by
    obtain ⟨h1, u, h3, h4⟩ := h
    have ih := RelLf.val (kk := kk) r
    by_cases e : q.1 = kk
    · have e1 : valP (p :: kvs) kk = some p.2 := by simp [valP, List.find?_cons, h1, e]
      rw [e1]
      exact ⟨u, q.2, by simp [valueAt, List.find?_cons, e], h3, h4⟩
    · have e1 : valP (p :: kvs) kk = valP kvs kk := by simp [valP, List.find?_cons, h1, e]
      have e2 : valueAt (q :: xs) kk = valueAt xs kk := by simp [valueAt, List.find?_cons, e]
      rw [e1, e2]
      exact ih
theorem RelLf.isSome {kk : Leaf} {kvs : List (Leaf × AV)} {xs : List (Leaf × Value)} (r : RelLf K κ ι H kvs xs) : (valueAt xs kk).isSome = (valP kvs kk).isSome := by
  have := r.val (kk := kk)
  cases e : valP kvs kk with
  | none => rw [e] at this; rw [this]; rfl
  | some v =>
    rw [e] at this
    obtain ⟨u, y, e1, _⟩ := this
    rw [e1]
    rfl
theorem RelLf.any {kk : Leaf} : ∀ {kvs : List (Leaf × AV)} {xs : List (Leaf × Value)}, RelLf K κ ι H kvs xs → (kvs.any fun kv => kv.1 = kk) = xs.any fun kv => kv.1 = kk
  | _, _, .nil => rfl
  | p :: kvs, q :: xs, .cons h r => by
    simp only [List.any_cons, h.1, RelLf.any r]
theorem RelLf.repl {kk : Leaf} {v : AV} {u : V} {y : Value} (ru : RelV u y) (rv : Rel K κ ι H v u) : ∀ {kvs : List (Leaf × AV)} {xs : List (Leaf × Value)}, RelLf K κ ι H kvs xs →
    RelLf K κ ι H (kvs.map fun kv => if kv.1 = kk then (kv.1, v) else kv) (xs.map fun kv => if kv.1 = kk then (kv.1, y) else kv)
  | _, _, .nil => .nil
  | p :: kvs, q :: xs, .cons h r => by
    rw [List.map_cons, List.map_cons]
    refine .cons ?_ (RelLf.repl ru rv r)
    obtain ⟨h0, u2, h3, h4⟩ := h
    by_cases e : q.1 = kk
    · rw [if_pos (h0.trans e), if_pos e]
      exact ⟨h0, u, ru, rv⟩
    · rw [if_neg (by rw [h0]; exact e), if_neg e]
      exact ⟨h0, u2, h3, h4⟩
theorem RelLf.app : ∀ {kvs ks : List (Leaf × AV)} {xs ys : List (Leaf × Value)}, RelLf K κ ι H kvs xs → RelLf K κ ι H ks ys → RelLf K κ ι H (kvs ++ ks) (xs ++ ys)
  | _, _, _, _, .nil, s => s
  | _, _, _, _, .cons h r, s => .cons h (RelLf.app r s)
theorem RelLf.put {kk : Leaf} {v : AV} {u : V} {y : Value} {kvs : List (Leaf × AV)} {xs : List (Leaf × Value)} (r : RelLf K κ ι H kvs xs) (ru : RelV u y) (rv : Rel K κ ι H v u) : RelLf K κ ι H (putP kvs kk v) (stored xs kk y) := by
  unfold putP stored
  rw [r.any]
  split
  · exact r.repl ru rv
  · exact r.app (.cons ⟨rfl, u, ru, rv⟩ .nil)
theorem pairs_any {P P' : Program} {w : World} {es : List DictEntry} {xs : List (Leaf × Value)} (h : PySem.Pairs (leafKind P w) es xs) : PySem.Pairs (leafKind P' w) es xs := by
  induction h with
  | nil => exact .nil
  | cons h1 h2 _ ih => exact .cons h1 h2 ih
theorem dict_any {P P' : Program} {w : World} {h : Heap} {a : Addr} {xs : List (Leaf × Value)} (d : h.DictOf (leafKind P w) a xs) : h.DictOf (leafKind P' w) a xs := by
  obtain ⟨o, es, ep, h1, h2, h3, h4, h5, h6⟩ := d
  exact ⟨o, es, ep, h1, h2, h3, h4, pairs_any h5, h6⟩
def stLf (μ : Store) : AV → Option (Nat × List (Leaf × AV))
  | .loc n => match μ[n]? with
    | some (.dlf kvs) => some (n, kvs)
    | _ => none
  | _ => none
theorem stLf_rel {μ : Store} (sr : SR K κ ι μ H) {a : AV} {x : V} {n : Nat} {kvs : List (Leaf × AV)} (r : Rel K κ ι H a x) (e : stLf μ a = some (n, kvs)) : ∃ p w xs, x = .ref p ∧ ι[n]? = some p ∧ p ≠ sysModules ∧ kvs.length ≤ 16777216 ∧ κ.w = some w ∧ H p = some (DlfO w p xs) ∧ RelLf K κ ι H kvs xs := by
  cases r <;> first | (cases e; done) | skip
  rename_i m p h
  simp only [stLf] at e
  split at e
  · rename_i ys q
    cases e
    obtain ⟨hn, hz, w, xs, hw, e1, r1⟩ := sr.obj _ _ p q h
    exact ⟨p, w, xs, rfl, h, hn, hz, hw, e1, r1⟩
  · cases e
end
section
variable {pins : List (Addr × Obj)} {σ : St} {H : Hp} {s : Shared} {ι : List Addr}
theorem dictL (I : Inv X pins σ H s) {a : Addr} {xs : List (Leaf × Value)} (e : H a = some (DlfO X.w a xs)) : s.heap.DictOf (leafKind X.prog X.w) a xs := by
  obtain ⟨⟨P, d⟩, _⟩ := (I.hok a _ e : ObjOk X.prog X.w H s.heap a (DlfO X.w a xs))
  exact dict_any d
theorem newL {a : Addr} {xs : List (Leaf × Value)} {h : Heap} {H' : Hp} (d : h.DictOf (leafKind X.prog X.w) a xs) : ObjOk X.prog X.w H' h a (DlfO X.w a xs) := by
  refine ⟨⟨X.prog, d⟩, ?_, ?_⟩
  · obtain ⟨o, es, ep, h1, _⟩ := d
    exact ⟨o, h1⟩
  · rintro g1 g2 ⟨P, o2, es2, ep2, q1, q2⟩ hk
    exact ⟨P, o2, es2, ep2, hk _ q1, q2⟩
end
def eLNew : AE := fun _ μ => .ok (.loc μ.length) (μ ++ [.dlf []])
def tDNewL (X : Cx) : TE := fun _ H Q => ∀ p, H p = none → p ≠ sysModules → Q (.ref p) (upd H p (DlfO X.w p []))
theorem pe_dnewL {pos : Pos} : PE X (.Dict [] [] pos) (tDNewL X) := ⟨fun pins s σ H Q I h =>
  wpAny_Dict_empty ⟨.ref s.heap.objs.size, _, I.laid (a := s.heap.objs.size) (o := DlfO X.w s.heap.objs.size []) (t' := s.toks) (fun _ _ q => Heap.get?_push_of_some _ q) (Nat.le_refl _) (newL (Heap.DictOf.new s.heap)), rfl, h _ (I.hok.fresh (Nat.le_refl _)) (by have := I.big; intro e; rw [e] at this; exact absurd this (Nat.lt_irrefl _))⟩⟩
theorem DE.lnew {pos : Pos} (hw : κ.w = some X.w) : DE κ X (.Dict [] [] pos) eLNew := fun W tk => by
  refine ⟨tDNewL X, pe_dnewL, fun σ H Q ι ρ μ sr rl h p hn hs => ?_⟩
  have h2 := (sr.new (o := DlfO X.w p []) hn).alloc (a := p) (o := .dlf []) ⟨hs, by simp, X.w, [], hw, upd_same, .nil⟩ (sr.notin hn) (by rw [upd_same]; simp) (by rw [upd_same]; exact noE_dlf _ _ _)
  refine h (ι ++ [p]) _ (List.prefix_append _ _) ((HM.fresh hn).more hn) h2 _ (.loc ?_)
  rw [← sr.len]
  simp
def gInL : G2 := fun x y μ => match stLf μ y, leafOf x with
  | some (_, kvs), some kk => .ok (.bl (valP kvs kk).isSome) μ
  | _, _ => .bad
theorem op_gInL (hw : κ.w = some X.w) : OpA κ X (compareOp .In) gInL := fun W tk pins s σ H x y v u Q I rx ry hh => by
  obtain ⟨σ0, ι, μ, a, b, sr, ra, rb, h⟩ := hh
  unfold gInL at h
  split at h
  · rename_i n kvs kk e1 ek
    obtain ⟨p, w, xs, rfl, hp, hn, hz, hw2, e2, r2⟩ := stLf_rel sr rb e1
    rw [hw] at hw2
    cases hw2
    cases ry
    refine wpAny_in_of (knd := leafKind X.prog X.w) (leaf_is ra rx ek) (beq_eq_false_iff_ne.mpr hn) (dictL I e2).mapOf ?_
    rw [r2.isSome]
    exact ⟨.bl _, H, I.tok _, rfl, ok1 sr h (.bl _)⟩
  · exact False.elim h
def eLIx (o i : AE) : AE := fun ρ μ => (o ρ μ).bind fun l μ1 => (i ρ μ1).bind fun j μ2 => match stLf μ2 l, leafOf j with
  | some (_, kvs), some kk => (match valP kvs kk with
    | some v => .ok v μ2
    | none => .bad)
  | _, _ => .bad
theorem DE.lix (hw : κ.w = some X.w) (ho : DE κ X o ra) (hi : DE κ X i rb) (hs : NoSl i := by intro _ _; rfl) : DE κ X (.Subscript o i pos) (eLIx ra rb) := fun W tk => by
  obtain ⟨t1, p1, i1⟩ := ho W tk
  obtain ⟨t2, p2, i2⟩ := hi W tk
  refine ⟨fun σ H Q => t1 σ H fun x H1 => t2 σ H1 fun y H2 => ∃ a ι kvs xs j kk v, x = .ref a ∧ H2 a = some (DlfO X.w a xs) ∧ RelLf X.K κ ι H2 kvs xs ∧ Rel X.K κ ι H2 j y ∧ leafOf j = some kk ∧ valP kvs kk = some v ∧ ∀ u, Rel X.K κ ι H2 v u → Q u H2, ⟨fun pins s σ H Q I h => ?_⟩, fun σ H Q ι ρ μ sr rl h => ?_⟩
  · refine subD_of PySem.F.slot_dict_getitem.lookup hs (thn (p1.run pins s σ H _ I h) fun u s1 ⟨x, H1, I1, rx, q1⟩ => thn (p2.run pins s1 σ H1 _ I1 q1) fun iv s2 ⟨y, H2, I2, ry, a, ι, kvs, xs, j, kk, v, ex, ea, r, rj, ek, ev, q2⟩ => ?_)
    subst ex
    obtain rfl : u = Value.ref a := rx
    have dd := dictL I2 ea
    refine ⟨dd.typeIs, ?_⟩
    have hv := r.val (kk := kk)
    rw [ev] at hv
    obtain ⟨w, y2, e1, r1, r2⟩ := hv
    exact wpAny_getItem_of (knd := leafKind X.prog X.w) (leaf_is rj ry ek) dd.mapOf e1 ⟨w, H2, I2.tok _, r1, q2 w r2⟩
  · refine i1 σ H _ ι ρ μ sr rl (PG.bind h fun l μ1 ι1 H1 q1 m1 sr1 h1 lv rlv => ?_)
    refine i2 σ H1 _ ι1 ρ μ1 sr1 (rl.mono q1 m1) (PG.bind h1 fun j μ2 ι2 H2 q2 m2 sr2 h2 jv rj => ?_)
    split at h2
    · rename_i n kvs kk e1 ek
      obtain ⟨p, w, xs, rfl, hp, hn, hz, hw2, e2, r2⟩ := stLf_rel sr2 (rlv.mono q2 m2) e1
      rw [hw] at hw2
      cases hw2
      split at h2
      · rename_i v hv
        exact ⟨p, ι2, kvs, xs, j, kk, v, rfl, e2, r2, rj, ek, hv, fun u ru => ok1 sr2 h2 ru⟩
      · exact False.elim h2
    · exact False.elim h2
theorem lset {ι : List Addr} {H : Hp} {μ : Store} {n : Nat} {p : Addr} {xs zs : List (Leaf × Value)} {ys : List (Leaf × AV)} (hw : κ.w = some X.w) (sr : SR X.K κ ι μ H) (hp : ι[n]? = some p) (hs : p ≠ sysModules) (hz : ys.length ≤ 16777216) (e : H p = some (DlfO X.w p xs)) (rl : RelLf X.K κ ι H ys zs) :
    HM ι H ι (upd H p (DlfO X.w p zs)) ∧ SR X.K κ ι (μ.set n (.dlf ys)) (upd H p (DlfO X.w p zs)) := by
  have m : HM ι H ι (upd H p (DlfO X.w p zs)) := HM.wr (by rw [e]; trivial) (List.mem_of_getElem? hp)
  exact ⟨m, sr.write hp (by rw [e]; trivial) ⟨hs, hz, X.w, zs, hw, upd_same, rl.mono (List.prefix_refl _) m.w⟩ (noE_dlf _ _ _)⟩
def sLPut (o i r : AE) : AS := fun ρ μ => (r ρ μ).out ρ fun v μ1 => (o ρ μ1).out ρ fun l μ2 => (i ρ μ2).out ρ fun j μ3 => match stLf μ3 l, leafOf j with
  | some (n, kvs), some kk => if kvs.length < 16777216 then .nx ρ (μ3.set n (.dlf (putP kvs kk v))) else .bad
  | _, _ => .bad
theorem DS.lput {a : Expr} (hw : κ.w = some X.w) (ho : DE κ X o ra) (hi : DE κ X i rb) (hv : DE κ X a rc) (hs : swapsWith a (some (.Subscript o i pos')) pos.line X.env = pure false := by rfl) : DS κ X (.Assign [.Subscript o i pos'] a pos) (sLPut ra rb rc) := fun W tk => by
  obtain ⟨t1, p1, i1⟩ := ho W tk
  obtain ⟨t2, p2, i2⟩ := hi W tk
  obtain ⟨t3, p3, i3⟩ := hv W tk
  refine ⟨fun D σ H => t3 σ H fun v H1 => t1 σ H1 fun x H2 => t2 σ H2 fun y H3 => ∃ (a : Addr) (xs : List (Leaf × Value)) (kk : Leaf), x = .ref a ∧ H3 a = some (DlfO X.w a xs) ∧ xs.length ≤ 16777216 ∧ (∀ u, RelV y u → Leaf.isOf kk u = true) ∧ ∀ (r : Value), RelV v r → D.nx σ (upd H3 a (DlfO X.w a (stored xs kk r))), ⟨fun pins s σ H D I h => ?_⟩, fun D σ H ι ρ μ sr rl h => ?_⟩
  · refine wpAny_Assign_Subscript (thn (p3.run pins s σ H _ I h) fun r s1 ⟨v, H1, I1, rv, q1⟩ => thn (p1.run pins s1 σ H1 _ I1 q1) fun u s2 ⟨x, H2, I2, rx, q2⟩ => thn (p2.run pins s2 σ H2 _ I2 q2) fun iv s3 ⟨y, H3, I3, ry, a, xs, kk, ex, hH, hz, hk, q3⟩ => ?_) hs
    subst ex
    obtain rfl : u = Value.ref a := rx
    have dd := dictL I3 hH
    refine wpAny_setItem_pairs (knd := leafKind X.prog X.w) (hsz := by rw [sizeLine_eq]; exact hz) (hk iv ry) dd fun h' d' sb => ?_
    refine ⟨σ, _, d_write I3 (by rw [hH]; trivial) sb ?_ (newL d'), q3 r rv⟩
    obtain ⟨o, es, n, eo, _⟩ := d'
    exact ⟨o, eo⟩
  · refine i3 σ H _ ι ρ μ sr rl (PO'.bind rl h fun v μ1 ι1 H1 q1 m1 sr1 h1 vv rv => ?_)
    refine i1 σ H1 _ ι1 ρ μ1 sr1 (rl.mono q1 m1) (PO'.bind (rl.mono q1 m1) h1 fun l μ2 ι2 H2 q2 m2 sr2 h2 lv rlv => ?_)
    have rl2 := (rl.mono q1 m1).mono q2 m2
    refine i2 σ H2 _ ι2 ρ μ2 sr2 rl2 (PO'.bind rl2 h2 fun j μ3 ι3 H3 q3 m3 sr3 h3 jv rj => ?_)
    split at h3
    · rename_i n kvs kk e1 ek
      by_cases hz : kvs.length < 16777216
      · rw [if_pos hz] at h3
        obtain ⟨p0, w, xs, rfl, hq, hn, hz2, hw2, e2, r2⟩ := stLf_rel sr3 (rlv.mono q3 m3) e1
        rw [hw] at hw2
        cases hw2
        have rv3 := (rv.mono q2 m2).mono q3 m3
        refine ⟨p0, xs, kk, rfl, e2, by rw [← r2.length]; exact hz2, fun u ru => leaf_is rj ru ek, fun r rvr => ?_⟩
        obtain ⟨mm, s⟩ := lset hw sr3 hq hn (by have := putP_len kvs kk v; omega) e2 (r2.put (kk := kk) rvr rv3)
        exact h3 ι3 _ σ (List.prefix_refl _) mm s ((rl2.mono q3 m3).mono (List.prefix_refl _) mm)
      · rw [if_neg hz] at h3
        exact False.elim h3
    · exact False.elim h3
end Lr
namespace Lr
open PySem PySem.Spec L2
open PyProof.Rows hiding St
variable {κ : Kap} {X : Cx} {k : Nat}
def gMaxL : Fn := fun as μ => match as with
  | [x] => match lsOf μ x with
    | some xs => match intsOf xs with
      | some (n :: ns) => .ok (.int (ns.foldl (fun i j => if j > i then j else i) n)) μ
      | _ => .bad
    | none => .bad
  | _ => .bad
theorem maxL_le : ∀ (ns : List Int) (n : Int), ns.foldl (fun i j => if j > i then j else i) n ∈ n :: ns ∧ ∀ y ∈ n :: ns, y ≤ ns.foldl (fun i j => if j > i then j else i) n
  | [], n => ⟨by simp, fun y hy => by simp at hy; simp [hy]⟩
  | m :: ns, n => by
    obtain ⟨a1, a2⟩ := maxL_le ns (if m > n then m else n)
    refine ⟨?_, fun y hy => ?_⟩
    · show ns.foldl _ (if m > n then m else n) ∈ _
      rcases List.mem_cons.mp a1 with h | h
      · rw [h]
        by_cases z : m > n
        · simp [z]
        · simp [z]
      · exact List.mem_cons_of_mem _ (List.mem_cons_of_mem _ h)
    · show y ≤ ns.foldl _ (if m > n then m else n)
      have a3 := a2 _ List.mem_cons_self
      rcases List.mem_cons.mp hy with h | h
      · subst h
        by_cases z : m > y
        · rw [if_pos z] at a3 ⊢; omega
        · rw [if_neg z] at a3 ⊢; omega
      · rcases List.mem_cons.mp h with h | h
        · subst h
          by_cases z : y > n
          · rw [if_pos z] at a3 ⊢; omega
          · rw [if_neg z] at a3 ⊢; omega
        · exact a2 y (List.mem_cons_of_mem _ h)
theorem ca_maxL (cl : Cl X k) : CallA κ X (.builtin "max") gMaxL := fun W tk pins s σ H xs us Q I r hh => by
  obtain ⟨σ0, ι, μ, as, sr, rl, h⟩ := hh
  unfold gMaxL at h
  split at h <;> first | exact False.elim h | skip
  split at h <;> first | exact False.elim h | skip
  rename_i x _ ys e1
  split at h <;> first | exact False.elim h | skip
  rename_i n ns e2
  cases rl with
  | cons r1 r2 =>
    cases r2
    obtain ⟨p, vs, rfl, hq, rl⟩ := ls_rel sr r1 e1
    have e3 := ints_map e2
    subst e3
    have e4 := ints_rel rl
    subst e4
    obtain ⟨b1, b2⟩ := maxL_le ns n
    refine cr_max cl.calm pins s σ H _ us Q I r ⟨p, n :: ns, rfl, hq, by simp, fun m h1 h2 => ?_⟩
    have em : m = ns.foldl (fun i j => if j > i then j else i) n := Int.le_antisymm (b2 _ h1) (h2 _ b1)
    rw [em]
    exact ok1 sr h (.int _)
end Lr
set_option maxHeartbeats 1000000
namespace Lr
open PySem PySem.Spec L2
section
variable {X : Cx} {κ : Kap} {k : Nat}
def gShl : G2 := fun x y μ => match x, y with
  | .int i, .int j => if decide (0 ≤ j) && decide (j ≤ 1000) && decide (i.natAbs < 2 ^ 64) then .ok (.int (i * 2 ^ j.toNat)) μ else .bad
  | _, _ => .bad
theorem op_gShl : OpA κ X (binaryOp .LShift) gShl := fun W tk pins s σ H x y v u Q I rx ry hh => by
  obtain ⟨σ0, ι, μ, a, b, sr, ra, rb, h⟩ := hh
  cases a <;> cases b <;> first | exact False.elim h | skip
  cases ra; cases rb
  rename_i i j
  by_cases hz : (decide (0 ≤ j) && decide (j ≤ 1000) && decide (i.natAbs < 2 ^ 64)) = true
  · simp only [gShl, if_pos hz] at h
    simp only [Bool.and_eq_true, decide_eq_true_eq] at hz
    exact op_shl pins s σ H _ _ v u Q I rx ry ⟨_, _, rfl, rfl, ⟨hz.1.1, by omega, hz.2⟩, ok1 sr h (.int _)⟩
  · simp only [gShl, if_neg hz] at h
    exact False.elim h
def gAnd : G2 := fun x y μ => match x, y with
  | .int i, .int j => .ok (.int (Builtin.bitAnd i j)) μ
  | _, _ => .bad
theorem op_gAnd : OpA κ X (binaryOp .BitAnd) gAnd := fun W tk pins s σ H x y v u Q I rx ry hh => by
  obtain ⟨σ0, ι, μ, a, b, sr, ra, rb, h⟩ := hh
  cases a <;> cases b <;> first | exact False.elim h | skip
  cases ra; cases rb
  exact op_and pins s σ H _ _ v u Q I rx ry ⟨_, _, rfl, rfl, ok1 sr h (.int _)⟩
def sSubAdd (o i r : AE) : AS := fun ρ μ => (o ρ μ).out ρ fun l μ1 => (i ρ μ1).out ρ fun j μ2 => match stL μ2 l, j with
  | some (_, xs), .int k => match atI xs k with
    | some (.int a) => (r ρ μ2).out ρ fun v μ3 => match v, stL μ3 l with
      | .int b, some (n, ys) => match ixN ys.length k with
        | some m => .nx ρ (μ3.set n (.lst (ys.set m (.int (a + b)))))
        | none => .bad
      | _, _ => .bad
    | _ => .bad
  | _, _ => .bad
theorem get_listO : PGet X (rIxL X.K) := by
  intro pins s σ H x y v u Q I rx ry h
  obtain ⟨p, xs, i, z, rfl, rfl, hq, he, q⟩ := h
  cases rx
  obtain ⟨t, rfl⟩ := ry
  obtain ⟨its, r, pl, hz⟩ := I.list hq
  obtain ⟨j, h1, h2, h3, h4, h5⟩ := L2.atI_get he
  obtain ⟨w, ew, rw'⟩ := r.get h2
  have hl := r.length
  have hn := line63
  have fin : EP X pins σ Q w s := ⟨z, H, I, rw', q⟩
  by_cases h0 : 0 ≤ i
  · have hj : i.toNat = j := by
      rw [seqIndex_of h0 h5] at h1
      exact Option.some.inj h1
    exact PySem.wpAny_getItem_list pl.isList h0 (by omega) (by rw [hj]; simpa using ew) fin
  · have hj : (i + (its.toArray.size : Int)).toNat = j := by
      rw [seqIndex_neg (by omega) h4] at h1
      rw [List.size_toArray, ← hl]
      exact Option.some.inj h1
    exact PySem.wpAny_getItem_list_neg pl.isList (by omega) (by rw [List.size_toArray] <;> omega) (by omega) (by rw [hj]; simpa using ew) fin
variable {o i a : Expr} {ra rb rc : AE} {tpos pos : Pos}
theorem DS.subAdd (ho : DE κ X o ra) (hi : DE κ X i rb) (hv : DE κ X a rc)
    (ha : ∀ ov iv new, augStore i ov iv new = (do holding [new, ov, iv] (setItem ov iv new); release [new, ov, iv] []; pure .next) := by intros; rfl) : DS κ X (.AugAssign (.Subscript o i tpos) .Add a pos) (sSubAdd ra rb rc) := fun W tk => by
  obtain ⟨t1, p1, i1⟩ := ho W tk
  obtain ⟨t2, p2, i2⟩ := hi W tk
  obtain ⟨t3, p3, i3⟩ := hv W tk
  refine ⟨_, ps_augS (tget := rIxL X.K) p1 p2 get_listO p3 ip_add set_list ha, fun D σ H ι ρ μ sr rl h => ?_⟩
  refine i1 σ H _ ι ρ μ sr rl (PO'.bind rl h fun l μ1 ι1 H1 q1 m1 sr1 h1 lv rlv => ?_)
  have rl1 := rl.mono q1 m1
  refine i2 σ H1 _ ι1 ρ μ1 sr1 rl1 (PO'.bind rl1 h1 fun j μ2 ι2 H2 q2 m2 sr2 h2 jv rj => ?_)
  have rl2 := rl1.mono q2 m2
  have rlv2 := rlv.mono q2 m2
  split at h2
  · rename_i n xs kk e1
    cases rj
    split at h2
    · rename_i a0 ea
      obtain ⟨p0, vs, rfl, hq, e2, r2⟩ := stL_rel sr2 rlv2 e1
      obtain ⟨y, ey, ry⟩ := atI_rel r2 ea
      cases ry
      refine ⟨p0, vs, kk, .int a0, rfl, rfl, .inl (.inl e2), ey, ?_⟩
      refine i3 σ H2 _ ι2 ρ μ2 sr2 rl2 (PO'.bind rl2 h2 fun v μ3 ι3 H3 q3 m3 sr3 h3 vv rv => ?_)
      have rl3 := rl2.mono q3 m3
      split at h3
      · rename_i b n2 ys e3
        cases rv
        split at h3
        · rename_i m em
          obtain ⟨p1, ws, ep, hq3, e4, r4⟩ := stL_rel sr3 (rlv2.mono q3 m3) e3
          cases ep
          refine ⟨a0, b, rfl, rfl, p0, ws, kk, m, rfl, rfl, e4, by rw [← r4.length]; exact em, ?_⟩
          have mm : HM ι3 H3 ι3 (upd H3 p0 (.lst (ws.set m (.int (a0 + b))))) := HM.wr (by rw [e4]; trivial) (List.mem_of_getElem? hq3)
          exact h3 ι3 _ σ (List.prefix_refl _) mm (sr3.write hq3 (by rw [e4]; trivial) ⟨_, upd_same, (RelL.set (.int (a0 + b)) m r4).mono (List.prefix_refl _) mm⟩) (rl3.mono (List.prefix_refl _) mm)
        · exact False.elim h3
      · exact False.elim h3
    · exact False.elim h2
  · exact False.elim h2
end
section
variable {ρ : Loc} {μ : Store} {Q : AV → Store → Prop} {D : Kt}
theorem w_shl {i j : Int} (h0 : 0 ≤ j) (h1 : j ≤ 1000) (h2 : i.natAbs < 18446744073709551616) (h : Q (.int (i * 2 ^ j.toNat)) μ) : wp (gShl (.int i) (.int j) μ) Q := by
  have e : (decide (0 ≤ j) && decide (j ≤ 1000) && decide (i.natAbs < 2 ^ 64)) = true := by
    simp only [Bool.and_eq_true, decide_eq_true_eq]
    exact ⟨⟨h0, h1⟩, h2⟩
  simp only [gShl]
  rw [if_pos e]
  exact h
theorem w_and {i j : Int} (h : Q (.int (Builtin.bitAnd i j)) μ) : wp (gAnd (.int i) (.int j) μ) Q := h
theorem o_subAdd {o i r : AE} (h : wp (o ρ μ) fun l μ1 => wp (i ρ μ1) fun j μ2 => ∃ n xs k a, l = .loc n ∧ j = .int k ∧ μ2[n]? = some (.lst xs) ∧ atI xs k = some (.int a) ∧ wp (r ρ μ2) fun v μ3 => ∃ ys b m, v = .int b ∧ μ3[n]? = some (.lst ys) ∧ ixN ys.length k = some m ∧ D.nx ρ (μ3.set n (.lst (ys.set m (.int (a + b)))))) : wo (sSubAdd o i r ρ μ) D := by
  unfold sSubAdd
  rw [wo_out]
  refine wp.mono h ?_
  intro l μ1 h1
  rw [wo_out]
  refine wp.mono h1 ?_
  rintro j μ2 ⟨n, xs, k, a, rfl, rfl, e3, e4, h2⟩
  have e5 : stL μ2 (.loc n) = some (n, xs) := by simp [stL, e3]
  simp only [e5, e4]
  rw [wo_out]
  refine wp.mono h2 ?_
  rintro v μ3 ⟨ys, b, m, rfl, f2, f3, h3⟩
  have e6 : stL μ3 (.loc n) = some (n, ys) := by simp [stL, f2]
  simp only [e6, f3]
  exact h3
end
end Lr
set_option maxHeartbeats 1000000
namespace Lr
open PySem PySem.Spec L2
open PyProof.Rows hiding St
def leP2 (p q : Int × Int) : Bool := !SrtO.lexB q p
def sortP (ps : List (Int × Int)) : List (Int × Int) := ps.mergeSort leP2
theorem leP2_iff {p q : Int × Int} : leP2 p q = true ↔ p.1 < q.1 ∨ (p.1 = q.1 ∧ p.2 ≤ q.2) := by
  unfold leP2
  rw [Bool.not_eq_true', Bool.eq_false_iff, Ne, SrtO.lexB_iff]
  omega
theorem leP2_trans (a b c : Int × Int) (h : leP2 a b = true) (g : leP2 b c = true) : leP2 a c = true := by
  rw [leP2_iff] at *
  omega
theorem leP2_total (a b : Int × Int) : (leP2 a b || leP2 b a) = true := by
  rw [Bool.or_eq_true, leP2_iff, leP2_iff]
  omega
theorem sortP_perm (ps : List (Int × Int)) : (sortP ps).Perm ps := List.mergeSort_perm ps leP2
theorem sortP_pw (ps : List (Int × Int)) : (sortP ps).Pairwise (fun a b => leP2 a b = true) := List.pairwise_mergeSort leP2_trans leP2_total ps
theorem sortP_eq {ys ks : List (Int × Int)} (h : ys.Perm ks) (g : ys.Pairwise (fun a b => leP2 a b = true)) : ys = sortP ks :=
  List.Perm.eq_of_pairwise (le := fun a b => leP2 a b = true) (fun a b _ _ h g => by
    rw [leP2_iff] at h g
    exact Prod.ext (by omega) (by omega)) g (sortP_pw ks) (h.trans (sortP_perm ks).symm)
section
variable {P : Program} {w : World} {A : Around} {E : Value → Shared → Prop} {s : Shared}
theorem sorted_pairs {T : String} {l : Addr} {o : Obj} {its : Array Value} {n : Nat} {k : Value → Int × Int} {Q : Value → Shared → Prop} (hT : T = "list" ∨ T = "tuple") (ho : s.heap.get? l = some o) (hc : o.cls = .type T) (hd : o.data = .seq its n) (hz : its.size ≤ 100000) (hp : ∀ v ∈ its.toList, Srt.IsPair s.heap v (k v).1 (k v).2)
    (hQ : ∀ (h1 h' : Heap) (out : List Value) (c : Nat), (∀ b o, s.heap.get? b = some o → h1.get? b = some o) → (∀ b o, h1.get? b = some o → h'.get? b = some o) →
      h'.get? h1.objs.size = some (seqObj "list" out.toArray c) → out.Perm its.toList → (out.map k) = sortP (its.toList.map k) → Q (.ref h1.objs.size) { s with heap := h' }) :
    wpAny (model P w) A (call (.builtin "sorted") [.ref l]) Q E s := by
  have hz2 : its.size ≤ sizeLine := by rw [sizeLine_eq]; omega
  refine Calls.call_function_entry kind_sorted plain_sorted entry_sorted (args_sorted1 _) ?_
  unfold Builtin.«sorted»
  refine wpAny_bind (m := checkCount "sorted" 1 1 _) (wpAny_pure ?_)
  refine wpAny_bind (wpAny_collect_seq (A := A.in1) l hT ho hc hd (fun h1 k1 => ?_) hz2)
  refine wpAny_bind (wpAny_newList ?_ (by rw [Array.length_toList]; exact hz2))
  have hoL : (h1.push (seqObj "list" its.toList.toArray 0)).get? h1.objs.size = some (seqObj "list" its.toList.toArray 0) := Heap.get?_push_size _ rfl
  refine wpAny_bind (wpAny_holding (wpAny_call_entry slot_list_sort ⟨_, hoL, rfl⟩ entry_list_sort
    (SrtO.list_sort_ord (SrtO.swo_lex k) hoL (by rw [Array.length_toList]; exact hz2) (fun h2 => SrtO.pairs_sortableO (k := k) (by omega) (fun v hv => (hp v hv).keeps fun b o e _ => ?_) fun o e => ?_) fun out a1 a2 => ⟨_, rfl, ?_⟩) (args_list_sort _)))
  · exact Heap.get?_push_of_some _ (k1 _ _ e)
  · rw [show o = seqObj "list" its.toList.toArray 0 from Option.some.inj (e.symm.trans hoL)]
    intro c
    exact absurd (Value.type.inj c) (by decide)
  obtain ⟨c, hc⟩ := sortedHeap_at (vs := its.toList) (out := out.toArray) hoL
  have hk : out.map k = sortP (its.toList.map k) := by
    refine sortP_eq (a2.perm.map k) ?_
    rw [List.pairwise_map]
    refine a1.imp fun {v u} h => ?_
    have h : SrtO.lexB (k u) (k v) = false := h
    show (!SrtO.lexB (k u) (k v)) = true
    rw [h]
    rfl
  refine wpAny_pure ⟨_, rfl, hQ h1 _ _ c k1 (fun b u q => ?_) hc a2.perm hk⟩
  have hlt := Heap.lt_size q
  show (sortedHeap (h1.push (seqObj "list" its.toList.toArray 0)) h1.objs.size its.toList _).get? b = some u
  rw [sortedHeap_old (Nat.ne_of_lt hlt) (by rw [size_push']; exact Nat.lt_succ_of_lt hlt)]
  exact Heap.get?_push_of_some _ q
end
def prAt (h : Heap) : Value → Int × Int
  | .ref a => match h.get? a with
    | some o => match o.data with
      | .seq its _ => match its.toList with
        | [.int i _, .int j _] => (i, j)
        | _ => (0, 0)
      | _ => (0, 0)
    | none => (0, 0)
  | _ => (0, 0)
theorem prAt_of {h : Heap} {v : Value} {i j : Int} (p : Srt.IsPair h v i j) : prAt h v = (i, j) := by
  obtain ⟨a, o, t, u, n, rfl, ho, _, hd⟩ := p
  simp [prAt, ho, hd]
section
variable {X : Cx} {κ : Kap} {k : Nat}
def pV (p : Int × Int) : AV := .tup [.int p.1, .int p.2]
def pairsI : List AV → Option (List (Int × Int))
  | [] => some []
  | .tup [.int i, .int j] :: r => (pairsI r).map ((i, j) :: ·)
  | _ => none
theorem pairsI_map : ∀ {xs : List AV} {ps : List (Int × Int)}, pairsI xs = some ps → xs = ps.map pV := by
  intro xs
  induction xs with
  | nil => intro ps h; cases h; rfl
  | cons x xs ih =>
    intro ps h
    unfold pairsI at h
    split at h
    · rename_i e; cases e
    · rename_i i j r e
      cases e
      obtain ⟨qs, h1, rfl⟩ := Option.map_eq_some_iff.mp h
      rw [ih h1]
      rfl
    · cases h
def gSortPr : FnN := fun as μ => match as with
  | [.tup xs] => match pairsI xs with
    | some ps => if ps.length ≤ 100000 then .ok ((sortP ps).map pV) μ else .bad
    | none => .bad
  | [x] => match lsOf μ x with
    | some xs => match pairsI xs with
      | some ps => if ps.length ≤ 100000 then .ok ((sortP ps).map pV) μ else .bad
      | none => .bad
    | none => .bad
  | _ => .bad
theorem pair_vals {K : PySem.W.Frag} {ι : List Addr} {H : Hp} {σ : St} {pins : List (Addr × Obj)} {s : Shared} (I : Inv X pins σ H s) (hK : K = X.K) : ∀ {ps : List (Int × Int)} {xs : List V} {us : List Value}, RelL K κ ι H (ps.map pV) xs → Vals xs us → (∀ u ∈ us, Srt.IsPair s.heap u (prAt s.heap u).1 (prAt s.heap u).2 ∧ Rel K κ ι H (pV (prAt s.heap u)) (backV u) ∧ RelV (backV u) u) ∧ us.map (prAt s.heap) = ps
  | [], _, _, .nil, .nil => ⟨fun u h => (nomatch h), rfl⟩
  | p :: ps, _, _, .cons r1 r2, .cons (b := u) ru rs => by
    obtain ⟨h1, h2⟩ := pair_vals I hK r2 rs
    have hp : Srt.IsPair s.heap u p.1 p.2 ∧ Rel K κ ι H (pV p) (backV u) ∧ RelV (backV u) u := by
      subst hK
      cases r1 with
      | tup hq rr =>
        rename_i a vs
        obtain rfl : u = Value.ref a := ru
        cases rr with
        | cons q1 q2 =>
          cases q2 with
          | cons q2 q3 =>
            cases q3
            cases q1
            cases q2
            obtain ⟨its, rv, ⟨o, ho, hc, n, hd⟩, hz⟩ := I.tuple hq
            obtain ⟨u1, u2, rfl, ri, rj⟩ := vals2 rv
            obtain ⟨t1, rfl⟩ := ri
            obtain ⟨t2, rfl⟩ := rj
            exact ⟨⟨a, o, t1, t2, n, rfl, ho, hc, hd⟩, .tup hq (.cons (.int _) (.cons (.int _) .nil)), rfl⟩
    have e : prAt s.heap u = p := prAt_of hp.1
    refine ⟨fun w hw => ?_, by rw [List.map_cons, e, h2]⟩
    rcases List.mem_cons.mp hw with rfl | hw
    · rw [e]
      exact hp
    · exact h1 w hw
theorem relL_back {K : PySem.W.Frag} {ι : List Addr} {H : Hp} {kk : Value → Int × Int} : ∀ {out : List Value}, (∀ u ∈ out, Rel K κ ι H (pV (kk u)) (backV u)) → RelL K κ ι H ((out.map kk).map pV) (out.map backV)
  | [], _ => .nil
  | u :: out, h => .cons (h u (.head _)) (relL_back fun w hw => h w (.tail _ hw))
theorem valsBack : ∀ {out : List Value}, (∀ u ∈ out, RelV (backV u) u) → Vals (out.map backV) out
  | [], _ => .nil
  | u :: out, h => .cons (h u (.head _)) (valsBack fun w hw => h w (.tail _ hw))
theorem sortPr_run {pins : List (Addr × Obj)} {s : Shared} {σ : St} {H : Hp} {Q : VK} {ι : List Addr} {T : String} {a : Addr} {o : Obj} {its : List Value} {n : Nat} {ps : List (Int × Int)} {xs : List V} (hc : X.calm = true) (I : Inv X pins σ H s) (rl : RelL X.K κ ι H (ps.map pV) xs) (rv : Vals xs its) (hT : T = "list" ∨ T = "tuple") (ho : s.heap.get? a = some o) (hcl : o.cls = .type T) (hd : o.data = .seq its.toArray n) (hz : ps.length ≤ 100000)
    (h : ∀ (q : Addr) (ys : List V), H q = none → RelL X.K κ ι H ((sortP ps).map pV) ys → Q (.ref q) (L2.upd H q (.lst ys))) : wpAny (model X.prog X.w) X.A (call (.builtin "sorted") [.ref a]) (EP X pins σ Q) X.xe s := by
  obtain ⟨g1, g2⟩ := pair_vals I rfl rl rv
  have hl : its.length = ps.length := by rw [← g2, List.length_map]
  refine sorted_pairs (k := prAt s.heap) hT ho hcl hd (by simpa using (by omega : its.length ≤ 100000)) (fun v hv => (g1 v (by simpa using hv)).1) fun h1 h' out c k1 k2 hg hp hs => ?_
  have hp : out.Perm its := by simpa using hp
  have hs : out.map (prAt s.heap) = sortP ps := by rw [hs, ← g2]
  have g3 : ∀ u ∈ out, Rel X.K κ ι H (pV (prAt s.heap u)) (backV u) ∧ RelV (backV u) u := fun u hu => (g1 u (hp.mem_iff.mp hu)).2
  have hlen : (out.map backV).length ≤ sizeLine := by rw [List.length_map, hp.length_eq, sizeLine_eq]; omega
  have I1 : Inv X pins σ H { s with heap := h1, toks := s.toks } := I.kept k1
  have hn : H h1.objs.size = none := I1.hok.fresh (Nat.le_refl _)
  have J : Inv X pins σ (L2.upd H h1.objs.size (.lst (out.map backV))) { s with heap := h', toks := s.toks } := I1.laid (t' := s.toks) k2 (Nat.le_refl _) ⟨hlen, out, c, valsBack fun u hu => (g3 u hu).2, hg⟩
  refine ⟨.ref h1.objs.size, _, J, rfl, h _ _ hn ?_⟩
  rw [← hs]
  exact relL_back fun u hu => (g3 u hu).1
theorem cn_sortPr (cl : Cl X k) : CallN κ X (.builtin "sorted") gSortPr := fun W tk pins s σ H xs us Q I r hh => by
  obtain ⟨σ0, ι₀, H₀, μ₀, ι, μ, as, sr₀, m, sr, rl, h⟩ := hh
  unfold gSortPr at h
  split at h
  · split at h
    · rename_i xs2 _ ps e2
      split at h
      · rename_i hz
        have e3 := pairsI_map e2
        subst e3
        cases rl with
        | cons r1 r2 =>
          cases r2
          cases r1 with
          | tup hq rv =>
            rename_i a vs
            obtain ⟨its, rw', ⟨o, ho, hc, n, hd⟩, _⟩ := I.tuple hq
            rw [Vals.ref1 r]
            exact sortPr_run cl.calm I rv rw' (.inr rfl) ho hc hd hz fun q ys hn ry => okNew sr₀ sr m h ry hn
      · exact False.elim h
    · exact False.elim h
  · split at h
    · split at h
      · rename_i x _ _ xs2 e1 _ ps e2
        split at h
        · rename_i hz
          have e3 := pairsI_map e2
          subst e3
          cases rl with
          | cons r1 r2 =>
            cases r2
            obtain ⟨p, vs, rfl, hq, rv⟩ := ls_rel sr r1 e1
            obtain ⟨its, rw', ⟨o, n, ho, hc, _, hd⟩, _⟩ := I.list hq
            rw [Vals.ref1 r]
            exact sortPr_run cl.calm I rv rw' (.inl rfl) ho hc hd hz fun q ys hn ry => okNew sr₀ sr m h ry hn
        · exact False.elim h
      · exact False.elim h
    · exact False.elim h
  · exact False.elim h
theorem pairsI_of : ∀ ps : List (Int × Int), pairsI (ps.map pV) = some ps
  | [] => rfl
  | p :: ps => by
    show (pairsI (ps.map pV)).map _ = _
    rw [pairsI_of ps]
    rfl
theorem w_sortPrT {ps : List (Int × Int)} {μ : Store} {QL : List AV → Store → Prop} (hz : ps.length ≤ 100000) (h : QL ((sortP ps).map pV) μ) : wp (gSortPr [.tup (ps.map pV)] μ) QL := by
  unfold gSortPr
  simp only [pairsI_of]
  rw [if_pos hz]
  exact h
end
end Lr
set_option maxHeartbeats 2000000
namespace Lr
open PySem PySem.Spec L2
open PyProof.Rows hiding St
def insN (L : List Int) (k : Int) : List Int := if k ∈ L then L else L ++ [k]
abbrev NsO (w : World) (a : Addr) (L : List Int) : HO := SetO w a (fun j => decide (j ∈ L)) L.length
theorem nsO_ins {w : World} {a : Addr} {L : List Int} {k : Int} : SetO w a (fun j => decide (j ∈ L) || decide (j = k)) (if decide (k ∈ L) = true then L.length else L.length + 1) = NsO w a (insN L k) := by
  have e : (fun j => decide (j ∈ L) || decide (j = k)) = fun j => decide (j ∈ insN L k) := by
    funext j
    unfold insN
    by_cases z : k ∈ L
    · rw [if_pos z]
      by_cases y : j = k
      · subst y
        simp [z]
      · simp [y]
    · rw [if_neg z]
      simp
  have e2 : (if decide (k ∈ L) = true then L.length else L.length + 1) = (insN L k).length := by
    unfold insN
    by_cases z : k ∈ L
    · rw [if_pos z, if_pos (by simpa using z)]
    · rw [if_neg z, if_neg (by simpa using z), List.length_append, List.length_singleton]
  rw [e, e2]
section
variable {X : Cx}
theorem put_Ns {pins : List (Addr × Obj)} {σ : St} {H : Hp} {s : Shared} {E : Value → Shared → Prop} {D : Addr} {L : List Int} {k : Int} {u : Tok} {Q : Value → Shared → Prop} (I : Inv X pins σ H s) (hD : H D = some (NsO X.w D L)) (room : L.length + 1 < scanBound)
    (q : ∀ t, Inv X pins σ (L2.upd H D (NsO X.w D (insN L k))) t → Q .none t) : wpAny (model X.prog X.w) X.A (call (.builtin "set.add") [.ref D, .int k u]) Q E s := by
  refine setR_add (setO_get I hD) room fun g sb R2 => ?_
  have he : ∃ o, g.get? D = some o := by
    have ⟨o, _, _, _, ho, _⟩ := R2
    exact ⟨o, ho⟩
  have J := I.write (e := D) (t' := s.toks + 1) (by rw [hD]; trivial) (.inl rfl) (fun b o hb ho => (sb.2 b hb).trans ho) he (setO_new R2)
  rw [nsO_ins] at J
  exact q _ J
end
def PutNs (X : Cx) (D : Addr) (y : V) (G : Hp) (Nx : Hp → Prop) : Prop := ∃ (k : Int) (L : List Int), y = .int k ∧ G D = some (NsO X.w D L) ∧ L.length + 1 < scanBound ∧ Nx (L2.upd G D (NsO X.w D (insN L k)))
def tSc1 (X : Cx) (wi : TI) (g : TG) (tt : TT) (te : TE) (vs : List Nat) : TE := fun σ H Q => wi σ H fun J Ha => ∀ D, Ha D = none → ∃ W : Nat → Nat → Hp → Prop, (∃ m, W 0 m (L2.upd Ha D (SetO X.w D (fun _ => false) 0))) ∧ ∀ i m G, W i m G →
  (J.stop i G ∧ Q (.ref D) G) ∨ (J.go i G ∧ ∃ Nx : Hp → Prop, (∀ G', Nx G' → ∃ m', m' < m ∧ W (i + 1) m' G') ∧ ∀ x G', J.yld i G x G' → g x (L2.wipe σ vs) G' fun τ Gb => L2.wipe τ vs = L2.wipe σ vs ∧ tt τ Gb fun b Gc =>
    if b = true then te τ Gc fun y Gg => PutNs X D y Gg Nx else Nx Gc)
section
variable {X : Cx} {κ : Kap} {k : Nat} {elt tg iter : Expr} {fs : List Expr} {scope : Scope} {own : List (Str × Nat)} {pos : Pos} {wi : TI} {g : TG} {tt : TT} {te : TE}
theorem sc1_core {use : Option (Value → Sem Unit)} {Qf : Value → Shared → Prop} {pins : List (Addr × Obj)} {s : Shared} {σ : St} {H : Hp} {Q : VK} {pos' : Pos} (cl : Cl X k) (I : Inv X pins σ H s) (hi : PI X tg iter wi) (ok : BlkOk X.N X.env.scope scope own)
    (hg : ∀ (t : Shared) (G : Hp) (C : Addr) (d : List (Str × Addr)) (fp : List Addr), L2.PG (X.blk t G scope (compEnvC scope d C X.env) fp) tg g)
    (ht : ∀ (t : Shared) (G : Hp) (C : Addr) (d : List (Str × Addr)) (fp : List Addr), PTs (X.blk t G scope (compEnvC scope d C X.env) fp) fs tt)
    (he : ∀ (t : Shared) (G : Hp) (C : Addr) (d : List (Str × Addr)) (fp : List Addr), PE (X.blk t G scope (compEnvC scope d C X.env) fp) elt te)
    (hs : ∀ x, foldedSetIterable iter X.env x = pure x) (h : tSc1 X wi g tt te (own.map (·.2)) σ H Q)
    (hend : ∀ D C t m G, Inv X pins σ G t → Q (.ref D) G → t.heap.Ns C m → FpOk X pins G C → compPost (model X.prog X.w) X.A X.xe use Qf (.ref D) C (.ok .next) t) :
    wpAny (model X.prog X.w) X.A (comprehension (.SetComp elt [⟨tg, iter, fs, 0⟩] scope pos) scope X.env pos' (newSet (.type "set")) false (eval iter X.env) use) Qf X.xe s := by
  have cells : ∀ y ∈ scope.names, y.2 = .free → ∃ c, X.env.cells.lookup y.1 = some c := fun y hy e => I.ok.has _ (ok.free y hy e)
  refine wpAny_comprehension_free (use := use) rfl hs (closure_ok cells) ok.kind (fun y hy e => by rw [ok.uniq y hy, e]) (thn (hi.run pins s σ H _ I h) fun xv ta hx => thn hx fun itv tb hb => ?_)
  obtain ⟨it, fp, tn, J, Hb, rfl, Ib, T, stb, fb, q⟩ := hb
  refine PpSet.newSet_ok (newEnv_comp ?_)
  have hnone : Hb tb.heap.objs.size = none := Ib.hok.fresh (Nat.le_refl _)
  have Ic0 : Inv X pins σ (L2.upd Hb tb.heap.objs.size (SetO X.w tb.heap.objs.size (fun _ => false) 0)) { tb with heap := tb.heap.push (set0 X.w) } :=
    Ib.laid (t' := tb.toks) (fun b o e => Heap.get?_push_of_some _ e) (Nat.le_refl _) (setO_new (setR_fresh X.w))
  have small : ∀ b ∈ fp, b < tb.heap.objs.size := fun b hb => let ⟨_, e, _⟩ := T.obj _ _ stb b hb; Heap.lt_size e
  have kpush : ∀ b o, tb.heap.get? b = some o → (tb.heap.push (set0 X.w)).get? b = some o := fun b o e => Heap.get?_push_of_some _ e
  have psize : (tb.heap.push (set0 X.w)).objs.size = tb.heap.objs.size + 1 := Heap.size_push ..
  have eset : (tb.heap.push { cls := .type "set", dict := none, data := .set #[] 0 (.fresh 0 0 (!X.w.params.followText "set-order")) }) = tb.heap.push (set0 X.w) := rfl
  rw [eset]
  generalize hD : tb.heap.objs.size = D at hnone Ic0 small psize
  obtain ⟨W, ⟨m0, w0⟩, turn⟩ := q D hnone
  generalize htc : ({ tb with heap := tb.heap.push (set0 X.w) } : Shared) = tc at Ic0
  have htc2 : tc.heap = tb.heap.push (set0 X.w) := by rw [← htc]
  rw [← htc2] at kpush psize
  generalize hHc : L2.upd Hb D (SetO X.w D (fun _ => false) 0) = Hc at Ic0 w0
  have fc : ∀ b ∈ fp, FpOk X pins Hc b ∧ b < tc.heap.objs.size := fun b hb => by
    refine ⟨⟨?_, (fb b hb).2⟩, by rw [psize]; exact Nat.lt_succ_of_lt (small b hb)⟩
    rw [← hHc, upd_ne (Nat.ne_of_lt (small b hb))]
    exact (fb b hb).1
  have Id := block_start Ic0 ok cl.nd fc
  have qg := hg tc Hc tc.heap.objs.size (cellsFrom (tc.heap.objs.size + 1) scope.names (cloFrom X.env.cells scope.names [])) fp
  have qt := ht tc Hc tc.heap.objs.size (cellsFrom (tc.heap.objs.size + 1) scope.names (cloFrom X.env.cells scope.names [])) fp
  have qe := he tc Hc tc.heap.objs.size (cellsFrom (tc.heap.objs.size + 1) scope.names (cloFrom X.env.cells scope.names [])) fp
  have goal : codeAny (model X.prog X.w) X.A (.compStart (.SetComp elt [⟨tg, iter, fs, 0⟩] scope pos) 0 (.ref it) (.ref D) (compEnvC scope (cellsFrom (tc.heap.objs.size + 1) scope.names (cloFrom X.env.cells scope.names [])) tc.heap.objs.size X.env)) (compPost (model X.prog X.w) X.A X.xe use Qf (.ref D) tc.heap.objs.size)
      { tc with heap := pushCells (tc.heap.push { cls := .type "dict", data := .dict #[] }) scope.names } := by
    have clean : ∀ b ∈ fp, Hc b = none := fun b hb => (fc b hb).1.1
    generalize hce : compEnvC scope (cellsFrom (tc.heap.objs.size + 1) scope.names (cloFrom X.env.cells scope.names [])) tc.heap.objs.size X.env = ce at Id qg qt qe ⊢
    have hloc : ce.locals = tc.heap.objs.size := by subst hce; rfl
    generalize htd : ({ tc with heap := pushCells (tc.heap.push { cls := .type "dict", data := .dict #[] }) scope.names } : Shared) = td at Id ⊢
    have std : tn 0 td.heap := T.keep _ _ _ stb fun b _ o e => by rw [← htd]; exact pushCells_keeps _ _ _ _ (Heap.get?_push_of_some _ (kpush b o e))
    have hold : ∀ {τ : St} {G : Hp} {t : Shared}, Inv (X.blk tc Hc scope ce fp) [] τ G t → (∀ b ∈ fp, G b = none) → ∀ b ∈ fp, FpOk (X.blk tc Hc scope ce fp) [] G b := fun {τ G t} J hn b hb =>
      ⟨hn b hb, (J.ok.exf b hb).1, J.ok.exfs b hb, .inl hb, fun x c e => (J.ok.exf b hb).2 x c e, fun p hp => by simp at hp⟩
    have lp : codeAny (model X.prog X.w) X.A (.compLoop (.SetComp elt [⟨tg, iter, fs, 0⟩] scope pos) 0 (.ref it) (.ref D) ce) (compPost (model X.prog X.w) X.A X.xe use Qf (.ref D) tc.heap.objs.size) td := by
      refine PpSet.compLoopS_any (fun n t => ∃ i G, Inv (X.blk tc Hc scope ce fp) [] (L2.wipe σ (own.map (·.2))) G t ∧ tn i t.heap ∧ (∀ b ∈ fp, G b = none) ∧ W i n G) ?_ m0 ⟨0, Hc, Id, std, clean, w0⟩
      rintro n te' ⟨i, He, Ie, ste, ne, we⟩
      rcases turn i n He we with ⟨hstop, hQ⟩ | ⟨hgo, Nx, hNx, body⟩
      · refine thnF (T.done (X.blk tc Hc scope ce fp) rfl rfl rfl cl.calm i [] te' _ He (fun _ _ => False) Ie (hold Ie ne) ste hstop) fun r tf ⟨hr, If⟩ => ?_
        subst hr
        have Iz : Inv X pins σ He tf := Ic0.call' (ch := fp) If.os If.base If.hok If.bare fun b hb => let f := (fc b hb).1; ⟨f.2.2.2.1, f.2.1, f.2.2.2.2.1, f.2.2.2.2.2⟩
        obtain ⟨mm, hns, _⟩ := If.loc
        have hns : tf.heap.Ns ce.locals mm := hns
        have hfree : He ce.locals = none := If.free
        rw [hloc] at hns hfree
        exact hend D tc.heap.objs.size tf mm He Iz hQ hns (Ic0.fpOk (Nat.le_refl _) hfree)
      · refine thnF (T.item (X.blk tc Hc scope ce fp) rfl rfl rfl cl.calm i [] te' _ He (fun _ _ => False) Ie (hold Ie ne) ste hgo) fun r tf ⟨u, hr, hu⟩ => ?_
        subst hr
        refine thnF hu fun _ tg' ⟨x, Hg, Ig, rx, yx, stg, ng⟩ => ?_
        refine thnF (qg.run _ tg' _ Hg x u _ (Ig.pinned (hold Ig ng) (T.obj _ _ stg)) rx (body x Hg yx)) fun _ th ⟨τ, Hh, Ih, hw, qh⟩ => ?_
        refine thnF (qt.run _ th τ Hh _ Ih qh) fun b tj' ⟨Hj, Ij, qj'⟩ => ?_
        have fin : ∀ {τ' : St} {t : Shared} {G : Hp}, Inv (X.blk tc Hc scope ce fp) ([] ++ pinsAt fp tg'.heap) τ' G t → (L2.wipe σ (own.map (·.2))).length = τ'.length → (∀ (l : Nat) v, (L2.wipe σ (own.map (·.2)))[l]? = some (some v) → τ'[l]? = some (some v)) → Nx G →
            ∃ m, m < n ∧ ∃ i G, Inv (X.blk tc Hc scope ce fp) [] (L2.wipe σ (own.map (·.2))) G t ∧ tn i t.heap ∧ (∀ b ∈ fp, G b = none) ∧ W i m G := fun {τ' t G} J hlen hkeep nx => by
          obtain ⟨m', hm, w'⟩ := hNx G nx
          have pinned : ∀ b ∈ fp, ∀ o, tg'.heap.get? b = some o → t.heap.get? b = some o ∧ G b = none := fun b hb o e =>
            have z := J.pin (b, o) (List.mem_append_right _ (List.mem_append_right _ (mem_pinsAt hb e)))
            ⟨z.1, z.2.1⟩
          refine ⟨m', hm, i + 1, G, (J.unpinned (pins := [])).weak hlen hkeep, T.keep _ _ _ stg fun b hb o e => (pinned b hb o e).1, fun b hb => ?_, w'⟩
          obtain ⟨o, e, _⟩ := T.obj _ _ stg b hb
          exact (pinned b hb o e).2
        have len8 : (L2.wipe σ (own.map (·.2))).length = τ.length := by rw [← hw, wipe_length]
        have keep8 : ∀ (l : Nat) v, (L2.wipe σ (own.map (·.2)))[l]? = some (some v) → τ[l]? = some (some v) := fun l v e => by
          rw [← hw] at e
          exact (wipe_some e).1
        cases b with
        | false =>
          simp only [Bool.false_eq_true, if_false] at qj' ⊢
          exact fin Ij len8 keep8 qj'
        | true =>
          simp only [if_true] at qj' ⊢
          refine thnF (qe.run _ tj' τ Hj _ Ij qj') fun zv tr ⟨y, Hr, Ir, ry, kx, L, ey, hD2, room, nx⟩ => ?_
          subst ey
          obtain ⟨tok, rfl⟩ := ry
          exact put_Ns (X := X.blk tc Hc scope ce fp) Ir hD2 room fun t It => fin It len8 keep8 nx
    exact PpSet.codeAny_compStart_set lp (T.self X.A 0 _ _ _ std lp)
  exact goal
theorem pe_sc1 (cl : Cl X k) (hi : PI X tg iter wi) (ok : BlkOk X.N X.env.scope scope own)
    (hg : ∀ (t : Shared) (G : Hp) (C : Addr) (d : List (Str × Addr)) (fp : List Addr), L2.PG (X.blk t G scope (compEnvC scope d C X.env) fp) tg g)
    (ht : ∀ (t : Shared) (G : Hp) (C : Addr) (d : List (Str × Addr)) (fp : List Addr), PTs (X.blk t G scope (compEnvC scope d C X.env) fp) fs tt)
    (he : ∀ (t : Shared) (G : Hp) (C : Addr) (d : List (Str × Addr)) (fp : List Addr), PE (X.blk t G scope (compEnvC scope d C X.env) fp) elt te)
    (hs : ∀ x, foldedSetIterable iter X.env x = pure x := by intro _; rfl) :
    PE X (.SetComp elt [⟨tg, iter, fs, 0⟩] scope pos) (tSc1 X wi g tt te (own.map (·.2))) := by
  refine ⟨fun pins s σ H Q I h => ?_⟩
  rw [PpSet.eval_SetComp]
  refine sc1_core cl I hi ok hg ht he hs h fun D C t m G J q hn f => ⟨m, hn, fun g2 sb => ?_⟩
  obtain ⟨f0, f1, f2, f3, f4, f5⟩ := f
  exact ⟨.ref D, G, J.turned (t' := t.toks) (fun b o hb e => (sb.2 b hb).trans e) f0 f1 f3 f4 f5, rfl, q⟩
end
end Lr
set_option maxHeartbeats 2000000
namespace Lr
open PySem PySem.Spec L2
open PyProof.Rows hiding St
theorem intsOf_ivK : ∀ l : List Int, intsOf (l.map AV.int) = some l
  | [] => rfl
  | x :: l => by rw [List.map_cons]; unfold intsOf; rw [intsOf_ivK l]; rfl
theorem noE_ns (w : World) (a : Addr) (L : List Int) : NoE (some (NsO w a L)) := fun c q e => by
  injection e with e
  let oc : Obj := { cls := .none, data := .fields #[.none, .str q 0] }
  let h : Heap := { objs := Array.replicate (a + c + 1) oc }
  have g : ∀ b, b < a + c + 1 → h.get? b = some oc := fun b hb => by
    simp [h, Heap.get?, hb]
    rfl
  have h1 : SetR w h a (fun j => decide (j ∈ L)) L.length := (congrFun e h).mpr ⟨oc, _, _, g c (Nat.lt_succ_of_le (Nat.le_add_left _ _)), rfl, rfl⟩
  obtain ⟨o, es, ep, t, h2, h3, _⟩ := h1
  rw [g a (Nat.lt_succ_of_le (Nat.le_add_right _ _))] at h2
  have h2 := Option.some.inj h2
  subst h2
  have z : Value.none = Value.type "set" := by first | exact h3 | exact h3.1
  cases z
def setNL (ns : List Int) : List Int := ns.foldl insN []
theorem setNL_snoc (ns : List Int) (k : Int) : setNL (ns ++ [k]) = insN (setNL ns) k := by
  unfold setNL
  rw [List.foldl_append]
  rfl
theorem setNL_aux : ∀ (ns acc : List Int), acc.Nodup → (ns.foldl insN acc).Nodup ∧ (∀ k, k ∈ ns.foldl insN acc ↔ k ∈ acc ∨ k ∈ ns) ∧ (ns.foldl insN acc).length ≤ acc.length + ns.length
  | [], acc, h => ⟨h, fun k => by simp, Nat.le_refl _⟩
  | x :: r, acc, h => by
    have h1 : (insN acc x).Nodup ∧ (∀ k, k ∈ insN acc x ↔ k ∈ acc ∨ k = x) ∧ (insN acc x).length ≤ acc.length + 1 := by
      unfold insN
      by_cases z : x ∈ acc
      · rw [if_pos z]
        exact ⟨h, fun k => ⟨.inl, fun q => q.elim id fun e => e ▸ z⟩, Nat.le_succ _⟩
      · rw [if_neg z]
        refine ⟨List.nodup_append.mpr ⟨h, by simp, fun a ha b hb e => ?_⟩, fun k => by simp, by simp⟩
        rw [List.mem_singleton.mp hb] at e
        exact z (e ▸ ha)
    obtain ⟨g1, g2, g3⟩ := setNL_aux r (insN acc x) h1.1
    refine ⟨g1, fun k => ?_, ?_⟩
    · rw [List.foldl_cons, g2, h1.2.1, List.mem_cons, or_assoc]
    · rw [List.foldl_cons, List.length_cons]
      have := h1.2.2
      omega
theorem mem_setNL {ns : List Int} {k : Int} : k ∈ setNL ns ↔ k ∈ ns := by
  unfold setNL
  rw [(setNL_aux ns [] .nil).2.1]
  simp
theorem setNL_len (ns : List Int) : (setNL ns).length ≤ ns.length := by
  have := (setNL_aux ns [] .nil).2.2
  simpa [setNL] using this
abbrev ANt := Lr.Loc → Store → Res (List Int)
abbrev CNt (X : Cx) (H : Hp) (Q : VK) : List Int → List Addr → Hp → Prop := fun ns ι' H' => ∀ a : Addr, H' a = some (NsO X.w a (setNL ns)) → a ∉ ι' → H a = none → Q (.ref a) H'
def DNt (κ : Kap) (X : Cx) (e : Expr) (r : ANt) : Prop := ∀ W, Takes X W → ∃ t, PE X e t ∧ ∀ σ H Q ι ρ μ, SR X.K κ ι μ H → RelS X.K κ ι H ρ σ → PG X.K κ W σ ι H (CNt X H Q) (r ρ μ) → t σ H Q
def finN (vs : List AV) (μ : Store) : Res (List Int) := match intsOf vs with
  | some ns => if ns.length ≤ 4000 then .ok ns μ else .bad
  | none => .bad
def aSc1 (it : AI) (vs : List Nat) (g : AG) (tt : AT) (te : AE) : ANt := fun ρ μ => (aLc it vs g tt te ρ μ).bind finN
theorem finN_ok {ks : List Int} {μ : Store} (h : ks.length ≤ 4000) : finN (ks.map AV.int) μ = .ok ks μ := by
  unfold finN
  rw [intsOf_ivK]
  dsimp only
  rw [if_pos h]
section
variable {K : PySem.W.Frag} {κ : Kap}
theorem fin_int {W : WX} {σ : St} {ι : List Addr} {H : Hp} {C : List Int → List Addr → Hp → Prop} {r : Res (List AV)} {ks : List Int} {y : AV} (h : PG K κ W σ ι H C (r.bind finN)) (p : NoxP (ks.map AV.int ++ [y]) r) : ∃ k, y = .int k ∧ ks.length + 1 ≤ 4000 := by
  rcases p with rfl | ⟨out, μ, rfl, q⟩
  · exact False.elim h
  · rw [Res.bind_ok] at h
    unfold finN at h
    cases e : intsOf out with
    | none => rw [e] at h; exact False.elim h
    | some ns =>
      rw [e] at h
      dsimp only at h
      split at h
      · rename_i hz
        have e2 := ints_mapA e
        subst e2
        have hl : (ks.map AV.int ++ [y]).length ≤ (ns.map AV.int).length := q.length_le
        rw [List.length_append, List.length_map, List.length_map, List.length_singleton] at hl
        obtain ⟨z, hz2⟩ := q
        have e3 : (ns.map AV.int)[ks.length]? = some y := by
          rw [← hz2, List.getElem?_append_left (by simp), List.getElem?_append_right (by simp)]
          simp
        rw [List.getElem?_map] at e3
        obtain ⟨k, _, e4⟩ := Option.map_eq_some_iff.mp e3
        exact ⟨k, e4.symm, by omega⟩
      · exact False.elim h
end
section
variable {κ : Kap} {X : Cx} {k : Nat} {elt tg iter : Expr} {ifs : List Expr} {scope : Scope} {own : List (Str × Nat)} {it : AI} {is : List Nat} {g : AG} {tt : AT} {te : AE} {pos : Pos}
theorem im_sc1 {wi : TI} {W : WX} {vs : List Nat} (hv : ∀ i ∈ is, i ∈ vs) (hw : ∀ (σ : St) (H : Hp) (R : It → Hp → Prop) (ι : List Addr) (ρ : Loc) (μ : Store), SR X.K κ ι μ H → RelS X.K κ ι H ρ σ → PG X.K κ W σ ι H (fun src ι' H' => ∀ J, JR X.K κ ι' H' src J → R J H') (it ρ μ) → wi σ H R) :
    ∀ σ H Q ι ρ μ, SR X.K κ ι μ H → RelS X.K κ ι H ρ σ → PG X.K κ W σ ι H (CNt X H Q) (aSc1 it vs g tt te ρ μ) →
      tSc1 X wi (kG X.K κ is g) (kT X.K κ W0 tt) (kE X.K κ W0 te) vs σ H Q := fun σ H Q ι ρ μ sr rl h => by
  unfold aSc1 aLc at h
  rw [res_bind3] at h
  refine hw σ H _ ι ρ μ sr rl (PG.bind0 h fun src μ1 ι1 H1 p1 m1 sr1 h1 J hJ D hD => ?_)
  have hD0 : H D = none := by
    cases e : H D with
    | none => rfl
    | some u =>
      by_cases z : D ∈ ι
      · exact absurd hD (sr1.on D (p1.subset z))
      · exact absurd hD (m1.live z e)
  have e0 : (SetO X.w D (fun _ => false) 0) = NsO X.w D (setNL []) := by
    have : (fun _ : Int => false) = fun j => decide (j ∈ setNL []) := by
      funext j
      simp [setNL]
    rw [this]
    rfl
  rw [e0]
  refine ⟨fun i m H' => ∃ (ι' : List Addr) (ks : List Int) (μ' : Store), HM ι1 H1 ι' H' ∧ SR X.K κ ι' μ' H' ∧ D ∉ ι' ∧ H' D = some (NsO X.w D (setNL ks)) ∧ ks.length ≤ 4000 ∧
    PG X.K κ W σ ι H (CNt X H Q) ((lcF g tt te src m i (wipeA ρ vs) (ks.map AV.int) μ').bind finN),
    ⟨FUEL, ι1, [], μ1, HM.fresh hD, sr1.new hD, sr1.notin hD, upd_same, by simp, h1⟩, ?_⟩
  rintro i m H' ⟨ι', ks, μ', hm, sr', hn, eD, hks, h'⟩
  cases m with
  | zero => exact False.elim h'
  | succ m =>
    have hj := hJ i ι' H' μ' hm.v sr'
    unfold lcF at h'
    cases e : src.at i μ' with
    | none => rw [e] at h'; exact False.elim h'
    | some o =>
      rw [e] at h' hj
      cases o with
      | none =>
        dsimp only at h'
        rw [Res.bind_ok, finN_ok hks] at h'
        exact .inl ⟨hj, h' ι' H' (p1.trans hm.pre) (m1.trans hm) sr' D eD hn hD0⟩
      | some v =>
        simp only at h' hj
        cases eg : g v (wipeA ρ vs) with
        | none => rw [eg] at h'; exact False.elim h'
        | some ρ1 =>
          rw [eg] at h'
          simp only at h'
          rw [res_bind3] at h'
          refine .inr ⟨hj.1, fun H2 => ∃ (ι2 : List Addr) (ks2 : List Int) (μ2 : Store), HM ι1 H1 ι2 H2 ∧ SR X.K κ ι2 μ2 H2 ∧ D ∉ ι2 ∧ H2 D = some (NsO X.w D (setNL ks2)) ∧ ks2.length ≤ 4000 ∧
            PG X.K κ W σ ι H (CNt X H Q) ((lcF g tt te src m (i + 1) (wipeA ρ vs) (ks2.map AV.int) μ2).bind finN), fun H2 z => ⟨m, Nat.lt_succ_self _, z⟩, fun x H2 hy => ?_⟩
          obtain ⟨m2, sr2, rx⟩ := hj.2 x H2 hy
          have rw2 : RelS X.K κ ι' H2 (wipeA ρ vs) (L2.wipe σ vs) := ((rl.mono p1 m1).mono hm.pre hm).wipe vs |>.mono (List.prefix_refl _) m2
          refine ⟨ι', v, wipeA ρ vs, ρ1, rw2, rx, eg, fun σ2 rl2 hwp => ⟨?_, ?_⟩⟩
          · have z := hwp vs hv
            rw [z]
            exact wipe_twice
          · refine ⟨ι', ρ1, μ', sr2, rl2, PG.nox (PG.bindF (m1.trans (hm.trans m2)) h' fun b μ3 ι3 H3 p3 m3 sr3 h3 => ?_)⟩
            have hm3 := (hm.trans m2).trans m3
            have eD2 : H2 D = some (NsO X.w D (setNL ks)) := m2.oth D _ hn eD
            have eD3 : H3 D = some (NsO X.w D (setNL ks)) := m3.oth D _ hn eD2
            have hn3 : D ∉ ι3 := fun z => by
              have := m3.new D z hn
              rw [eD2] at this; cases this
            cases b with
            | false =>
              refine iteF ⟨ι3, ks, μ3, hm3, sr3, hn3, eD3, hks, ?_⟩
              simpa using h3
            | true =>
              rw [if_pos rfl, res_bind3] at h3
              refine iteT ⟨ι3, ρ1, μ3, sr3, rl2.mono p3 m3, PG.nox (PG.bindF (m1.trans hm3) h3 fun y μ8 ι8 H8 p8 m8 sr8 h8 yv ry => ?_)⟩
              have eD8 : H8 D = some (NsO X.w D (setNL ks)) := m8.oth D _ hn3 eD3
              have hn8 : D ∉ ι8 := fun z => by
                have := m8.new D z hn3
                rw [eD3] at this; cases this
              have hm8 := hm3.trans m8
              by_cases hz : (ks.map AV.int).length < 16777216
              · rw [if_pos hz] at h8
                obtain ⟨yk, ey, hlen⟩ := fin_int h8 (lcF_pre g tt te src _ _ _ _ _)
                subst ey
                cases ry
                have mu : Mut (H8 D) := by rw [eD8]; trivial
                have hl5 := setNL_len ks
                refine ⟨yk, setNL ks, rfl, eD8, by unfold scanBound; omega, ?_⟩
                rw [← setNL_snoc]
                have w8 : HW H8 (L2.upd H8 D (NsO X.w D (setNL (ks ++ [yk])))) := (HM.mine (HM.refl (ι := [D]) H8) mu (.inr (by simp))).w
                refine ⟨ι8, ks ++ [yk], μ8, hm8.mine mu (.inl hD), sr8.other w8 hn8 (by rw [eD8]; exact noE_ns _ _ _), hn8, upd_same, by rw [List.length_append, List.length_singleton]; exact hlen, ?_⟩
                rw [List.map_append]
                exact h8
              · rw [if_neg hz] at h8
                exact False.elim h8
theorem DNt.sc1 (cl : Cl X k) (hi : DI κ X tg iter it) (ok : BlkOk X.N X.env.scope scope own) (hv : ∀ i ∈ is, i ∈ own.map (·.2))
    (hg : ∀ (s : Shared) (H : Hp) (C : Addr) (d : List (Str × Addr)) (fp : List Addr), Cl (X.blk s H scope (compEnvC scope d C X.env) fp) k → DG κ (X.blk s H scope (compEnvC scope d C X.env) fp) tg is g)
    (ht : ∀ (s : Shared) (H : Hp) (C : Addr) (d : List (Str × Addr)) (fp : List Addr), Cl (X.blk s H scope (compEnvC scope d C X.env) fp) k → PTs (X.blk s H scope (compEnvC scope d C X.env) fp) ifs (kT X.K κ W0 tt))
    (he : ∀ (s : Shared) (H : Hp) (C : Addr) (d : List (Str × Addr)) (fp : List Addr), Cl (X.blk s H scope (compEnvC scope d C X.env) fp) k → DE κ (X.blk s H scope (compEnvC scope d C X.env) fp) elt te)
    (hs : ∀ x, foldedSetIterable iter X.env x = pure x := by intro _; rfl) :
    DNt κ X (.SetComp elt [⟨tg, iter, ifs, 0⟩] scope pos) (aSc1 it (own.map (·.2)) g tt te) := fun W tk => by
  obtain ⟨wi, p0, i0⟩ := hi W tk
  exact ⟨_, pe_sc1 cl p0 ok (fun s H C d fp => (hg s H C d fp (cl.blk s H _ _ fp)).kan) (fun s H C d fp => ht s H C d fp (cl.blk s H _ _ fp)) (fun s H C d fp => (he s H C d fp (cl.blk s H _ _ fp)).kan takes0) hs, im_sc1 hv i0⟩
def aSortNt (r : ANt) : AA := fun ρ μ => (r ρ μ).bind fun ns μ1 => if (setNL ns).length < 64 then .ok ((sortD ns).map AV.int) μ1 else .bad
theorem DN.sortNt {e : Expr} {r : ANt} {p pos : Pos} (cl : Cl X k) (hg : Gl X "sorted") (hm : X.mg "sorted" = none) (he : DNt κ X e r)
    (h1 : starEach [e] X.env = (false, eval e X.env) :: starEach [] X.env := by rfl) :
    DN κ X (.Call (.Name "sorted" p) [e] [] pos) (aSortNt r) := DN.mk cl fun W tk => by
  obtain ⟨t, pt, i⟩ := he W tk
  refine ⟨_, pe_callB (cr_sortedSet cl.calm) hg hm (by decide +kernel) (pa_cons pt pa_nil h1) (by decide) (by decide) h1, fun σ H Q ι ρ μ sr rl h => ?_⟩
  refine i σ H _ ι ρ μ sr rl (PG.bind0 h fun ns μ1 ι1 H1 p1 m1 sr1 hh a ea hn h0 => ?_)
  split at hh
  · rename_i hz
    refine ⟨a, _, _, rfl, ea, hz, fun ys q' h3 h4 h5 h6 => ?_⟩
    rw [sortD_eq (ns := ns) h3 fun k => by rw [h4, decide_eq_true_iff, mem_setNL]]
    exact okNew sr sr1 m1 hh (RelL.ints _) h6
  · exact False.elim hh
end
end Lr
set_option maxHeartbeats 1000000
namespace Lr
open PySem PySem.Spec L2
open PyProof.Rows hiding St
section
variable {κ : Kap} {X : Cx} {k : Nat} {o i a : Expr} {ra rb rc : AE} {pos pos' : Pos}
def eLNew1 (rk rv : AE) : AE := fun ρ μ => (rk ρ μ).bind fun x μ1 => (rv ρ μ1).bind fun y μ2 => match leafOf x with
  | some kk => .ok (.loc μ2.length) (μ2 ++ [.dlf [(kk, y)]])
  | none => .bad
def tDNewL1 (X : Cx) (tk tv : TE) : TE := fun σ H Q => ∀ p, H p = none → p ≠ sysModules → tk σ (L2.upd H p (DlfO X.w p [])) fun x H1 => tv σ H1 fun y H2 => H2 p = some (DlfO X.w p []) ∧ ∃ kk : Leaf, (∀ u, RelV x u → Leaf.isOf kk u = true) ∧ ∀ r : Value, RelV y r → Q (.ref p) (L2.upd H2 p (DlfO X.w p [(kk, r)]))
theorem pe_dnewL1 {tk tv : TE} (pk : PE X o tk) (pv : PE X i tv) : PE X (.Dict [some o] [i] pos) (tDNewL1 X tk tv) := ⟨fun pins s σ H Q I h => by
  have hn := I.hok.fresh (Nat.le_refl s.heap.objs.size)
  have hs : s.heap.objs.size ≠ sysModules := by
    have := I.big
    intro e
    rw [e] at this
    exact absurd this (Nat.lt_irrefl _)
  have I1 := I.laid (a := s.heap.objs.size) (o := DlfO X.w s.heap.objs.size []) (h' := s.heap.push { cls := .type "dict", data := .dict #[] }) (t' := s.toks) (fun _ _ q => Heap.get?_push_of_some _ q) (Nat.le_refl _) (newL (Heap.DictOf.new s.heap))
  refine wpAny_Dict_walk (knd := leafKind X.prog X.w) (by rfl) (by rfl) (by simp) (by simp) (pairTrees_cons_walk (thn (pk.run pins _ σ _ _ I1 (h _ hn hs)) fun u s1 ⟨x, H1, I2, rx, q1⟩ => thn (pv.run pins s1 σ H1 _ I2 q1) fun w2 s2 ⟨y, H2, I3, ry, e, kk, hk, q2⟩ => pairTrees_nil_walk ?_))
  refine ⟨[(kk, w2)], ⟨hk u rx, rfl, trivial⟩, dictL I3 e, fun h' dd sb => ⟨.ref _, _, ?_, rfl, q2 w2 ry⟩⟩
  have he : ∃ q, h'.get? s.heap.objs.size = some q := let ⟨q, _, _, hq, _⟩ := dd; ⟨q, hq⟩
  exact d_write I3 (by rw [e]; trivial) sb he (newL dd)⟩
theorem DE.lnew1 (hw : κ.w = some X.w) (ho : DE κ X o ra) (hi : DE κ X i rb) : DE κ X (.Dict [some o] [i] pos) (eLNew1 ra rb) := fun W tk => by
  obtain ⟨t1, p1, i1⟩ := ho W tk
  obtain ⟨t2, p2, i2⟩ := hi W tk
  refine ⟨_, pe_dnewL1 p1 p2, fun σ H Q ι ρ μ sr rl h p hn hs => ?_⟩
  have rl1 := rl.mono (List.prefix_refl _) (HM.fresh (o := DlfO X.w p []) hn)
  refine i1 σ _ _ ι ρ μ (sr.new hn) rl1 (PG.bindF (HM.fresh hn) h fun x μ1 ι1 H1 q1 m1 sr1 h1 xv rx => ?_)
  have hn1 : p ∉ ι1 := fun z => by
    have := m1.new p z (sr.notin hn)
    rw [upd_same] at this
    cases this
  have e1 : H1 p = some (DlfO X.w p []) := m1.oth p _ (sr.notin hn) upd_same
  refine i2 σ H1 _ ι1 ρ μ1 sr1 (rl1.mono q1 m1) (PG.bindF ((HM.fresh hn).trans m1) h1 fun y μ2 ι2 H2 q2 m2 sr2 h2 yv ry => ?_)
  have hn2 : p ∉ ι2 := fun z => by
    have := m2.new p z hn1
    rw [e1] at this
    cases this
  have e2 : H2 p = some (DlfO X.w p []) := m2.oth p _ hn1 e1
  cases ek : leafOf x with
  | none => rw [ek] at h2; exact False.elim h2
  | some kk =>
    rw [ek] at h2
    refine ⟨e2, kk, fun u ru => leaf_is rx ru ek, fun r rvr => ?_⟩
    have mu : Mut (H2 p) := by rw [e2]; trivial
    have w : HW H2 (L2.upd H2 p (DlfO X.w p [(kk, r)])) := (HM.mine (HM.refl (ι := [p]) H2) mu (.inr (by simp))).w
    have rr : RelLf X.K κ ι2 H2 [(kk, y)] [(kk, r)] := RelLf.put (kvs := []) (xs := []) .nil rvr ry
    have s2 := (sr2.other w hn2 (by rw [e2]; exact noE_dlf _ _ _)).alloc (a := p) (o := .dlf [(kk, y)]) ⟨hs, by simp, X.w, [(kk, r)], hw, upd_same, rr.mono (List.prefix_refl _) w⟩ hn2 (by rw [upd_same]; simp) (by rw [upd_same]; exact noE_dlf _ _ _)
    have m := ((HM.fresh hn).trans m1).trans m2
    refine h2 (ι2 ++ [p]) _ (m.pre.trans (List.prefix_append _ _)) ((m.mine mu (.inl hn)).more hn) s2 _ (.loc ?_)
    rw [← sr2.len]
    simp
def eLGet (o i d : AE) : AE := fun ρ μ => (o ρ μ).bind fun l μ1 => if (stLf μ1 l).isSome then (i ρ μ1).bind fun j μ2 => (d ρ μ2).bind fun z μ3 => match stLf μ3 l, leafOf j with
  | some (_, kvs), some kk => .ok ((valP kvs kk).getD z) μ3
  | _, _ => .bad else .bad
def tLGet (κ : Kap) (X : Cx) (t1 t2 t3 : TE) : TE := fun σ H Q => t1 σ H fun x H1 => ∃ (a : Addr) (xs0 : List (Leaf × Value)), x = .ref a ∧ a ≠ sysModules ∧ H1 a = some (DlfO X.w a xs0) ∧ t2 σ H1 fun y H2 => t3 σ H2 fun z H3 =>
  ∃ (ι : List Addr) (kvs : List (Leaf × AV)) (xs : List (Leaf × Value)) (kk : Leaf) (zz : AV), H3 a = some (DlfO X.w a xs) ∧ RelLf X.K κ ι H3 kvs xs ∧ (∀ u, RelV y u → Leaf.isOf kk u = true) ∧ Rel X.K κ ι H3 zz z ∧ ∀ u, Rel X.K κ ι H3 ((valP kvs kk).getD zz) u → Q u H3
theorem pe_lget {d : Expr} {apos cpos : Pos} {t1 t2 t3 : TE} (p1 : PE X o t1) (p2 : PE X i t2) (p3 : PE X d t3) (m : M2 X o "get" apos i d cpos) : PE X (.Call (.Attribute o "get" apos) [i, d] [] cpos) (tLGet κ X t1 t2 t3) := by
  refine ⟨fun pins s σ H Q I h => ?_⟩
  refine wpAny_Call_method m.base m.few m.line PySem.F.plainAttrs_dict PySem.F.slot_dict_get PySem.F.type_dict_get (thn (p1.run pins s σ H _ I h) fun u s1 ⟨x, H1, I1, rx, a, xs0, ex, ha, e1, q1⟩ => ?_)
  subst ex
  obtain rfl : u = Value.ref a := rx
  have d1 := dictL I1 e1
  have d2 : ∀ b, Value.ref a = .ref b → ∃ ob, s1.heap.get? b = some ob ∧ ob.dict = none := fun b q => by
    cases q
    obtain ⟨ob, _, _, h1, h2, _⟩ := d1
    exact ⟨ob, h1, h2.2.1⟩
  refine ⟨d1.typeIs, d2, ?_⟩
  rw [m.trees]
  refine Calls.callWith_builtin rfl (Calls.evalArgs_plain (Calls.spliced_cons (thn (p2.run pins s1 σ H1 _ I1 q1) fun iv s2 ⟨y, H2, I2, ry, q2⟩ =>
    Calls.spliced_cons (thn (p3.run pins s2 σ H2 _ I2 q2) fun fv s3 ⟨z, H3, I3, rz, ι, kvs, xs, kk, zz, e3, r3, hk, rzz, q3⟩ => Calls.spliced_nil ?_))))
  have dd := dictL I3 e3
  refine call_meetsIn PySem.F.slot_dict_get dd.typeIs PySem.F.entry_dict_get (PySem.F.args_dict_get_3 _ _ _) (meets_dict_get_default (leafKind X.prog X.w) a (hk iv ry) (beq_eq_false_iff_ne.mpr ha) fv) ⟨_, dd.mapOf, ?_⟩
  have hv := r3.val (kk := kk)
  cases ev : valP kvs kk with
  | none =>
    rw [ev] at hv q3
    have hs := r3.isSome (kk := kk)
    rw [ev] at hs
    have hnone : valueAt xs kk = none := by
      cases z : valueAt xs kk with
      | none => rfl
      | some _ => rw [z] at hs; cases hs
    rw [hnone]
    exact ⟨z, H3, I3.tok _, rz, q3 z rzz⟩
  | some v =>
    rw [ev] at hv q3
    obtain ⟨w, y2, e4, r1, r2⟩ := hv
    rw [e4]
    exact ⟨w, H3, I3.tok _, r1, q3 w r2⟩
theorem DE.lget {d : Expr} {apos cpos : Pos} (hw : κ.w = some X.w) (ho : DE κ X o ra) (hi : DE κ X i rb) (hd : DE κ X d rc) (m : M2 X o "get" apos i d cpos := by exact ⟨rfl, rfl, rfl, rfl⟩) : DE κ X (.Call (.Attribute o "get" apos) [i, d] [] cpos) (eLGet ra rb rc) := fun W tk => by
  obtain ⟨t1, p1, i1⟩ := ho W tk
  obtain ⟨t2, p2, i2⟩ := hi W tk
  obtain ⟨t3, p3, i3⟩ := hd W tk
  refine ⟨_, pe_lget (κ := κ) p1 p2 p3 m, fun σ H Q ι ρ μ sr rl h => ?_⟩
  refine i1 σ H _ ι ρ μ sr rl (PG.bind h fun l μ1 ι1 H1 q1 m1 sr1 h1 lv rlv => ?_)
  by_cases hl : (stLf μ1 l).isSome = true
  · rw [if_pos hl] at h1
    obtain ⟨⟨n0, xs0⟩, e0⟩ := Option.isSome_iff_exists.mp hl
    obtain ⟨p0, w0, vs0, rfl, hp0, hs0, _, hw0, h0, _⟩ := stLf_rel sr1 rlv e0
    rw [hw] at hw0
    cases hw0
    refine ⟨p0, vs0, rfl, hs0, h0, ?_⟩
    refine i2 σ H1 _ ι1 ρ μ1 sr1 (rl.mono q1 m1) (PG.bind h1 fun j μ2 ι2 H2 q2 m2 sr2 h2 jv rj => ?_)
    refine i3 σ H2 _ ι2 ρ μ2 sr2 ((rl.mono q1 m1).mono q2 m2) (PG.bind h2 fun z μ3 ι3 H3 q3 m3 sr3 h3 zv rz => ?_)
    split at h3
    · rename_i n kvs kk e1 ek
      obtain ⟨p1', w1, vs, ex, hq, hs1, _, hw1, e2, r2⟩ := stLf_rel sr3 ((rlv.mono q2 m2).mono q3 m3) e1
      cases ex
      rw [hw] at hw1
      cases hw1
      exact ⟨ι3, kvs, vs, kk, z, e2, r2, fun u ru => leaf_is rj ru ek, rz, fun u ru => ok1 sr3 h3 ru⟩
    · exact False.elim h3
  · rw [if_neg hl] at h1
    exact False.elim h1
end
end Lr
set_option maxHeartbeats 1000000
namespace Lr
open PySem PySem.Spec L2
open PyProof.Rows hiding St
def atomI : AV → PyData
  | .int x => .int x
  | _ => .none
def isIntK : AV → Bool
  | .int _ => true
  | _ => false
def keyI2 : AV → PyData
  | .tup xs => .tuple [.int xs.length, .tuple (xs.map atomI)]
  | _ => .none
def lkOkI : AV → Bool
  | .tup xs => decide (xs.length ≤ 16777216) && xs.all isIntK
  | _ => false
def leKI : AV → AV → Bool := PySem.W.dataLe false keyI2
theorem lkOkI_of {v : AV} (h : lkOkI v = true) : ∃ zs : List Int, v = .tup (zs.map AV.int) ∧ zs.length ≤ 16777216 ∧ keyI2 v = .tuple [.int zs.length, .tuple (zs.map PyData.int)] := by
  cases v <;> first | (cases h; done) | skip
  rename_i xs
  simp only [lkOkI, Bool.and_eq_true, decide_eq_true_eq, List.all_eq_true] at h
  obtain ⟨h1, h2⟩ := h
  have e : ∀ ys : List AV, (∀ y ∈ ys, isIntK y = true) → ∃ zs : List Int, ys = zs.map AV.int := fun ys => by
    induction ys with
    | nil => exact fun _ => ⟨[], rfl⟩
    | cons y ys ih =>
      intro hh
      obtain ⟨zs, e1⟩ := ih fun z hz => hh z (List.mem_cons_of_mem _ hz)
      have := hh y (List.mem_cons_self ..)
      cases y <;> first | (cases this; done) | skip
      exact ⟨_ :: zs, by rw [e1]; rfl⟩
  obtain ⟨zs, rfl⟩ := e xs h2
  refine ⟨zs, rfl, by simpa using h1, ?_⟩
  simp [keyI2, atomI, Function.comp_def]
theorem alike_intsK : ∀ xs ys : List Int, PySem.W.alikeAll (xs.map PyData.int) (ys.map PyData.int) = true
  | [], ys => by cases ys <;> simp [PySem.W.alikeAll]
  | x :: xs, [] => by simp [PySem.W.alikeAll]
  | x :: xs, y :: ys => by simp [PySem.W.alikeAll, PySem.W.alike, alike_intsK xs ys]
theorem depth_intsK : ∀ xs : List Int, PyData.depthAll (xs.map PyData.int) = 0
  | [] => by simp [PyData.depthAll]
  | x :: xs => by simp [PyData.depthAll, PyData.depth, depth_intsK xs]
section
variable {xs : List AV}
theorem lk_alikeI (h : ∀ x ∈ xs, lkOkI x = true) : PySem.W.AllAlike (xs.map keyI2) := by
  intro d hd d' hd'
  obtain ⟨b, hb, rfl⟩ := List.mem_map.mp hd
  obtain ⟨b', hb', rfl⟩ := List.mem_map.mp hd'
  obtain ⟨zs, _, _, e⟩ := lkOkI_of (h b hb)
  obtain ⟨zs', _, _, e'⟩ := lkOkI_of (h b' hb')
  rw [e, e']
  simp [PySem.W.alike, PySem.W.alikeAll, alike_intsK]
theorem lk_sortableI (h : ∀ x ∈ xs, lkOkI x = true) : PySem.W.Sortable (xs.map keyI2) := .inl fun d hd => by
  obtain ⟨b, hb, rfl⟩ := List.mem_map.mp hd
  obtain ⟨zs, _, _, e⟩ := lkOkI_of (h b hb)
  exact ⟨_, _, e⟩
theorem lk_depthI {x : AV} (h : lkOkI x = true) : (keyI2 x).depth ≤ 2 := by
  obtain ⟨zs, _, _, e⟩ := lkOkI_of h
  rw [e]
  simp [PyData.depth, PyData.depthAll, depth_intsK]
end
def aSortKI (r : AE) : AA := fun ρ μ => (r ρ μ).bind fun v μ1 => match srcK μ1 v with
  | some xs => if xs.all lkOkI ∧ xs.length ≤ 16777216 then .ok (xs.mergeSort leKI) μ1 else .bad
  | none => .bad
section
variable {K : PySem.W.Frag} {κ : Kap} {X : Cx} {pins : List (Addr × Obj)} {σ : St} {H : Hp} {s : Shared} {ι : List Addr}
theorem reads_intsK {h : Heap} : ∀ {zs : List Int} {vs : List V} {us : List Value}, RelL K κ ι H (zs.map AV.int) vs → Vals vs us → ReadsAll h us (zs.map PyData.int) []
  | [], _, _, r, s => by cases r; cases s; exact .nil
  | z :: zs, _, _, r, s => by
    cases r with
    | cons h1 r =>
      cases s with
      | cons h2 s =>
        cases h1
        obtain ⟨t, rfl⟩ := h2
        exact .cons (as := []) (bs := []) (.int _ _) (reads_intsK r s)
theorem rav_readsI {h : Heap} (I : Inv X pins σ H s) {v : AV} {u : Value} {zs : List Int} (e : v = .tup (zs.map AV.int)) (hv : RAV X.K κ ι H u v) (hk : ∀ b o, s.heap.get? b = some o → h.get? b = some o) : Reads h u (.tuple (zs.map PyData.int)) [] := by
  obtain ⟨x, r1, r2⟩ := hv
  subst e
  cases r2 with
  | tup ht rl =>
    rename_i a vs
    obtain rfl : u = Value.ref a := r1
    obtain ⟨its, hvs, ⟨o, h1, h2, n, h3⟩, _⟩ := I.tuple ht
    refine .tuple (hk _ _ h1) h2 h3 ?_
    simpa using reads_intsK (h := h) rl hvs
end
section
variable {κ : Kap} {X : Cx} {k : Nat} {e : Expr} {re : AE} {n : Str} {params : Arguments} {scope : Scope} {c P : Addr} {p lpos pos p0 p1 p2 p3 p4 : Pos} {xx : Nat} {kpos : Pos}
theorem DN.sortKI (cl : Cl X (k + 2)) (hw : ∀ w, κ.w = some w → w = X.w) (hs : Gl X "sorted") (hms : X.mg "sorted" = none) (hml : X.mg "len" = none) (TB : LamX.TabB X.base X.mg c P) (hcode : X.env.code = .ref c)
    (hmT : (P, X.env.qual ++ "<lambda>") ∈ κ.T) (hu : ∀ p ∈ κ.T, p.1 = P → p.2 = X.env.qual ++ "<lambda>") (hdef : defaultsOf params X.env = ([], []))
    (hk : scope.kind = .function) (hco : scope.isCoroutine = false) (hgen : scope.isGenerator = false) (hn : scope.names.lookup n = some .local) (hl : scope.names.lookup ("len" : Str) = some .globalImplicit) (hcell : ∀ y ∈ scope.names, y.2 ≠ .cell) (hfree : ∀ y ∈ scope.names, y.2 ≠ .free)
    (hbind : ∀ (q : Str) (pm cv ctv v : Value), bindArgs (PySem.W.kla_fn "<lambda>" q params (lkB n p0 p1 p2 p3 p4 xx) scope [] pm cv ctv) ⟨[v], []⟩ = pure [(n, v)]) (hclo : cloFrom X.env.cells scope.names [] = [])
    (he : DE κ X e re) (hd : (n == ("__debug__" : Str)) = false := by decide)
    (hst : backTo pos (starEach [e] X.env) = [(false, eval e X.env)] := by rfl) :
    DN κ X (.Call (.Name "sorted" p) [e] [⟨some "key", .Lambda params (lkB n p0 p1 p2 p3 p4 xx) scope lpos, kpos⟩] pos) (aSortKI re) := DN.mk cl fun W tk => by
  obtain ⟨t, pe, im⟩ := he W tk
  refine ⟨fun σ H Q => ∃ (ι : List Addr) (ρ : Lr.Loc) (μ : Store), SR X.K κ ι μ H ∧ RelS X.K κ ι H ρ σ ∧ PG X.K κ W σ ι H (CN' X.K κ H Q) (aSortKI re ρ μ), ⟨fun pins s σ H Q I h => ?_⟩, fun σ H Q ι ρ μ sr rl h => ⟨ι, ρ, μ, sr, rl, h⟩⟩
  obtain ⟨ι, ρ, μ, sr, rl, h⟩ := h
  refine wpAny_Call_Name_kw (ld_blt I hs hms (by rfl) ?_ (by decide) (by decide))
  refine PyProof.Rows.callWith_kw (env := X.env) ?_ (by rw [hst]; rfl) (by rw [hst]; rfl) (by rfl) (by rfl)
  rw [hst]
  refine Calls.spliced_cons (thn (pe.run pins s σ H (fun x H1 => ∃ (v : AV) (μ1 : Store) (ι1 : List Addr), HM ι H ι1 H1 ∧ SR X.K κ ι1 μ1 H1 ∧ Rel X.K κ ι1 H1 v x ∧ PG X.K κ W σ ι H (CN' X.K κ H Q) (match srcK μ1 v with
    | some xs => if xs.all lkOkI ∧ xs.length ≤ 16777216 then .ok (xs.mergeSort leKI) μ1 else .bad
    | none => .bad)) I (im σ H _ ι ρ μ sr rl (PG.bind0 h fun v μ1 ι1 H1 p1 m1 sr1 h1 x rx => ⟨v, μ1, ι1, m1, sr1, rx, h1⟩))) fun u s1 ⟨x, H1, I1, ru, v, μ1, ι1, m1, sr1, rx, h1⟩ => ?_)
  refine Calls.spliced_nil ?_
  cases ek : srcK μ1 v with
  | none => rw [ek] at h1; exact False.elim h1
  | some xs =>
  rw [ek] at h1
  have hx : xs.all lkOkI ∧ xs.length ≤ 16777216 := by
    by_cases hx : xs.all lkOkI ∧ xs.length ≤ 16777216
    · exact hx
    · simp only [if_neg hx] at h1; exact False.elim h1
  simp only [if_pos hx] at h1
  show wpAny _ _ (evalAll [do let v ← eval (.Lambda params (lkB n p0 p1 p2 p3 p4 xx) scope lpos) X.env; standAt pos; pure v]) _ _ _
  refine wpAny_evalAll_cons (wpAny_bind (LamX.lam_make3 I1 TB hcode hmT hu sr1.tabs hdef (fun y hy e => absurd e (hfree y hy)) fun f c' pm ctv H2 s2 I2 eN T2 hf hfn hfr hcc htb => wpAny_bind (wpAny_standAt (wpAny_pure (wpAny_evalAll_nil ?_)))))
  show wpAny _ _ (call (.builtin "sorted") [u] [(Str.ofString "key", .ref f)]) _ _ _
  have m2 : HM ι1 H1 ι1 H2 := HM.ext eN htb
  have sr2 := sr1.ext eN T2
  have rx2 := rx.mono (List.prefix_refl _) m2
  have hall : ∀ y ∈ xs, lkOkI y = true := List.all_eq_true.mp hx.1
  rw [hclo] at hf
  obtain ⟨⟨oc, vc, tc, hoc, hdc, hvc⟩, _⟩ := I2.hok c' _ hcc
  obtain ⟨mb, hb1, hb2⟩ := I2.mod.blt
  have hun := cl.room.un
  have hdp := cl.room.dp
  have hhd := cl.room.hd
  refine sortedK_col (R := RAV X.K κ ι1 H2) (k := keyI2) (bs := xs) (fun E' Qc q => col_src cl.calm hw I2 sr2 rx2 ru ek (A := X.A.in1) hhd hx.2 E' Qc q) (lk_alikeI hall) (lk_sortableI hall) (by rw [sizeLine_eq]; exact hx.2) (fun y hy => ?_) (fun w y hv hy g tk2 hk2 => ?_) fun out cc g1 g2 tk2 a ea k1 k2 hat hout => ?_
  · have := lk_depthI (hall y hy)
    omega
  · obtain ⟨zs, ez, hz, ek2⟩ := lkOkI_of (hall y hy)
    have hrd := rav_readsI I2 ez hv hk2
    have := lk_call (prog := X.prog) (w := X.w) (A := X.A.in1.in1) (s := { s2 with heap := g, toks := tk2 }) (mg := X.mg) (mb := mb) (ds := zs.map PyData.int) (by show X.A.depth < recursionLimit; omega) (hk2 _ _ hf) ⟨c', oc, vc, tc, rfl, hk2 _ _ hoc, hdc, hvc⟩ (I2.nolimit.keeps hk2)
      ((I2.mod.glob.keeps I2.bk).keeps hk2) ((hb1.keeps I2.bk).keeps hk2) ((hb2 "len" (by decide)).trans rfl) hml hk hco hgen hn hl hcell (hbind _ _ _ _ _) hrd (by simpa using hz) hd
    rw [ek2]
    simpa using this
  · obtain ⟨vs, hv, rv⟩ := rav_back hout
    have I3 : Inv X pins σ H2 { s2 with heap := g1, toks := s2.toks } := I2.kept k1
    have hlen : vs.length ≤ sizeLine := by
      rw [← rv.length, List.length_mergeSort, sizeLine_eq]
      exact hx.2
    subst ea
    have hnone : H2 g1.objs.size = none := I3.hok.fresh (Nat.le_refl _)
    exact ⟨.ref _, upd H2 g1.objs.size (.lst vs), I3.laid (t' := tk2) k2 (Nat.le_refl _) ⟨hlen, out, cc, hv, hat⟩, rfl, okNew sr sr2 (m1.trans m2) h1 rv hnone⟩
end
end Lr
namespace Lr
open PySem PySem.Spec L2
@[reducible] def i293_blocks_of : Nat := 293
@[reducible] def i626_Covers___init : Nat := 626
@[reducible] def i625_Covers_busy_from : Nat := 625
@[reducible] def i1019_Covers_look_at : Nat := 1019
@[reducible] def i756_Covers_mark : Nat := 756
@[reducible] def i757_Covers_uses : Nat := 757
@[reducible] def i630_fewest_spans : Nat := 630
@[reducible] def i629_set_count : Nat := 629
@[reducible] def i631_in_some_set : Nat := 631
@[reducible] def i632_in_each_set : Nat := 632
@[reducible] def i13_law_hand : Nat := 13
@[reducible] def i2_law_take : Nat := 2
@[reducible] def i3_law_of : Nat := 3
@[reducible] def i288_law_row : Nat := 288
@[reducible] def i305_law_marks : Nat := 305
@[reducible] def i295_law_has : Nat := 295
@[reducible] def i307_law_open : Nat := 307
@[reducible] def i306_law_index_sets : Nat := 306
@[reducible] def i633_law_row_right : Nat := 633
@[reducible] def i634_law_right : Nat := 634
@[reducible] def i1026_law : Nat := 1026
def m293_blocks_of (T : Nat → Fn) : AS := (sSeq (sSet 1 (eNew (aLst aNil))) (sSeq (sFor (iAny (eDat (aCB gSortPr (aCons (eVar 0) aNil)))) (gTp (gN1 (gNm 2) (gN1 (gNm 3) gN0))) (sIf (tAn (tB1 (eOp gNe (eVar 1) (eDat (aLst aNil)))) (tB1 (eOp gLe (eVar 2) (eOp gIx (eOp gIx (eVar 1) (eNeg (eC (.int 1)))) (eC (.int 1)))))) (sSub (eVar 1) (eNeg (eC (.int 1))) (eTup (aCons (eOp gIx (eOp gIx (eVar 1) (eNeg (eC (.int 1)))) (eC (.int 0))) (aCons (eCB gMax (aCons (eVar 3) (aCons (eOp gIx (eOp gIx (eVar 1) (eNeg (eC (.int 1)))) (eC (.int 1))) aNil))) aNil)))) (sExpr (eApp2 (eVar 1) (eTup (aCons (eVar 2) (aCons (eVar 3) aNil))))))) (sRet (eVar 1))))
def m626_Covers___init (T : Nat → Fn) : AS := (sSeq (sFldP [105] "row" (eVar 0) (eVar 1)) (sSeq (sFldP [105] "blocks" (eVar 0) (eCall (T i293_blocks_of) (aCons (eVar 1) aNil))) (sSeq (sFldP [105] "later" (eVar 0) (eDat (aLc (iAny (eVar 1)) [3, 4] (gTp (gN1 (gNm 3) (gN1 (gNm 4) gN0))) tTrue (eMeth [105] "busy_from" (fun c => T i625_Covers_busy_from) (eVar 0) (aCons (eVar 4) aNil))))) (sSeq (sFldP [105] "start" (eVar 0) (eOp gIx (eOp gIx (eFld [105] "blocks" (eVar 0)) (eC (.int 0))) (eC (.int 0)))) (sSeq (sFldP [105] "places" (eVar 0) (eDat (aSortNt (aSc1 (iAny (eDat (aCat (eDat (aLst (aCons (eFld [105] "start" (eVar 0)) aNil))) (eFld [105] "later" (eVar 0))))) [2] (gNm 2) (tB1 (eOp gIsNot (eVar 2) (eC .non))) (eVar 2))))) (sSeq (sFldP [105] "fewest" (eVar 0) (eLNew1 (eC .non) (eC (.int 0)))) (sSeq (sFldP [105] "ways" (eVar 0) (eLNew1 (eC .non) (eC (.int 1)))) (sSeq (sFldP [105] "best_marks" (eVar 0) (eLNew1 (eC .non) (eC (.int 0)))) (sSeq (sFldP [105] "first_spans" (eVar 0) eLNew) (sFor (iAny (eDat (aRevL (eFld [105] "places" (eVar 0))))) (gNm 2) (sExpr (eMeth [105] "look_at" (fun c => T i1019_Covers_look_at) (eVar 0) (aCons (eVar 2) aNil)))))))))))))
def m625_Covers_busy_from (T : Nat → Fn) : AS := (sSeq (sFor (iAny (eFld [105] "blocks" (eVar 0))) (gTp (gN1 (gNm 2) (gN1 (gNm 3) gN0))) (sIf (tB1 (eOp gLt (eVar 1) (eVar 3))) (sRet (eCB gMax (aCons (eVar 2) (aCons (eVar 1) aNil)))) sNil)) (sRet (eC .non)))
def m1019_Covers_look_at (T : Nat → Fn) : AS := (sSeq (sSet 2 (eDat (aLc (iEnumU (aCons (eFld [105] "row" (eVar 0)) aNil)) [5, 6, 7] (gTp (gN1 (gNm 5) (gN1 (gTp (gN1 (gNm 6) (gN1 (gNm 7) gN0))) gN0))) (tB1 (eChain gLe gLt (eVar 6) (eVar 1) (eVar 7))) (eVar 5)))) (sSeq (sSet 3 (eOp gAdd (eC (.int 1)) (eCB gMinL (aCons (eDat (aLc (iAny (eVar 2)) [5] (gNm 5) tTrue (eLIx (eFld [105] "fewest" (eVar 0)) (eOp gIx (eFld [105] "later" (eVar 0)) (eVar 5))))) aNil)))) (sSeq (sLPut (eFld [105] "first_spans" (eVar 0)) (eVar 1) (eDat (aLc (iAny (eVar 2)) [5] (gNm 5) (tB1 (eOp gEq (eLIx (eFld [105] "fewest" (eVar 0)) (eOp gIx (eFld [105] "later" (eVar 0)) (eVar 5))) (eOp gSub (eVar 3) (eC (.int 1))))) (eVar 5)))) (sSeq (sLPut (eFld [105] "fewest" (eVar 0)) (eVar 1) (eVar 3)) (sSeq (sLPut (eFld [105] "ways" (eVar 0)) (eVar 1) (eCB gSum (aCons (eDat (aLc (iAny (eLIx (eFld [105] "first_spans" (eVar 0)) (eVar 1))) [5] (gNm 5) tTrue (eLIx (eFld [105] "ways" (eVar 0)) (eOp gIx (eFld [105] "later" (eVar 0)) (eVar 5))))) aNil))) (sSeq (sSet 4 (eDat (aLc (iAny (eLIx (eFld [105] "first_spans" (eVar 0)) (eVar 1))) [5] (gNm 5) tTrue (eOp gAdd (eLIx (eFld [105] "best_marks" (eVar 0)) (eOp gIx (eFld [105] "later" (eVar 0)) (eVar 5))) (eMeth [105] "mark" (fun c => T i756_Covers_mark) (eVar 0) (aCons (eVar 5) aNil)))))) (sLPut (eFld [105] "best_marks" (eVar 0)) (eVar 1) (eCB gMaxL (aCons (eVar 4) aNil)))))))))
def m756_Covers_mark (T : Nat → Fn) : AS := (sRet (eOp gShl (eC (.int 1)) (eOp gSub (eOp gSub (eCB gLen (aCons (eFld [105] "row" (eVar 0)) aNil)) (eC (.int 1))) (eVar 1))))
def m757_Covers_uses (T : Nat → Fn) : AS := (sSeq (sPar (aCons (eLNew1 (eFld [105] "start" (eVar 0)) (eC (.int 1))) (aCons (eNew (aRep (eDat (aLst (aCons (eC (.int 0)) aNil))) (eCB gLen (aCons (eFld [105] "row" (eVar 0)) aNil)))) aNil)) (gN1 (gNm 1) (gN1 (gNm 2) gN0))) (sSeq (sFor (iAny (eFld [105] "places" (eVar 0))) (gNm 3) (sFor (iAny (eIf (tB1 (eOp gInL (eVar 3) (eVar 1))) (eLIx (eFld [105] "first_spans" (eVar 0)) (eVar 3)) (eDat (aLst aNil)))) (gNm 4) (sSeq (sSet 5 (eOp gIx (eFld [105] "later" (eVar 0)) (eVar 4))) (sSeq (sLPut (eVar 1) (eVar 5) (eOp gAdd (eLGet (eVar 1) (eVar 5) (eC (.int 0))) (eLIx (eVar 1) (eVar 3)))) (sSubAdd (eVar 2) (eVar 4) (eOp gMul (eLIx (eVar 1) (eVar 3)) (eLIx (eFld [105] "ways" (eVar 0)) (eVar 5)))))))) (sRet (eVar 2))))
def m630_fewest_spans (T : Nat → Fn) : AS := (sSeq (sSet 1 (eMkI 105 (T i626_Covers___init) (aCons (eVar 0) aNil))) (sSeq (sSet 2 (eLIx (eFld [105] "best_marks" (eVar 1)) (eFld [105] "start" (eVar 1)))) (sRet (eCB gTuple (aCons (eDat (aLc (iRng (aCons (eCB gLen (aCons (eVar 0) aNil)) aNil)) [3] (gNm 3) (tB1 (eOp gNe (eOp gAnd (eVar 2) (eMeth [105] "mark" (fun c => T i756_Covers_mark) (eVar 1) (aCons (eVar 3) aNil))) (eC (.int 0)))) (eVar 3))) aNil)))))
def m629_set_count (T : Nat → Fn) : AS := (sSeq (sSet 1 (eMkI 105 (T i626_Covers___init) (aCons (eVar 0) aNil))) (sRet (eLIx (eFld [105] "ways" (eVar 1)) (eFld [105] "start" (eVar 1)))))
def m631_in_some_set (T : Nat → Fn) : AS := (sRet (eCB gTuple (aCons (eDat (aLc (iEnumU (aCons (eFrz (eMeth [105] "uses" (fun c => T i757_Covers_uses) (eMkI 105 (T i626_Covers___init) (aCons (eVar 0) aNil)) aNil)) aNil)) [1, 2] (gTp (gN1 (gNm 1) (gN1 (gNm 2) gN0))) (tB1 (eOp gGt (eVar 2) (eC (.int 0)))) (eVar 1))) aNil)))
def m632_in_each_set (T : Nat → Fn) : AS := (sSeq (sSet 1 (eCall (T i629_set_count) (aCons (eVar 0) aNil))) (sRet (eCB gTuple (aCons (eDat (aLc (iEnumU (aCons (eFrz (eMeth [105] "uses" (fun c => T i757_Covers_uses) (eMkI 105 (T i626_Covers___init) (aCons (eVar 0) aNil)) aNil)) aNil)) [2, 3] (gTp (gN1 (gNm 2) (gN1 (gNm 3) gN0))) (tB1 (eOp gEq (eVar 3) (eVar 1))) (eVar 2))) aNil))))
def m13_law_hand (T : Nat → Fn) : AS := (sSeq (sSet 2 (eIf (tB1 (eOp gLt (eVar 1) (eCB gLen (aCons (eVar 0) aNil)))) (eOp gIx (eVar 0) (eVar 1)) (eC (.int 0)))) (sSeq (sSet 3 (eOp gMul (eOp gMod (eCB gAbs (aCons (eVar 2) aNil)) (eOp gMul (eOp gMul (eOp gPow (eC (.int 10)) (eC (.int 60))) (eOp gPow (eC (.int 10)) (eC (.int 60)))) (eOp gPow (eC (.int 10)) (eC (.int 60))))) (eCB gInt (aCons (eOp gGe (eCB gAbs (aCons (eVar 2) aNil)) (eOp gPow (eC (.int 10)) (eC (.int 18)))) aNil)))) (sRet (eNew (aLst (aCons (eVar 3) (aCons (eOp gMod (eOp gMul (eOp gAdd (eOp gAdd (eOp gMod (eVar 2) (eC (.int 2147483629))) (eOp gMul (eC (.int 7919)) (eVar 1))) (eC (.int 13))) (eC (.int 48271))) (eC (.int 2147483647))) (aCons (eC (.int 0)) aNil))))))))
def m2_law_take (T : Nat → Fn) : AS := (sSeq (sIf (tB1 (eOp gGt (eOp gIx (eVar 0) (eC (.int 0))) (eC (.int 0)))) (sSeq (sSet 2 (eOp gMod (eOp gIx (eVar 0) (eC (.int 0))) (eVar 1))) (sSeq (sSub (eVar 0) (eC (.int 0)) (eOp gDiv (eOp gIx (eVar 0) (eC (.int 0))) (eVar 1))) (sRet (eVar 2)))) sNil) (sSeq (sSub (eVar 0) (eC (.int 2)) (eOp gAdd (eOp gIx (eVar 0) (eC (.int 2))) (eC (.int 1)))) (sSeq (sSet 3 (eOp gIx (eDat (aLst (aCons (eC (.int 2147483647)) (aCons (eC (.int 2147483629)) (aCons (eC (.int 2147483587)) (aCons (eC (.int 2147483579)) (aCons (eC (.int 2147483563)) aNil))))))) (eOp gMod (eOp gIx (eVar 0) (eC (.int 2))) (eC (.int 5))))) (sSeq (sSet 4 (eOp gMod (eOp gPow (eOp gAdd (eOp gIx (eVar 0) (eC (.int 1))) (eOp gMul (eC (.int 7919)) (eOp gIx (eVar 0) (eC (.int 2))))) (eC (.int 3))) (eVar 3))) (sRet (eOp gMod (eOp gDiv (eOp gMod (eOp gMul (eVar 4) (eOp gAdd (eOp gMod (eVar 4) (eC (.int 1009))) (eOp gIx (eVar 0) (eC (.int 2))))) (eVar 3)) (eC (.int 11))) (eVar 1)))))))
def m3_law_of (T : Nat → Fn) : AS := (sRet (eOp gIx (eVar 1) (eCall (T i2_law_take) (aCons (eVar 0) (aCons (eCB gLen (aCons (eVar 1) aNil)) aNil)))))
def m288_law_row (T : Nat → Fn) : AS := (sSeq (sPar (aCons (eCall (T i3_law_of) (aCons (eVar 0) (aCons (eDat (aLst (aCons (eC (.int 3)) (aCons (eC (.int 6)) (aCons (eC (.int 12)) (aCons (eC (.int 30)) (aCons (eC (.int 90)) (aCons (eOp gPow (eC (.int 10)) (eC (.int 12))) aNil)))))))) aNil))) (aCons (eNew (aLst aNil)) aNil)) (gN1 (gNm 2) (gN1 (gNm 3) gN0))) (sSeq (sSet 4 (eCall (T i3_law_of) (aCons (eVar 0) (aCons (eDat (aLst (aCons (eC (.int 1)) (aCons (eC (.int 3)) (aCons (eC (.int 8)) (aCons (eC (.int 30)) (aCons (eVar 2) aNil))))))) aNil)))) (sSeq (sFor (iRng (aCons (eOp gAdd (eC (.int 1)) (eCall (T i2_law_take) (aCons (eVar 0) (aCons (eVar 1) aNil)))) aNil)) (gNm 5) (sSeq (sSet 6 (eCall (T i2_law_take) (aCons (eVar 0) (aCons (eVar 2) aNil)))) (sSeq (sSet 7 (eOp gAdd (eOp gAdd (eVar 6) (eC (.int 1))) (eCall (T i2_law_take) (aCons (eVar 0) (aCons (eCB gMin (aCons (eVar 4) (aCons (eOp gSub (eVar 2) (eVar 6)) aNil))) aNil))))) (sExpr (eApp2 (eVar 3) (eIf (tAn (tB1 (eOp gNe (eVar 3) (eDat (aLst aNil)))) (tB1 (eOp gEq (eCall (T i2_law_take) (aCons (eVar 0) (aCons (eC (.int 9)) aNil))) (eC (.int 0))))) (eCall (T i3_law_of) (aCons (eVar 0) (aCons (eVar 3) aNil))) (eTup (aCons (eVar 6) (aCons (eVar 7) aNil))))))))) (sRet (eCB gTuple (aCons (eVar 3) aNil))))))
def m305_law_marks (T : Nat → Fn) : AS := (sSeq (sSet 1 (eDat (aSortSet (eDat (aCat (eDat (aLc (iAny (eVar 0)) [2, 3] (gTp (gN1 (gNm 2) (gN1 (gNm 3) gN0))) tTrue (eVar 2))) (eDat (aLc (iAny (eVar 0)) [2, 3] (gTp (gN1 (gNm 2) (gN1 (gNm 3) gN0))) tTrue (eVar 3)))))))) (sRet (eDat (aLc (iAny (eVar 1)) [4] (gNm 4) (tTr (eCB gAny (aCons (eDat (aLc (iAny (eVar 0)) [2, 3] (gTp (gN1 (gNm 2) (gN1 (gNm 3) gN0))) tTrue (eChain gLe gLt (eVar 2) (eVar 4) (eVar 3)))) aNil))) (eVar 4)))))
def m295_law_has (T : Nat → Fn) : AS := (sRet (eChain gLe gLt (eOp gIx (eVar 0) (eC (.int 0))) (eVar 1) (eOp gIx (eVar 0) (eC (.int 1)))))
def m307_law_open (T : Nat → Fn) : AS := (sRet (eDat (aLc (iAny (eVar 0)) [2] (gNm 2) (tNt (tTr (eCB gAny (aCons (eDat (aLc (iAny (eVar 1)) [3] (gNm 3) tTrue (eCall (T i295_law_has) (aCons (eVar 3) (aCons (eVar 2) aNil))))) aNil)))) (eVar 2))))
noncomputable def m306_law_index_sets (T : Nat → Fn) : AS := (sSeq (sSet 1 (eDat (aLst (aCons (eTup aNil) aNil)))) (sSeq (sFor (iRng (aCons (eVar 0) aNil)) (gNm 2) (sSet 1 (eDat (aCat (eVar 1) (eDat (aLc (iAny (eVar 1)) [3] (gNm 3) tTrue (eOp gAdd (eVar 3) (eTup (aCons (eVar 2) aNil))))))))) (sRet (eDat (aSortKI (eVar 1))))))
def m633_law_row_right (T : Nat → Fn) : AS := (sSeq (sPar (aCons (eCall (T i305_law_marks) (aCons (eVar 0) aNil)) (aCons (eCB gRepr (aCons (eVar 0) aNil)) (aCons (eNew (aLst aNil)) aNil))) (gN1 (gNm 1) (gN1 (gNm 2) (gN1 (gNm 3) gN0)))) (sSeq (sFor (iAny (eCall (T i306_law_index_sets) (aCons (eCB gLen (aCons (eVar 0) aNil)) aNil))) (gNm 4) (sSeq (sIf (tAn (tB1 (eOp gNe (eVar 3) (eDat (aLst aNil)))) (tB1 (eOp gGt (eCB gLen (aCons (eVar 4) aNil)) (eCB gLen (aCons (eOp gIx (eVar 3) (eC (.int 0))) aNil))))) sBreak sNil) (sIf (tB1 (eOp gEq (eCall (T i307_law_open) (aCons (eVar 1) (aCons (eDat (aLc (iAny (eVar 4)) [7] (gNm 7) tTrue (eOp gIx (eVar 0) (eVar 7)))) aNil))) (eDat (aLst aNil)))) (sExpr (eApp2 (eVar 3) (eVar 4))) sNil))) (sSeq (sIf (tOrr (tB1 (eOp gNe (eCB gRepr (aCons (eCall (T i630_fewest_spans) (aCons (eVar 0) aNil)) aNil)) (eCB gRepr (aCons (eOp gIx (eVar 3) (eC (.int 0))) aNil)))) (tB1 (eOp gNe (eCB gRepr (aCons (eCall (T i629_set_count) (aCons (eVar 0) aNil)) aNil)) (eCB gRepr (aCons (eCB gLen (aCons (eVar 3) aNil)) aNil))))) (sRet (eC (.bl false))) sNil) (sSeq (sSet 5 (eDat (aLRg (eCB gLen (aCons (eVar 0) aNil))))) (sSeq (sSet 6 (eCB gTuple (aCons (eDat (aLc (iAny (eVar 5)) [7] (gNm 7) (tTr (eCB gAny (aCons (eDat (aLc (iAny (eVar 3)) [4] (gNm 4) tTrue (eOp gIn (eVar 7) (eVar 4)))) aNil))) (eVar 7))) aNil))) (sSeq (sIf (tB1 (eOp gNe (eCB gRepr (aCons (eCall (T i631_in_some_set) (aCons (eVar 0) aNil)) aNil)) (eCB gRepr (aCons (eVar 6) aNil)))) (sRet (eC (.bl false))) sNil) (sSeq (sSet 6 (eCB gTuple (aCons (eDat (aLc (iAny (eVar 5)) [7] (gNm 7) (tTr (eCB gAll (aCons (eDat (aLc (iAny (eVar 3)) [4] (gNm 4) tTrue (eOp gIn (eVar 7) (eVar 4)))) aNil))) (eVar 7))) aNil))) (sRet (eAn (eOp gEq (eCB gRepr (aCons (eCall (T i632_in_each_set) (aCons (eVar 0) aNil)) aNil)) (eCB gRepr (aCons (eVar 6) aNil))) (eOp gEq (eCB gRepr (aCons (eVar 0) aNil)) (eVar 2)))))))))))
def m634_law_right (T : Nat → Fn) : AS := (sRet (eCB gAll (aCons (eDat (aLc (iRng (aCons (eC (.int 8)) aNil)) [1] (gNm 1) tTrue (eCall (T i633_law_row_right) (aCons (eCall (T i288_law_row) (aCons (eVar 0) (aCons (eC (.int 9)) aNil))) aNil)))) aNil)))
def m1026_law (T : Nat → Fn) : AS := (sRet (eCB gAll (aCons (eDat (aLc (iRng (aCons (eCB gMax (aCons (eC (.int 1)) (aCons (eCB gMin (aCons (eC (.int 3)) (aCons (eCB gLen (aCons (eVar 0) aNil)) aNil))) aNil))) aNil)) [1] (gNm 1) tTrue (eCall (T i634_law_right) (aCons (eCall (T i13_law_hand) (aCons (eVar 0) (aCons (eVar 1) aNil))) aNil)))) aNil)))
end Lr
local macro_rules | `(tactic| decreasing_trivial) => `(tactic| repeat' (with_reducible (first   | refine Lr.o_seq ?_ | refine Lr.o_set ?_ | refine Lr.o_ret ?_ | refine Lr.o_expr ?_ | refine Lr.o_if ?_ | refine Lr.o_nil ?_ | refine Lr.o_for ?_ | refine Lr.o_sub ?_ | refine Lr.o_par ?_ | refine Lr.o_asg ?_   | refine Lr.w_c ?_ | refine Lr.w_op ?_ | refine Lr.w_nil ?_ | refine Lr.w_cons ?_ | refine Lr.w_call ?_ | refine Lr.w_cb ?_ | refine Lr.w_acb ?_ | refine Lr.w_tup ?_ | refine Lr.w_lst ?_ | refine Lr.w_new ?_ | refine Lr.w_dat ?_   | refine Lr.w_if ?_ | refine Lr.w_b1 ?_ | refine Lr.w_nt ?_ | refine Lr.w_an ?_ | refine Lr.w_orr ?_ | refine Lr.w_tr ?_ | refine Lr.w_add ?_ | refine Lr.w_addB ?_ | refine Lr.w_subB ?_ | refine Lr.w_strB ?_ | refine Lr.w_sub ?_ | refine Lr.w_lt ?_ | refine Lr.w_le ?_ | refine Lr.w_gt ?_ | refine Lr.w_ge ?_ | refine Lr.w_neg ?_   | refine Lr.w_lenT ?_ | refine Lr.w_lenL ?_ | refine Lr.w_lenC ?_ | refine Lr.w_abs ?_ | refine Lr.w_max ?_ | refine Lr.w_min ?_ | refine Lr.w_intI ?_ | refine Lr.w_intB ?_ | refine Lr.w_tupT ?_ | refine Lr.w_tupL ?_ | refine Lr.w_lisT ?_   | refine Lr.w_chain ?_ | refine Lr.w_eAn ?_ | refine Lr.w_eOr ?_ | refine Lr.w_eNt ?_ | refine Lr.w_oN ?_ | refine Lr.w_oS ?_ | refine Lr.w_sl ?_ | refine Lr.w_rev ?_ | refine Lr.w_cat ?_ | refine Lr.w_app ?_ | refine Lr.w_ext ?_ | refine Lr.w_dic0 ?_ | refine Lr.w_dic1 ?_ | refine Lr.w_rng ?_ | refine Lr.w_lcU ?_ | refine Lr.w_dcU ?_ | refine Lr.w_dnew ?_ | refine Lr.w_dkeep ?_ | refine Lr.w_upd ?_ | refine Lr.o_dput ?_ | refine Lr.w_pop0 ?_ | refine Lr.w_pop1 ?_ | refine Lr.o_while ?_ | refine Lr.w_ok ?_   | (apply Lr.w_var; with_unfolding_all exact rfl)   | (refine Exists.intro _ (And.intro rfl ?_)) | fail)))
local macro_rules | `(tactic| decreasing_trivial_pre_omega) => `(tactic| (decreasing_trivial; repeat ((first | (with_reducible (refine Lr.w_len (by simp; done) ?_)) | (with_reducible (refine Lr.w_pow (by decide) (by decide) (by decide) ?_)) | fail); decreasing_trivial)))
namespace Lr
open PySem PySem.Spec L2
theorem take_draws (T : Nat → Fn) {n : Nat} {many : Int} (h1 : 1 ≤ many) (h2 : many < 4611686018427387904) : Draws (fnR 5 2 (m2_law_take T)) n [.loc n, .int many] 1 (fun v => ∃ d, v = .int d ∧ 0 ≤ d ∧ d < many) := by
  refine Draws.of rfl fun μ B hb hs => ?_
  have hn := hs.lt
  obtain ⟨g, c, m, e, g0, c0, c1, m0, m1⟩ := hs
  have hm : (0 : Int) < many := by omega
  simp only [startA_s, List.map_cons, List.map_nil, List.length_cons, List.length_nil, Nat.reduceAdd, Nat.reduceSub, List.replicate_succ, List.replicate_zero, List.cons_append, List.nil_append]
  unfold m2_law_take
  decreasing_trivial
  refine w_ixO e rfl ?_
  decreasing_trivial
  by_cases hg : 0 < g
  · rw [if_pos (decide_eq_true hg)]
    decreasing_trivial
    refine w_ixO e rfl ?_
    decreasing_trivial
    refine w_mod hm ?_
    decreasing_trivial
    refine w_ixO e rfl ?_
    decreasing_trivial
    refine w_div hm (by omega) ?_
    decreasing_trivial
    refine ⟨n, _, 0, 0, rfl, rfl, e, rfl, ?_⟩
    decreasing_trivial
    exact ⟨rfl, Ext.set (Ext.refl n μ) _ (.inr rfl), ⟨g / many, c, m, by simp [hn], Int.ediv_nonneg g0 (by omega), c0, c1, m0, by omega⟩, _, rfl, Int.emod_nonneg _ (by omega), Int.emod_lt_of_pos _ hm⟩
  · rw [if_neg (by simpa using hg)]
    decreasing_trivial
    refine w_ixO e rfl ?_
    decreasing_trivial
    refine ⟨n, _, 2, 2, rfl, rfl, e, rfl, ?_⟩
    have e' : (μ.set n (.lst ([AV.int g, .int c, .int m].set 2 (.int (m + 1)))))[n]? = some (.lst [.int g, .int c, .int (m + 1)]) := by simp [hn]
    have x1 : Ext n μ (μ.set n (.lst ([AV.int g, .int c, .int m].set 2 (.int (m + 1))))) := Ext.set (Ext.refl n μ) _ (.inr rfl)
    revert e' x1
    generalize μ.set n (.lst ([AV.int g, .int c, .int m].set 2 (.int (m + 1)))) = σ
    intro e' x1
    decreasing_trivial
    refine ⟨by decide, ?_⟩
    decreasing_trivial
    refine w_ixO e' rfl ?_
    decreasing_trivial
    refine w_mod (by decide) ?_
    obtain ⟨p, hp, hpm⟩ : ∃ p : Int, atI [AV.int 2147483647, .int 2147483629, .int 2147483587, .int 2147483579, .int 2147483563] ((m + 1) % 5) = some (.int p) ∧ 2147483563 ≤ p ∧ p ≤ 2147483647 := by
      have : (m + 1) % 5 = 0 ∨ (m + 1) % 5 = 1 ∨ (m + 1) % 5 = 2 ∨ (m + 1) % 5 = 3 ∨ (m + 1) % 5 = 4 := by omega
      rcases this with h | h | h | h | h <;> rw [h] <;> exact ⟨_, rfl, by decide, by decide⟩
    have hp0 : 0 < p := by omega
    refine w_ixL hp ?_
    decreasing_trivial
    refine w_ixO e' rfl ?_
    decreasing_trivial
    refine w_ixO e' rfl ?_
    refine w_mul (mulOk_l (by decide)) ?_
    decreasing_trivial
    refine w_pow (by decide) (by decide) (by omega) ?_
    decreasing_trivial
    refine w_mod hp0 ?_
    have d0 : 0 ≤ (c + 7919 * (m + 1)) ^ (3 : Int).toNat % p := Int.emod_nonneg _ (by omega)
    have d1 : (c + 7919 * (m + 1)) ^ (3 : Int).toNat % p < p := Int.emod_lt_of_pos _ hp0
    revert d0 d1
    generalize (c + 7919 * (m + 1)) ^ (3 : Int).toNat % p = d
    intro d0 d1
    decreasing_trivial
    refine w_mod (by decide) ?_
    decreasing_trivial
    refine w_ixO e' rfl ?_
    decreasing_trivial
    refine w_mul (mulOk_l (by omega)) ?_
    decreasing_trivial
    refine w_mod hp0 ?_
    decreasing_trivial
    refine w_div (by decide) (by decide) ?_
    decreasing_trivial
    refine w_mod hm ?_
    exact ⟨rfl, x1, ⟨g, c, m + 1, e', g0, c0, c1, by omega, by omega⟩, _, rfl, Int.emod_nonneg _ (by omega), Int.emod_lt_of_pos _ hm⟩
def TakeOk (f : Fn) : Prop := ∀ (n : Nat) (many : Int), 1 ≤ many → many < 4611686018427387904 → Draws f n [.loc n, .int many] 1 (fun v => ∃ d, v = .int d ∧ 0 ≤ d ∧ d < many)
def OfOk (f : Fn) : Prop := ∀ (n : Nat) (xs : List AV), xs ≠ [] → xs.length ≤ 16777216 → pureL xs = true → Draws f n [.loc n, .lst xs] 1 (fun v => v ∈ xs)
def OfOk2 (f : Fn) : Prop := ∀ (n l : Nat) (xs : List AV) (μ : Store) (B : Nat), l ≠ n → xs ≠ [] → xs.length ≤ 16777216 → pureL xs = true → μ[l]? = some (.lst xs) → B + 1 ≤ 1000000000 → Hst μ n B → wp (f [.loc n, .loc l] μ) fun v σ => Stp n μ σ ∧ Hst σ n (B + 1) ∧ pure? v = true ∧ v ∈ xs
theorem pure_mem {v : AV} {xs : List AV} (h : pureL xs = true) (m : v ∈ xs) : pure? v = true := by
  rw [pureL_all] at h
  exact List.all_eq_true.mp h v m
theorem of_ok (T : Nat → Fn) (ht : TakeOk (T i2_law_take)) : OfOk (fnR 2 2 (m3_law_of T)) := fun n xs hne hz hp => by
  refine Draws.of rfl fun μ B hb hs => ?_
  simp only [startA_s, List.map_cons, List.map_nil, List.length_cons, List.length_nil, Nat.reduceAdd, Nat.reduceSub, List.replicate_succ, List.replicate_zero, List.cons_append, List.nil_append]
  unfold m3_law_of
  decreasing_trivial
  have hl : 0 < xs.length := List.length_pos_iff.mpr hne
  refine (ht n xs.length (by omega) (by omega) μ B hb hs).mono fun v σ ⟨s1, h1, pv, d, e, d0, d1⟩ => ?_
  subst e
  obtain ⟨v, e, hm⟩ := atI_get d0 d1
  refine w_ixL e ?_
  exact ⟨pure_mem hp hm, s1.ext, h1, hm⟩
theorem of_ok2 (T : Nat → Fn) (ht : TakeOk (T i2_law_take)) : OfOk2 (fnR 2 2 (m3_law_of T)) := fun n l xs μ B hln hne hz hp e hb hs => by
  refine fn_wp rfl ?_
  simp only [startA_s, List.map_cons, List.map_nil, List.length_cons, List.length_nil, Nat.reduceAdd, Nat.reduceSub, List.replicate_succ, List.replicate_zero, List.cons_append, List.nil_append]
  unfold m3_law_of
  decreasing_trivial
  refine w_lenO e ?_
  decreasing_trivial
  have hl : 0 < xs.length := List.length_pos_iff.mpr hne
  refine (ht n xs.length (by omega) (by omega) μ B hb hs).mono fun v σ ⟨s1, h1, pv, d, e1, d0, d1⟩ => ?_
  subst e1
  obtain ⟨v, e2, hm⟩ := atI_get d0 d1
  refine w_ixO ((s1.2 l hln).trans e) e2 ?_
  obtain ⟨g1, g2, g3⟩ := s1.ext.gc h1 hs.lt
  exact ⟨pure_mem hp hm, g1, g2, g3, pure_mem hp hm, hm⟩
theorem o_seq2 {a b : AS} {ρ : Loc} {μ : Store} {D : Kt} (K : Loc → Store → Prop) (h1 : wo (a ρ μ) { D with nx := K }) (h2 : ∀ ρ1 μ1, K ρ1 μ1 → wo (b ρ1 μ1) D) : wo (sSeq a b ρ μ) D := by
  rw [wo_seq]
  exact h1.mono h2 (fun _ _ h => h) (fun _ _ h => h) (fun _ _ h => h)
def Pure1 (f : Fn) (as : List AV) (r : AV) : Prop := ∀ μ, wp (f as μ) fun v σ => v = r ∧ σ = μ
theorem Pure1.of {k m : Nat} {b : AS} {as : List AV} {r : AV} (hl : as.length = m) (h : ∀ μ, wo (b (startA k as) μ) { rt := fun v σ => σ = μ ∧ pure? v = true ∧ v = r }) : Pure1 (fnR k m b) as r := fun μ => by
  refine fn_wp hl ((h μ).mono (fun _ _ h => False.elim h) (fun v σ ⟨h1, h2, h3⟩ => ?_) (fun _ _ h => False.elim h) (fun _ _ h => False.elim h))
  subst h1
  exact ⟨h2, fun i o _ e => .inl e, h3, List.take_length⟩
theorem ite_k {b : Bool} {P Q : Prop} (h1 : b = true → P) (h2 : b = false → Q) : if b = true then P else Q := by
  cases b
  · rw [if_neg (by simp)]
    exact h2 rfl
  · rw [if_pos rfl]
    exact h1 rfl
theorem push_get {σ : Store} {xs : List AV} : (σ ++ [AO.lst xs])[σ.length]? = some (.lst xs) := by simp
theorem eqB_str {x : Str} {μ : Store} : eqB (.str x) (.str x) μ = some true := by simp [eqB, lsOf, eqv]
theorem ne_same {x : Str} {μ : Store} {Q : AV → Store → Prop} (h : Q (.bl false) μ) : wp (gNe (.str x) (.str x) μ) Q := w_gNe eqB_str (by simp [depM, lsOf, dep]) h
theorem rng_mem {n i : Nat} {v : AV} (h : (rangeL 0 n)[i]? = some v) : v = .int (i : Int) ∧ i < n := by
  unfold rangeL at h
  rw [List.getElem?_map] at h
  obtain ⟨k, hk, e⟩ := Option.map_eq_some_iff.mp h
  have := List.getElem?_eq_some_iff.mp hk
  obtain ⟨h1, h2⟩ := this
  simp at h1 h2
  subst e
  refine ⟨by rw [← h2]; simp, h1⟩
def HandOk (f : Fn) : Prop := ∀ (ns : List Int) (k : Int) (μ : Store), 0 ≤ k → k < 1000 → wp (f [.scr ns, .int k] μ) fun v σ => v = .loc μ.length ∧ σ.length = μ.length + 1 ∧ (∀ i, i < μ.length → σ[i]? = μ[i]?) ∧ Hst σ μ.length 0
theorem hand_ok (T : Nat → Fn) : HandOk (fnR 4 2 (m13_law_hand T)) := fun ns k μ k0 k1 => by
  refine fn_wpN rfl ?_
  simp only [startA_s, List.map_cons, List.map_nil, List.length_cons, List.length_nil, Nat.reduceAdd, Nat.reduceSub, List.replicate_succ, List.replicate_zero, List.cons_append, List.nil_append]
  unfold m13_law_hand
  refine o_seq2 (fun ρ1 σ => σ = μ ∧ ∃ c : Int, ρ1 = [some (.scr ns), some (.int k), some (.int c), none]) ?_ ?_
  · decreasing_trivial_pre_omega
    refine ite_k (fun h => ?_) (fun h => ?_)
    · have h := of_decide_eq_true h
      decreasing_trivial_pre_omega
      obtain ⟨c, e, _⟩ := atI_get (xs := ns) k0 (by omega)
      refine w_ixC e ?_
      exact ⟨rfl, c, rfl⟩
    · decreasing_trivial_pre_omega
      exact ⟨rfl, 0, rfl⟩
  · rintro ρ1 σ ⟨rfl, c, rfl⟩
    decreasing_trivial_pre_omega
    refine w_mul (by decide +kernel) ?_
    decreasing_trivial_pre_omega
    refine w_mul (by decide +kernel) ?_
    refine w_mod (by decide +kernel) ?_
    decreasing_trivial_pre_omega
    obtain ⟨z, hz⟩ : ∃ z : Int, z = (if c < 0 then -c else c) % (10 ^ Int.toNat 60 * 10 ^ Int.toNat 60 * 10 ^ Int.toNat 60) := ⟨_, rfl⟩
    have z0 : 0 ≤ z := by
      rw [hz]
      exact Int.emod_nonneg _ (by decide +kernel)
    rw [← hz]
    have hq : ∀ q : Bool, 0 ≤ (if q = true then (1 : Int) else 0) ∧ (if q = true then (1 : Int) else 0) ≤ 1 := fun q => by cases q <;> simp
    have hb := hq (decide (10 ^ Int.toNat 18 ≤ if c < 0 then -c else c))
    revert hb
    generalize (if decide (10 ^ Int.toNat 18 ≤ if c < 0 then -c else c) = true then (1 : Int) else 0) = y
    intro hb
    refine w_mul (mulOk_r (by omega)) ?_
    decreasing_trivial_pre_omega
    refine w_mod (by decide) ?_
    decreasing_trivial_pre_omega
    refine w_mul (mulOk_l (by decide)) ?_
    decreasing_trivial_pre_omega
    refine w_mul (mulOk_r (by decide)) ?_
    decreasing_trivial_pre_omega
    refine w_mod (by decide) ?_
    decreasing_trivial_pre_omega
    refine ⟨by simp [bel], rfl, by simp, fun i hi => by rw [List.getElem?_append_left hi], _, _, 0, push_get, Int.mul_nonneg z0 hb.1, Int.emod_nonneg _ (by decide), Int.emod_lt_of_pos _ (by decide), by decide, by decide⟩
theorem gcOk_pre {μ σ : Store} (h : μ <+: σ) : gcOk μ σ ∧ σ.take μ.length = μ := by
  obtain ⟨r, rfl⟩ := h
  refine ⟨fun i o hi e => .inl ?_, by simp⟩
  rw [List.getElem?_append_left hi] at e
  exact e
theorem Pure1.of' {k m : Nat} {b : AS} {as : List AV} {r : AV} (hl : as.length = m) (h : ∀ μ, wo (b (startA k as) μ) { rt := fun v σ => μ <+: σ ∧ pure? v = true ∧ v = r }) : Pure1 (fnR k m b) as r := fun μ => by
  refine fn_wp hl ((h μ).mono (fun _ _ h => False.elim h) (fun v σ ⟨h1, h2, h3⟩ => ?_) (fun _ _ h => False.elim h) (fun _ _ h => False.elim h))
  exact ⟨h2, (gcOk_pre h1).1, h3, (gcOk_pre h1).2⟩
end Lr
namespace Lr
open PySem PySem.Spec L2
section
variable {α β : Type} {ρ : Loc} {μ : Store} {D : Kt} {Q : AV → Store → Prop} {QL : List AV → Store → Prop} {QS : Src → Store → Prop}
theorem w_rep {a b : AE} (h : wp (a ρ μ) fun x μ1 => wp (b ρ μ1) fun y μ2 => ∃ xs k, lsOf μ2 x = some xs ∧ y = .int k ∧ 0 ≤ k ∧ k ≤ 1000 ∧ xs.length ≤ 1000 ∧ QL (List.replicate k.toNat xs).flatten μ2) : wp (aRep a b ρ μ) QL := by
  unfold aRep
  rw [wp_bind]
  refine h.mono fun x μ1 h => ?_
  rw [wp_bind]
  refine h.mono fun y μ2 h => ?_
  obtain ⟨xs, k, e, rfl, h1, h2, h3, h⟩ := h
  simp only [e, decide_eq_true h1, decide_eq_true h2, decide_eq_true h3, Bool.and_self, if_true]
  exact h
end
end Lr
namespace Lr
open PySem PySem.Spec L2
inductive RX where
  | ok (v : AV)
  | ex (c : Nat) (p : Option AV)
def RX.res (r : RX) (μ : Store) : Res AV := match r with
  | .ok v => .ok v μ
  | .ex c p => .ex c p μ
def RX.pure : RX → Bool
  | .ok v => pure? v
  | .ex _ none => true
  | .ex _ (some v) => pure? v
def PureX (f : Fn) (as : List AV) (r : RX) : Prop := ∀ μ, f as μ = r.res μ
theorem Pure1.eq {f : Fn} {as : List AV} {r : AV} (h : Pure1 f as r) : PureX f as (.ok r) := fun μ => by
  obtain ⟨v, σ, e, e1, e2⟩ := (h μ).elim
  subst e1 e2
  exact e
def woX (o : Out) (D : Kt) (E : Nat → Option AV → Store → Prop) : Prop := match o with
  | .nx ρ μ => D.nx ρ μ
  | .rt v μ => D.rt v μ
  | .bk ρ μ => D.bk ρ μ
  | .ct ρ μ => D.ct ρ μ
  | .ex c p _ μ => E c p μ
  | .bad => False
section
variable {α β : Type} {ρ : Loc} {μ : Store} {D : Kt} {Q : AV → Store → Prop} {QL : List AV → Store → Prop} {E : Nat → Option AV → Store → Prop}
theorem wpX.mono {r : Res α} {Q Q' : α → Store → Prop} {E' : Nat → Option AV → Store → Prop} (h : wpX r Q E) (k : ∀ a μ, Q a μ → Q' a μ) (k2 : ∀ c p μ, E c p μ → E' c p μ) : wpX r Q' E' := by
  cases r with
  | ok a μ => exact k a μ h
  | ex c p μ => exact k2 c p μ h
  | bad => exact False.elim h
theorem woX.mono {D' : Kt} {E' : Nat → Option AV → Store → Prop} {o : Out} (h : woX o D E) (h1 : ∀ ρ μ, D.nx ρ μ → D'.nx ρ μ) (h2 : ∀ v μ, D.rt v μ → D'.rt v μ) (h3 : ∀ ρ μ, D.bk ρ μ → D'.bk ρ μ) (h4 : ∀ ρ μ, D.ct ρ μ → D'.ct ρ μ) (h5 : ∀ c p μ, E c p μ → E' c p μ) : woX o D' E' := by
  cases o with
  | nx ρ μ => exact h1 _ _ h
  | rt v μ => exact h2 _ _ h
  | bk ρ μ => exact h3 _ _ h
  | ct ρ μ => exact h4 _ _ h
  | ex c p ρ μ => exact h5 _ _ _ h
  | bad => exact False.elim h
theorem gc_pure {σ : Store} {v : AV} (hp : pure? v = true) (h : μ <+: σ) : gc μ (.ok v σ) = .ok v μ := by
  unfold gc
  dsimp only
  obtain ⟨g1, g2⟩ := gcOk_pre h
  have hb : bel μ.length v = true := bel_pure μ.length v hp
  rw [if_pos ⟨hb, g1⟩, g2]
theorem PureX.of {k m : Nat} {b : AS} {as : List AV} {r : RX} (hl : as.length = m) (h : ∀ μ, woX (b (startA k as) μ) { nx := fun _ σ => μ <+: σ ∧ r = .ok .non, rt := fun v σ => μ <+: σ ∧ pure? v = true ∧ r = .ok v } fun c p σ => σ = μ ∧ r = .ex c p) : PureX (fnR k m b) as r := fun μ => by
  unfold fnR
  rw [if_pos hl]
  unfold bodyR
  have h := h μ
  cases e : b (startA k as) μ with
  | nx ρ σ =>
    rw [e] at h
    obtain ⟨h1, rfl⟩ := h
    exact gc_pure rfl h1
  | rt v σ =>
    rw [e] at h
    obtain ⟨h1, h2, rfl⟩ := h
    exact gc_pure h2 h1
  | ex c p ρ σ =>
    rw [e] at h
    obtain ⟨rfl, rfl⟩ := h
    rfl
  | bk ρ σ => rw [e] at h; exact False.elim h
  | ct ρ σ => rw [e] at h; exact False.elim h
  | bad => rw [e] at h; exact False.elim h
theorem w_fld {cs : List Nat} {f : Str} {r : AE} (h : wp (r ρ μ) fun x μ1 => ∃ n c fs v, x = .loc n ∧ μ1[n]? = some (.ins c fs) ∧ c ∈ cs ∧ fs.lookup f = some v ∧ Q v μ1) : wp (eFld cs f r ρ μ) Q := by
  unfold eFld
  rw [wp_bind]
  refine h.mono fun x μ1 h => ?_
  obtain ⟨n, c, fs, v, rfl, e, hc, hl, h⟩ := h
  rw [insAt_loc e]
  dsimp only
  rw [if_pos hc, hl]
  exact h
theorem o_fldP {cs : List Nat} {f : Str} {ro rv : AE} (h : wp (rv ρ μ) fun v μ1 => wp (ro ρ μ1) fun o μ2 => ∃ n c fs, o = .loc n ∧ μ2[n]? = some (.ins c fs) ∧ c ∈ cs ∧ fs.length < 1000 ∧ D.nx ρ (μ2.set n (.ins c (putFA f v fs)))) : wo (sFldP cs f ro rv ρ μ) D := by
  unfold sFldP
  rw [wo_out]
  refine h.mono fun v μ1 h => ?_
  rw [wo_out]
  refine h.mono fun o μ2 h => ?_
  obtain ⟨n, c, fs, rfl, e, hc, hz, h⟩ := h
  unfold putAt
  rw [insAt_loc e]
  dsimp only
  rw [if_pos ⟨hc, hz⟩]
  exact h
theorem w_meth {cs : List Nat} {m : Str} {rm : Nat → Fn} {ro : AE} {a : AA} (h : wp (ro ρ μ) fun o μ1 => ∃ n c fs, o = .loc n ∧ μ1[n]? = some (.ins c fs) ∧ c ∈ cs ∧ (fs.lookup m).isNone = true ∧ wp (a ρ μ1) fun as μ2 => wp (rm c (.loc n :: as) μ2) Q) : wp (eMeth cs m rm ro a ρ μ) Q := by
  unfold eMeth
  rw [wp_bind]
  refine h.mono fun o μ1 h => ?_
  obtain ⟨n, c, fs, rfl, e, hc, hz, h⟩ := h
  rw [insAt_loc e]
  dsimp only
  rw [if_pos ⟨hc, hz⟩, wp_bind]
  exact h
theorem w_mki {c : Nat} {r : Fn} {a : AA} (h : wp (a ρ μ) fun as μ1 => wp (r (.loc μ1.length :: as) (μ1 ++ [.ins c []])) fun v μ2 => v = .non ∧ Q (.loc μ1.length) μ2) : wp (eMkI c r a ρ μ) Q := by
  unfold eMkI
  rw [wp_bind]
  refine h.mono fun as μ1 h => ?_
  rw [wp_bind]
  refine h.mono fun v μ2 h => ?_
  obtain ⟨rfl, h⟩ := h
  exact h
theorem w_sortSet {r : AE} (h : wp (r ρ μ) fun x μ1 => ∃ xs ns, lsOf μ1 x = some xs ∧ intsOf xs = some ns ∧ ns.length ≤ 4000 ∧ (sortD ns).length < 64 ∧ QL ((sortD ns).map AV.int) μ1) : wp (aSortSet r ρ μ) QL := by
  unfold aSortSet
  rw [wp_bind]
  refine h.mono fun x μ1 h => ?_
  obtain ⟨xs, ns, e1, e2, h1, h2, h⟩ := h
  simp only [e1, e2]
  rw [if_pos ⟨h1, h2⟩]
  exact h
theorem w_lRg {r : AE} (h : wp (r ρ μ) fun x μ1 => ∃ j : Int, x = .int j ∧ 0 ≤ j ∧ j ≤ 1000000 ∧ QL (rangeL 0 j.toNat) μ1) : wp (aLRg r ρ μ) QL := by
  unfold aLRg
  rw [wp_bind]
  refine h.mono fun x μ1 h => ?_
  obtain ⟨j, rfl, h1, h2, h⟩ := h
  simp only [decide_eq_true h1, decide_eq_true h2, Bool.and_self, if_true]
  exact h
end
end Lr
set_option maxHeartbeats 1000000
namespace Lr
open PySem PySem.Spec L2
def hasU (s : Int × Int) (u : Int) : Prop := s.1 ≤ u ∧ u < s.2
instance (s : Int × Int) (u : Int) : Decidable (hasU s u) := inferInstanceAs (Decidable (_ ∧ _))
def busyU (row : List (Int × Int)) (u : Int) : Prop := ∃ s ∈ row, hasU s u
def NxOk (row : List (Int × Int)) (nx : Int → Option Int) : Prop := ∀ p, match nx p with
  | some u => p ≤ u ∧ busyU row u ∧ ∀ v, p ≤ v → busyU row v → u ≤ v
  | none => ∀ v, p ≤ v → ¬ busyU row v
def CovU (row : List (Int × Int)) (p : Option Int) (S : List Nat) : Prop := match p with
  | none => True
  | some p => ∀ u, p ≤ u → busyU row u → ∃ i ∈ S, ∃ s, row[i]? = some s ∧ hasU s u
section
variable {row : List (Int × Int)} {nx : Int → Option Int}
theorem NxOk.sm {p u : Int} (h : NxOk row nx) (e : nx p = some u) : p ≤ u ∧ busyU row u ∧ ∀ v, p ≤ v → busyU row v → u ≤ v := by
  have := h p
  rw [e] at this
  exact this
theorem NxOk.nn {p : Int} (h : NxOk row nx) (e : nx p = none) : ∀ v, p ≤ v → ¬ busyU row v := by
  have := h p
  rw [e] at this
  exact this
theorem cov_nx (h : NxOk row nx) {p : Int} {S : List Nat} (c : CovU row (nx p) S) : CovU row (some p) S := fun u hu hb => by
  cases e : nx p with
  | none => exact absurd hb (h.nn e u hu)
  | some q =>
    rw [e] at c
    exact c u ((h.sm e).2.2 u hu hb) hb
theorem cov_of (h : NxOk row nx) {p : Int} {S : List Nat} (c : CovU row (some p) S) : CovU row (nx p) S := by
  cases e : nx p with
  | none => trivial
  | some q =>
    intro u hu hb
    exact c u (by have := (h.sm e).1; omega) hb
theorem cov_erase {p : Int} {S : List Nat} {i : Nat} {s : Int × Int} (hr : row[i]? = some s) (c : CovU row (some p) S) (hs : hasU s p) : CovU row (some s.2) (S.erase i) := fun u hu hb => by
  obtain ⟨j, hj, t, ht, hu2⟩ := c u (by have := hs.2; omega) hb
  have hij : j ≠ i := fun z => by
    subst z
    rw [hr] at ht
    cases ht
    have := hu2.2
    omega
  exact ⟨j, (List.mem_erase_of_ne hij).mpr hj, t, ht, hu2⟩
theorem cov_cons {p : Int} {S : List Nat} {i : Nat} {s : Int × Int} (hr : row[i]? = some s) (hs : hasU s p) (c : CovU row (some s.2) S) : CovU row (some p) (i :: S) := fun u hu hb => by
  by_cases z : u < s.2
  · exact ⟨i, .head _, s, hr, by have := hs.1; omega, z⟩
  · obtain ⟨j, hj, r⟩ := c u (by omega) hb
    exact ⟨j, .tail _ hj, r⟩
def spans1 (row : List (Int × Int)) (p : Int) : List (Nat × (Int × Int)) := row.zipIdx.filterMap fun x => if hasU x.1 p then some (x.2, x.1) else none
theorem mem_spans1 {p : Int} {i : Nat} {s : Int × Int} : (i, s) ∈ spans1 row p ↔ row[i]? = some s ∧ hasU s p := by
  unfold spans1
  rw [List.mem_filterMap]
  constructor
  · rintro ⟨x, hx, e⟩
    split at e
    · rename_i h
      cases e
      exact ⟨List.mem_zipIdx_iff_getElem?.mp hx, h⟩
    · cases e
  · rintro ⟨h1, h2⟩
    exact ⟨(s, i), List.mem_zipIdx_iff_getElem?.mpr h1, by rw [if_pos h2]⟩
def mnL (xs : List Nat) : Nat := xs.foldl min (xs.headD 0)
def fewN (row : List (Int × Int)) (nx : Int → Option Int) : Nat → Option Int → Nat
  | 0, _ => 0
  | _ + 1, none => 0
  | k + 1, some p => 1 + mnL ((spans1 row p).map fun x => fewN row nx k (nx x.2.2))
def firstN (row : List (Int × Int)) (nx : Int → Option Int) (k : Nat) (p : Int) : List (Nat × (Int × Int)) := (spans1 row p).filter fun x => fewN row nx k (nx x.2.2) == mnL ((spans1 row p).map fun x => fewN row nx k (nx x.2.2))
def chainsN (row : List (Int × Int)) (nx : Int → Option Int) : Nat → Option Int → List (List Nat)
  | 0, _ => [[]]
  | _ + 1, none => [[]]
  | k + 1, some p => (firstN row nx k p).flatMap fun x => (chainsN row nx k (nx x.2.2)).map (x.1 :: ·)
theorem foldl_min_le : ∀ (xs : List Nat) (a : Nat), xs.foldl min a ≤ a ∧ ∀ x ∈ xs, xs.foldl min a ≤ x
  | [], a => ⟨Nat.le_refl _, fun x h => (nomatch h)⟩
  | y :: xs, a => by
    obtain ⟨h1, h2⟩ := foldl_min_le xs (min a y)
    rw [List.foldl_cons]
    refine ⟨by omega, fun x hx => ?_⟩
    rcases List.mem_cons.mp hx with rfl | hx
    · omega
    · exact h2 x hx
theorem foldl_min_mem : ∀ (xs : List Nat) (a : Nat), xs.foldl min a = a ∨ xs.foldl min a ∈ xs
  | [], a => .inl rfl
  | y :: xs, a => by
    rw [List.foldl_cons]
    rcases foldl_min_mem xs (min a y) with h | h
    · by_cases z : a ≤ y
      · exact .inl (by rw [h]; omega)
      · exact .inr (by rw [h, Nat.min_eq_right (by omega)]; exact .head _)
    · exact .inr (.tail _ h)
theorem mnL_le {xs : List Nat} {x : Nat} (h : x ∈ xs) : mnL xs ≤ x := (foldl_min_le xs _).2 x h
theorem mnL_mem {xs : List Nat} (h : xs ≠ []) : mnL xs ∈ xs := by
  unfold mnL
  cases xs with
  | nil => exact absurd rfl h
  | cons y xs =>
    rcases foldl_min_mem (y :: xs) ((y :: xs).headD 0) with e | e
    · rw [e]
      exact .head _
    · exact e
def GoodP (row : List (Int × Int)) : Option Int → Prop
  | none => True
  | some p => busyU row p
def measP (M : Int) : Option Int → Nat
  | none => 0
  | some p => (M - p).toNat + 1
theorem NxOk.good (h : NxOk row nx) (p : Int) : GoodP row (nx p) := by
  cases e : nx p with
  | none => trivial
  | some q => exact (h.sm e).2.1
theorem NxOk.meas (h : NxOk row nx) {M : Int} (hM : ∀ s ∈ row, s.2 ≤ M) {p e : Int} (hb : p < e) (he : e ≤ M) : measP M (nx e) < measP M (some p) := by
  cases z : nx e with
  | none => exact Nat.succ_pos _
  | some q =>
    obtain ⟨h1, ⟨s, hs, h2⟩, _⟩ := h.sm z
    have := hM s hs
    have := h2.2
    show (M - q).toNat + 1 < (M - p).toNat + 1
    omega
theorem spans1_ne {p : Int} (h : busyU row p) : spans1 row p ≠ [] := by
  obtain ⟨s, hs, hu⟩ := h
  obtain ⟨i, hi, e⟩ := List.getElem_of_mem hs
  intro z
  have := (mem_spans1 (row := row) (p := p) (i := i) (s := s)).mpr ⟨by rw [List.getElem?_eq_getElem hi, e], hu⟩
  rw [z] at this
  cases this
theorem few_le (h : NxOk row nx) {M : Int} (hM : ∀ s ∈ row, s.2 ≤ M) : ∀ (k : Nat) (p : Option Int) (S : List Nat), measP M p ≤ k → GoodP row p → CovU row p S → fewN row nx k p ≤ S.length
  | 0, _, _, _, _, _ => Nat.zero_le _
  | k + 1, none, _, _, _, _ => Nat.zero_le _
  | k + 1, some p, S, hk, hg, hc => by
    obtain ⟨i, hi, s, hr, hs⟩ := hc p (Int.le_refl _) hg
    have hm := h.meas hM hs.2 (hM s (List.mem_of_getElem? hr))
    have ih := few_le h hM k (nx s.2) (S.erase i) (by omega) (h.good _) (cov_of h (cov_erase hr hc hs))
    have h1 : mnL ((spans1 row p).map fun x => fewN row nx k (nx x.2.2)) ≤ fewN row nx k (nx s.2) := mnL_le (List.mem_map.mpr ⟨(i, s), mem_spans1.mpr ⟨hr, hs⟩, rfl⟩)
    have h2 := List.length_erase_of_mem hi
    have h3 : 0 < S.length := List.length_pos_of_mem hi
    show 1 + mnL _ ≤ S.length
    omega
theorem chain_ok (h : NxOk row nx) {M : Int} (hM : ∀ s ∈ row, s.2 ≤ M) : ∀ (k : Nat) (p : Option Int) (c : List Nat), measP M p ≤ k → GoodP row p → c ∈ chainsN row nx k p → CovU row p c ∧ c.length = fewN row nx k p ∧ ∀ i ∈ c, i < row.length
  | 0, none, c, _, _, hc => by
    rw [List.mem_singleton.mp hc]
    exact ⟨trivial, rfl, fun i h => (nomatch h)⟩
  | 0, some p, c, hk, _, _ => absurd hk (by simp [measP])
  | k + 1, none, c, _, _, hc => by
    rw [List.mem_singleton.mp hc]
    exact ⟨trivial, rfl, fun i h => (nomatch h)⟩
  | k + 1, some p, c, hk, hg, hc => by
    obtain ⟨x, hx, hc⟩ := List.mem_flatMap.mp hc
    obtain ⟨c', hc', rfl⟩ := List.mem_map.mp hc
    obtain ⟨h1, h2⟩ := List.mem_filter.mp hx
    obtain ⟨hr, hs⟩ := mem_spans1.mp h1
    have hm := h.meas hM hs.2 (hM _ (List.mem_of_getElem? hr))
    obtain ⟨g1, g2, g3⟩ := chain_ok h hM k (nx x.2.2) c' (by omega) (h.good _) hc'
    have h2 := eq_of_beq h2
    refine ⟨cov_cons hr hs (cov_nx h g1), ?_, fun i hi => ?_⟩
    · rw [List.length_cons, g2, h2]
      show _ = 1 + mnL _
      omega
    · rcases List.mem_cons.mp hi with rfl | hi
      · exact (List.getElem?_eq_some_iff.mp hr).1
      · exact g3 i hi
theorem chain_ex (h : NxOk row nx) {M : Int} (hM : ∀ s ∈ row, s.2 ≤ M) : ∀ (k : Nat) (p : Option Int) (S : List Nat), measP M p ≤ k → GoodP row p → CovU row p S → S.length = fewN row nx k p → ∃ c ∈ chainsN row nx k p, c.Perm S
  | 0, none, S, _, _, _, hl => ⟨[], .head _, by rw [List.length_eq_zero_iff.mp hl]⟩
  | 0, some p, S, hk, _, _, _ => absurd hk (by simp [measP])
  | k + 1, none, S, _, _, _, hl => ⟨[], .head _, by rw [List.length_eq_zero_iff.mp hl]⟩
  | k + 1, some p, S, hk, hg, hc, hl => by
    obtain ⟨i, hi, s, hr, hs⟩ := hc p (Int.le_refl _) hg
    have hm := h.meas hM hs.2 (hM s (List.mem_of_getElem? hr))
    have cv := cov_of h (cov_erase hr hc hs)
    have hlow := few_le h hM k (nx s.2) (S.erase i) (by omega) (h.good _) cv
    have h1 : mnL ((spans1 row p).map fun x => fewN row nx k (nx x.2.2)) ≤ fewN row nx k (nx s.2) := mnL_le (List.mem_map.mpr ⟨(i, s), mem_spans1.mpr ⟨hr, hs⟩, rfl⟩)
    have h2 := List.length_erase_of_mem hi
    have h3 : 0 < S.length := List.length_pos_of_mem hi
    have hl : S.length = 1 + mnL ((spans1 row p).map fun x => fewN row nx k (nx x.2.2)) := hl
    obtain ⟨c, hc1, hc2⟩ := chain_ex h hM k (nx s.2) (S.erase i) (by omega) (h.good _) cv (by omega)
    refine ⟨i :: c, List.mem_flatMap.mpr ⟨(i, s), List.mem_filter.mpr ⟨mem_spans1.mpr ⟨hr, hs⟩, ?_⟩, List.mem_map.mpr ⟨c, hc1, rfl⟩⟩, (hc2.cons i).trans (List.perm_cons_erase hi).symm⟩
    exact beq_iff_eq.mpr (by dsimp only; omega)
theorem chain_inj (h : NxOk row nx) {M : Int} (hM : ∀ s ∈ row, s.2 ≤ M) : ∀ (k : Nat) (p : Option Int) (c d : List Nat), measP M p ≤ k → GoodP row p → c ∈ chainsN row nx k p → d ∈ chainsN row nx k p → c.Perm d → c = d
  | 0, _, c, d, _, _, hc, hd, _ => by rw [List.mem_singleton.mp hc, List.mem_singleton.mp hd]
  | k + 1, none, c, d, _, _, hc, hd, _ => by rw [List.mem_singleton.mp hc, List.mem_singleton.mp hd]
  | k + 1, some p, c, d, hk, hg, hc, hd, hp => by
    obtain ⟨g1, g2, _⟩ := chain_ok h hM (k + 1) (some p) c hk hg hc
    obtain ⟨x, hx, hc⟩ := List.mem_flatMap.mp hc
    obtain ⟨c', hc', rfl⟩ := List.mem_map.mp hc
    obtain ⟨y, hy, hd⟩ := List.mem_flatMap.mp hd
    obtain ⟨d', hd', rfl⟩ := List.mem_map.mp hd
    obtain ⟨hrx, hsx⟩ := mem_spans1.mp (List.mem_filter.mp hx).1
    obtain ⟨hry, hsy⟩ := mem_spans1.mp (List.mem_filter.mp hy).1
    have hm := h.meas hM hsx.2 (hM _ (List.mem_of_getElem? hrx))
    by_cases e : x.1 = y.1
    · have exy : x = y := by
        refine Prod.ext e ?_
        rw [e, hry] at hrx
        exact (Option.some.inj hrx).symm
      subst exy
      rw [chain_inj h hM k (nx x.2.2) c' d' (by omega) (h.good _) hc' hd' ((List.perm_cons x.1).mp hp)]
    · exfalso
      -- two spans of one chain have the place: one can go
      have hyc : y.1 ∈ x.1 :: c' := hp.symm.subset (.head _)
      have drop : ∀ (a b : Nat) (sa sb : Int × Int), a ∈ x.1 :: c' → b ∈ x.1 :: c' → a ≠ b → row[a]? = some sa → row[b]? = some sb → hasU sa p → hasU sb p → sa.2 ≤ sb.2 → False := fun a b sa sb ha hb hab ra rb ua ub hle => by
        have cv : CovU row (some p) ((x.1 :: c').erase a) := fun u hu hbu => by
          obtain ⟨j, hj, t, ht, hu2⟩ := g1 u hu hbu
          by_cases z : j = a
          · subst z
            rw [ra] at ht
            cases ht
            exact ⟨b, (List.mem_erase_of_ne (Ne.symm hab)).mpr hb, sb, rb, by have := ub.1; omega, by have := hu2.2; omega⟩
          · exact ⟨j, (List.mem_erase_of_ne z).mpr hj, t, ht, hu2⟩
        have := few_le h hM (k + 1) (some p) _ hk hg cv
        have h2 := List.length_erase_of_mem ha
        have h3 : 0 < (x.1 :: c').length := Nat.succ_pos _
        omega
      by_cases z : x.2.2 ≤ y.2.2
      · exact drop _ _ _ _ (.head _) hyc e hrx hry hsx hsy z
      · exact drop _ _ _ _ hyc (.head _) (Ne.symm e) hry hrx hsy hsx (by omega)
end
end Lr
set_option maxHeartbeats 1000000
namespace Lr
open PySem PySem.Spec L2
theorem dup_ex : ∀ {c : List Nat}, ¬ c.Nodup → ∃ a ∈ c, a ∈ c.erase a
  | [], h => absurd .nil h
  | x :: c, h => by
    by_cases hx : x ∈ c
    · exact ⟨x, .head _, by rw [List.erase_cons_head]; exact hx⟩
    · have hc : ¬ c.Nodup := fun z => h (List.nodup_cons.mpr ⟨hx, z⟩)
      obtain ⟨a, ha, ha2⟩ := dup_ex hc
      have hne : x ≠ a := fun z => hx (z ▸ ha)
      refine ⟨a, .tail _ ha, ?_⟩
      rw [List.erase_cons_tail (by simpa using hne)]
      exact .tail _ ha2
section
variable {row : List (Int × Int)} {nx : Int → Option Int}
theorem chain_nd (h : NxOk row nx) {M : Int} (hM : ∀ s ∈ row, s.2 ≤ M) {k : Nat} {p : Option Int} {c : List Nat} (hk : measP M p ≤ k) (hg : GoodP row p) (hc : c ∈ chainsN row nx k p) : c.Nodup := by
  obtain ⟨g1, g2, _⟩ := chain_ok h hM k p c hk hg hc
  apply Classical.byContradiction
  intro z
  obtain ⟨a, ha, ha2⟩ := dup_ex z
  have cv : CovU row p (c.erase a) := by
    cases p with
    | none => trivial
    | some p =>
      intro u hu hb
      obtain ⟨j, hj, r⟩ := g1 u hu hb
      by_cases e : j = a
      · exact ⟨a, ha2, e ▸ r⟩
      · exact ⟨j, (List.mem_erase_of_ne e).mpr hj, r⟩
  have := few_le h hM k p _ hk hg cv
  have h2 := List.length_erase_of_mem ha
  have h3 := List.length_pos_of_mem ha
  omega
theorem spans1_nd (p : Int) : (spans1 row p).Pairwise fun a b => a.1 ≠ b.1 := by
  unfold spans1
  rw [List.pairwise_filterMap]
  have hz : row.zipIdx.Pairwise fun a b => a.2 ≠ b.2 := by
    rw [List.pairwise_iff_getElem]
    intro i j hi hj hij e
    simp only [List.getElem_zipIdx] at e
    omega
  refine hz.imp ?_
  intro a b hab x hx y hy
  split at hx
  · split at hy
    · cases hx
      cases hy
      exact hab
    · cases hy
  · cases hx
theorem chains_nodup : ∀ (k : Nat) (p : Option Int), (chainsN row nx k p).Nodup
  | 0, p => by simp [chainsN]
  | k + 1, none => by simp [chainsN]
  | k + 1, some p => by
    show ((firstN row nx k p).flatMap fun x => (chainsN row nx k (nx x.2.2)).map (x.1 :: ·)).Nodup
    rw [List.nodup_iff_pairwise_ne, List.pairwise_flatMap]
    refine ⟨fun x _ => ?_, ?_⟩
    · rw [List.pairwise_map]
      exact (List.nodup_iff_pairwise_ne.mp (chains_nodup k (nx x.2.2))).imp fun h e => h (List.cons.inj e).2
    · refine ((spans1_nd p).filter _).imp ?_
      intro a b hab c hc d hd e
      obtain ⟨c', _, rfl⟩ := List.mem_map.mp hc
      obtain ⟨d', _, rfl⟩ := List.mem_map.mp hd
      exact hab (List.cons.inj e).1
def cntN (row : List (Int × Int)) (nx : Int → Option Int) (k : Nat) (p : Option Int) (i : Nat) : Nat := ((chainsN row nx k p).filter fun c => decide (i ∈ c)).length
theorem filter_len_map {α β : Type} (f : α → β) (q : β → Bool) (xs : List α) : ((xs.map f).filter q).length = (xs.filter fun a => q (f a)).length := by
  rw [List.filter_map, List.length_map]
  rfl
theorem flat_len {α β : Type} (f : α → List β) (q : β → Bool) : ∀ xs : List α, ((xs.flatMap f).filter q).length = (xs.map fun a => ((f a).filter q).length).sum
  | [] => rfl
  | a :: xs => by
    rw [List.flatMap_cons, List.filter_append, List.length_append, flat_len f q xs, List.map_cons, List.sum_cons]
theorem cnt_step (h : NxOk row nx) {M : Int} (hM : ∀ s ∈ row, s.2 ≤ M) {k : Nat} {p : Int} (hk : measP M (some p) ≤ k + 1) (hg : busyU row p) (i : Nat) : cntN row nx (k + 1) (some p) i = ((firstN row nx k p).map fun x => if x.1 = i then (chainsN row nx k (nx x.2.2)).length else cntN row nx k (nx x.2.2) i).sum := by
  unfold cntN
  show (((firstN row nx k p).flatMap fun x => (chainsN row nx k (nx x.2.2)).map (x.1 :: ·)).filter _).length = _
  rw [flat_len]
  congr 1
  refine List.map_congr_left fun x hx => ?_
  rw [filter_len_map]
  by_cases e : x.1 = i
  · rw [if_pos e, List.filter_eq_self.mpr fun c _ => by simp [e]]
  · rw [if_neg e]
    congr 1
    refine List.filter_congr fun c _ => ?_
    rw [decide_eq_decide]
    constructor
    · intro z
      rcases List.mem_cons.mp z with z | z
      · exact absurd z.symm e
      · exact z
    · exact fun z => .tail _ z
theorem cnt_none (k i : Nat) : cntN row nx (k + 1) none i = 0 := by
  unfold cntN chainsN
  simp
theorem flatMap_ext {α β : Type} {f g : α → List β} : ∀ {xs : List α}, (∀ a ∈ xs, f a = g a) → xs.flatMap f = xs.flatMap g
  | [], _ => rfl
  | a :: xs, h => by rw [List.flatMap_cons, List.flatMap_cons, h a (.head _), flatMap_ext fun b hb => h b (.tail _ hb)]
theorem fuel_eq (h : NxOk row nx) {M : Int} (hM : ∀ s ∈ row, s.2 ≤ M) : ∀ (k j : Nat) (p : Option Int), measP M p ≤ k → measP M p ≤ j → fewN row nx k p = fewN row nx j p ∧ chainsN row nx k p = chainsN row nx j p
  | 0, j, none, _, _ => by cases j <;> exact ⟨rfl, rfl⟩
  | 0, j, some p, hk, _ => absurd hk (by simp [measP])
  | k + 1, j, none, _, _ => by cases j <;> exact ⟨rfl, rfl⟩
  | k + 1, 0, some p, _, hj => absurd hj (by simp [measP])
  | k + 1, j + 1, some p, hk, hj => by
    have e : ∀ x ∈ spans1 row p, fewN row nx k (nx x.2.2) = fewN row nx j (nx x.2.2) ∧ chainsN row nx k (nx x.2.2) = chainsN row nx j (nx x.2.2) := fun x hx => by
      obtain ⟨hr, hs⟩ := mem_spans1.mp hx
      have hm := h.meas hM hs.2 (hM _ (List.mem_of_getElem? hr))
      exact fuel_eq h hM k j _ (by omega) (by omega)
    have e1 : (spans1 row p).map (fun x => fewN row nx k (nx x.2.2)) = (spans1 row p).map fun x => fewN row nx j (nx x.2.2) := List.map_congr_left fun x hx => (e x hx).1
    have e2 : firstN row nx k p = firstN row nx j p := by
      unfold firstN
      rw [e1]
      exact List.filter_congr fun x hx => by rw [(e x hx).1]
    refine ⟨?_, ?_⟩
    · show 1 + mnL _ = 1 + mnL _
      rw [e1]
    · show (firstN row nx k p).flatMap _ = (firstN row nx j p).flatMap _
      rw [e2]
      refine flatMap_ext fun x hx => ?_
      rw [(e x (List.mem_filter.mp hx).1).2]
end
end Lr
set_option maxHeartbeats 1000000
namespace Lr
open PySem PySem.Spec L2
def markS (n : Nat) (c : List Nat) : Nat := (c.map fun i => 2 ^ (n - 1 - i)).sum
theorem markS_cons (n i : Nat) (c : List Nat) : markS n (i :: c) = 2 ^ (n - 1 - i) + markS n c := by simp [markS]
theorem markS_perm {n : Nat} {c d : List Nat} (h : c.Perm d) : markS n c = markS n d := (h.map _).sum_nat
theorem markS_lt {n : Nat} : ∀ {c : List Nat} (y : Nat), c.Pairwise (· < ·) → (∀ i ∈ c, y ≤ i ∧ i < n) → markS n c < 2 ^ (n - y)
  | [], y, _, _ => Nat.pos_of_ne_zero (by simp)
  | i :: c, y, h, hi => by
    obtain ⟨h1, h2⟩ := List.pairwise_cons.mp h
    obtain ⟨g1, g2⟩ := hi i (.head _)
    have := markS_lt (c := c) (i + 1) h2 fun j hj => ⟨h1 j hj, (hi j (.tail _ hj)).2⟩
    rw [markS_cons]
    have e : n - (i + 1) = n - 1 - i := by omega
    rw [e] at this
    have h3 : 2 ^ (n - 1 - i) + 2 ^ (n - 1 - i) = 2 ^ (n - 1 - i + 1) := by rw [Nat.pow_succ]; omega
    have h4 : 2 ^ (n - 1 - i + 1) ≤ 2 ^ (n - y) := Nat.pow_le_pow_right (by omega) (by omega)
    omega
inductive LexL : List Nat → List Nat → Prop
  | lt {x y : Nat} {a b : List Nat} (h : x < y) : LexL (x :: a) (y :: b)
  | eq {x : Nat} {a b : List Nat} (h : LexL a b) : LexL (x :: a) (x :: b)
theorem lex_mark {n : Nat} {a b : List Nat} (h : LexL a b) : a.Pairwise (· < ·) → b.Pairwise (· < ·) → (∀ i ∈ a, i < n) → (∀ i ∈ b, i < n) → markS n b < markS n a := by
  induction h with
  | lt h =>
    rename_i x y a b
    intro ha hb la lb
    obtain ⟨h1, h2⟩ := List.pairwise_cons.mp hb
    have := markS_lt (n := n) (c := y :: b) (x + 1) hb fun j hj => ⟨by
      rcases List.mem_cons.mp hj with rfl | hj
      · exact h
      · have := h1 j hj
        omega, lb j hj⟩
    rw [markS_cons n x]
    have e : n - (x + 1) = n - 1 - x := by omega
    rw [e] at this
    omega
  | eq h ih =>
    intro ha hb la lb
    have := ih (List.pairwise_cons.mp ha).2 (List.pairwise_cons.mp hb).2 (fun i hi => la i (.tail _ hi)) (fun i hi => lb i (.tail _ hi))
    rw [markS_cons, markS_cons]
    omega
theorem mark_bit {n : Nat} : ∀ {c : List Nat}, c.Pairwise (· < ·) → (∀ i ∈ c, i < n) → ∀ i, i < n → (markS n c).testBit (n - 1 - i) = decide (i ∈ c)
  | [], _, _, i, _ => by simp [markS]
  | x :: c, h, hl, i, hi => by
    obtain ⟨h1, h2⟩ := List.pairwise_cons.mp h
    have hx := hl x (.head _)
    have hlt := markS_lt (n := n) (c := c) (x + 1) h2 fun j hj => ⟨h1 j hj, hl j (.tail _ hj)⟩
    have e : n - (x + 1) = n - 1 - x := by omega
    rw [e] at hlt
    rw [markS_cons]
    rcases Nat.lt_trichotomy i x with z | z | z
    · -- above the first bit
      have : 2 ^ (n - 1 - x) + markS n c < 2 ^ (n - 1 - i) := by
        have h3 : 2 ^ (n - 1 - x) + 2 ^ (n - 1 - x) = 2 ^ (n - 1 - x + 1) := by rw [Nat.pow_succ]; omega
        have h4 : 2 ^ (n - 1 - x + 1) ≤ 2 ^ (n - 1 - i) := Nat.pow_le_pow_right (by omega) (by omega)
        omega
      rw [Nat.testBit_lt_two_pow this]
      have : i ∉ x :: c := fun m => by
        rcases List.mem_cons.mp m with rfl | m
        · omega
        · have := h1 i m
          omega
      simp [this]
    · subst z
      rw [Nat.testBit_two_pow_add_eq, Nat.testBit_lt_two_pow hlt]
      simp
    · rw [Nat.testBit_two_pow_add_gt (by omega), mark_bit h2 (fun j hj => hl j (.tail _ hj)) i hi]
      have : (i ∈ x :: c) ↔ i ∈ c := ⟨fun m => (List.mem_cons.mp m).resolve_left (by omega), fun m => .tail _ m⟩
      rw [decide_eq_decide, this]
end Lr
set_option maxHeartbeats 1000000
namespace Lr
open PySem PySem.Spec L2
def leNat (a b : Nat) : Bool := decide (a ≤ b)
def ascN2 (c : List Nat) : List Nat := c.mergeSort leNat
theorem asc_perm (c : List Nat) : (ascN2 c).Perm c := List.mergeSort_perm c leNat
theorem asc_pw (c : List Nat) : (ascN2 c).Pairwise (· ≤ ·) := (List.pairwise_mergeSort (le := leNat) (fun a b c h g => by simp only [leNat, decide_eq_true_eq] at *; omega) (fun a b => by simp only [leNat, Bool.or_eq_true, decide_eq_true_eq]; omega) c).imp fun h => by simpa only [leNat, decide_eq_true_eq] using h
theorem asc_lt {c : List Nat} (h : c.Nodup) : (ascN2 c).Pairwise (· < ·) := by
  have h1 := List.nodup_iff_pairwise_ne.mp ((asc_perm c).nodup_iff.mpr h)
  exact (asc_pw c).imp₂ (fun a b h g => by omega) h1
theorem asc_uniq {c g : List Nat} (h : c.Perm g) (hg : g.Pairwise (· < ·)) : ascN2 c = g :=
  List.Perm.eq_of_pairwise (le := (· ≤ ·)) (fun _ _ _ _ h g => by omega) (asc_pw c) (hg.imp fun h => Nat.le_of_lt h) ((asc_perm c).trans h)
structure GoodL (row : List (Int × Int)) (p : Option Int) (m : Nat) (G : List (List Nat)) : Prop where
  srt : G.Pairwise LexL
  mem : ∀ g, g ∈ G ↔ g.Pairwise (· < ·) ∧ (∀ i ∈ g, i < row.length) ∧ g.length = m ∧ CovU row p g
theorem lex_irr {a : List Nat} (h : LexL a a) : False := by
  have : ∀ {a b : List Nat}, LexL a b → a ≠ b := by
    intro a b h
    induction h with
    | lt h => intro e; cases e; exact absurd h (Nat.lt_irrefl _)
    | eq h ih => intro e; cases e; exact ih rfl
  exact this h rfl
section
variable {row : List (Int × Int)} {nx : Int → Option Int} {M : Int} {k : Nat} {p : Option Int} {G : List (List Nat)}
theorem good_perm (h : NxOk row nx) (hM : ∀ s ∈ row, s.2 ≤ M) (hk : measP M p ≤ k) (hp : GoodP row p) (hG : GoodL row p (fewN row nx k p) G) : G.Perm ((chainsN row nx k p).map ascN2) := by
  have hnG : G.Nodup := List.nodup_iff_pairwise_ne.mpr (hG.srt.imp fun {a b} z (e : a = b) => lex_irr (a := b) (by rw [e] at z; exact z))
  have hnC : ((chainsN row nx k p).map ascN2).Nodup := by
    rw [List.nodup_iff_pairwise_ne, List.pairwise_map]
    refine (List.nodup_iff_pairwise_ne.mp (chains_nodup k p)).imp_of_mem ?_
    intro c d hc hd hne e
    exact hne (chain_inj h hM k p c d hk hp hc hd ((asc_perm c).symm.trans (e ▸ asc_perm d)))
  refine (List.perm_ext_iff_of_nodup hnG hnC).mpr fun g => ?_
  rw [hG.mem, List.mem_map]
  constructor
  · rintro ⟨h1, h2, h3, h4⟩
    obtain ⟨c, hc, hcg⟩ := chain_ex h hM k p g hk hp h4 h3
    exact ⟨c, hc, asc_uniq hcg h1⟩
  · rintro ⟨c, hc, rfl⟩
    obtain ⟨g1, g2, g3⟩ := chain_ok h hM k p c hk hp hc
    have pr := asc_perm c
    refine ⟨asc_lt (chain_nd h hM hk hp hc), fun i hi => g3 i (pr.mem_iff.mp hi), pr.length_eq.trans g2, ?_⟩
    cases p with
    | none => trivial
    | some p =>
      intro u hu hb
      obtain ⟨i, hi, r⟩ := g1 u hu hb
      exact ⟨i, pr.mem_iff.mpr hi, r⟩
theorem good_len (h : NxOk row nx) (hM : ∀ s ∈ row, s.2 ≤ M) (hk : measP M p ≤ k) (hp : GoodP row p) (hG : GoodL row p (fewN row nx k p) G) : G.length = (chainsN row nx k p).length := by
  have := (good_perm h hM hk hp hG).length_eq
  rwa [List.length_map] at this
theorem good_some (h : NxOk row nx) (hM : ∀ s ∈ row, s.2 ≤ M) (hk : measP M p ≤ k) (hp : GoodP row p) (hG : GoodL row p (fewN row nx k p) G) (i : Nat) : (∃ g ∈ G, i ∈ g) ↔ 0 < cntN row nx k p i := by
  have pr := good_perm h hM hk hp hG
  unfold cntN
  rw [List.length_pos_iff_exists_mem]
  constructor
  · rintro ⟨g, hg, hi⟩
    obtain ⟨c, hc, rfl⟩ := List.mem_map.mp (pr.mem_iff.mp hg)
    exact ⟨c, List.mem_filter.mpr ⟨hc, decide_eq_true ((asc_perm c).mem_iff.mp hi)⟩⟩
  · rintro ⟨c, hc⟩
    obtain ⟨h1, h2⟩ := List.mem_filter.mp hc
    exact ⟨ascN2 c, pr.mem_iff.mpr (List.mem_map.mpr ⟨c, h1, rfl⟩), (asc_perm c).mem_iff.mpr (of_decide_eq_true h2)⟩
theorem good_each (h : NxOk row nx) (hM : ∀ s ∈ row, s.2 ≤ M) (hk : measP M p ≤ k) (hp : GoodP row p) (hG : GoodL row p (fewN row nx k p) G) (i : Nat) : (∀ g ∈ G, i ∈ g) ↔ cntN row nx k p i = (chainsN row nx k p).length := by
  have pr := good_perm h hM hk hp hG
  unfold cntN
  rw [List.length_filter_eq_length_iff]
  constructor
  · intro z c hc
    exact decide_eq_true ((asc_perm c).mem_iff.mp (z _ (pr.mem_iff.mpr (List.mem_map.mpr ⟨c, hc, rfl⟩))))
  · intro z g hg
    obtain ⟨c, hc, rfl⟩ := List.mem_map.mp (pr.mem_iff.mp hg)
    exact (asc_perm c).mem_iff.mpr (of_decide_eq_true (z c hc))
theorem good_mark (h : NxOk row nx) (hM : ∀ s ∈ row, s.2 ≤ M) (hk : measP M p ≤ k) (hp : GoodP row p) (hG : GoodL row p (fewN row nx k p) G) {g : List Nat} {r : List (List Nat)} (e : G = g :: r) : (∃ c ∈ chainsN row nx k p, markS row.length c = markS row.length g) ∧ ∀ c ∈ chainsN row nx k p, markS row.length c ≤ markS row.length g := by
  have pr := good_perm h hM hk hp hG
  have hg : g ∈ G := by rw [e]; exact .head _
  obtain ⟨c0, hc0, e0⟩ := List.mem_map.mp (pr.mem_iff.mp hg)
  refine ⟨⟨c0, hc0, by rw [← e0]; exact markS_perm (asc_perm c0).symm⟩, fun c hc => ?_⟩
  have hm : ascN2 c ∈ G := pr.mem_iff.mpr (List.mem_map.mpr ⟨c, hc, rfl⟩)
  rw [markS_perm (asc_perm c).symm]
  rw [e] at hm
  rcases List.mem_cons.mp hm with z | z
  · rw [z]
    exact Nat.le_refl _
  · have hs := hG.srt
    rw [e] at hs
    have hl := (List.pairwise_cons.mp hs).1 _ z
    obtain ⟨a1, a2, _⟩ := (hG.mem g).mp hg
    obtain ⟨b1, b2, _⟩ := (hG.mem _).mp (by rw [e]; exact hm)
    exact Nat.le_of_lt (lex_mark hl a1 b1 a2 b2)
end
end Lr
set_option maxHeartbeats 1000000
namespace Lr
open PySem PySem.Spec L2
def blkStep (found : List (Int × Int)) (s : Int × Int) : List (Int × Int) := match found.getLast? with
  | some l => if s.1 ≤ l.2 then found.dropLast ++ [(l.1, if l.2 > s.2 then l.2 else s.2)] else found ++ [s]
  | none => found ++ [s]
def blocksOf (ps : List (Int × Int)) : List (Int × Int) := ps.foldl blkStep []
structure BlkI (P : List (Int × Int)) (B : List (Int × Int)) : Prop where
  cov : ∀ u, busyU P u ↔ ∃ b ∈ B, hasU b u
  gap : B.Pairwise fun a b => a.2 < b.1
  pos : ∀ b ∈ B, b.1 < b.2
  beg : ∀ b ∈ B, ∃ s ∈ P, s.1 = b.1
theorem blk_step {P B : List (Int × Int)} {s : Int × Int} (h : BlkI P B) (hs : s.1 < s.2) (hP : ∀ t ∈ P, t.1 ≤ s.1) : BlkI (P ++ [s]) (blkStep B s) := by
  unfold blkStep
  have hb : ∀ u, busyU (P ++ [s]) u ↔ busyU P u ∨ hasU s u := fun u => by
    unfold busyU
    constructor
    · rintro ⟨t, ht, hu⟩
      rcases List.mem_append.mp ht with ht | ht
      · exact .inl ⟨t, ht, hu⟩
      · rw [List.mem_singleton.mp ht] at hu
        exact .inr hu
    · rintro (⟨t, ht, hu⟩ | hu)
      · exact ⟨t, List.mem_append_left _ ht, hu⟩
      · exact ⟨s, by simp, hu⟩
  cases e : B.getLast? with
  | none =>
    have : B = [] := List.getLast?_eq_none_iff.mp e
    subst this
    refine ⟨fun u => ?_, by simp, fun b hb => ?_, fun b hb => ?_⟩
    · rw [hb, h.cov]
      simp
    · rw [show b = s by simpa using hb]
      exact hs
    · rw [show b = s by simpa using hb]
      exact ⟨s, by simp, rfl⟩
  | some l =>
    obtain ⟨B0, rfl⟩ : ∃ B0, B = B0 ++ [l] := ⟨B.dropLast, by
      have hne : B ≠ [] := fun z => by rw [z] at e; cases e
      have := List.dropLast_concat_getLast hne
      rw [List.getLast?_eq_some_getLast hne] at e
      rw [← Option.some.inj e]
      exact this.symm⟩
    have hg := List.pairwise_append.mp h.gap
    obtain ⟨g1, _, g3⟩ := hg
    have hl := h.pos l (by simp)
    obtain ⟨s0, hs0, e0⟩ := h.beg l (by simp)
    have hls : l.1 ≤ s.1 := by rw [← e0]; exact hP s0 hs0
    have hc : ∀ u, busyU P u ↔ (∃ b ∈ B0, hasU b u) ∨ hasU l u := fun u => by
      rw [h.cov]
      constructor
      · rintro ⟨b, hb, hu⟩
        rcases List.mem_append.mp hb with hb | hb
        · exact .inl ⟨b, hb, hu⟩
        · rw [List.mem_singleton.mp hb] at hu
          exact .inr hu
      · rintro (⟨b, hb, hu⟩ | hu)
        · exact ⟨b, List.mem_append_left _ hb, hu⟩
        · exact ⟨l, by simp, hu⟩
    dsimp only
    by_cases z : s.1 ≤ l.2
    · rw [if_pos z, List.dropLast_concat]
      generalize eN : (l.1, if l.2 > s.2 then l.2 else s.2) = N
      have n1 : N.1 = l.1 := by rw [← eN]
      have n2 : N.2 = max l.2 s.2 := by
        rw [← eN]
        dsimp only
        split <;> omega
      refine ⟨fun u => ?_, ?_, fun b hb => ?_, fun b hb => ?_⟩
      · rw [hb, hc]
        constructor
        · rintro ((⟨b, hb, hu⟩ | hu) | hu)
          · exact ⟨b, List.mem_append_left _ hb, hu⟩
          · exact ⟨N, by simp, by rw [n1]; exact hu.1, by have := hu.2; omega⟩
          · exact ⟨N, by simp, by rw [n1]; have := hu.1; omega, by have := hu.2; omega⟩
        · rintro ⟨b, hb, hu⟩
          rcases List.mem_append.mp hb with hb | hb
          · exact .inl (.inl ⟨b, hb, hu⟩)
          · rw [List.mem_singleton.mp hb] at hu
            have h1 := hu.1
            have h2 := hu.2
            by_cases y : u < l.2
            · exact .inl (.inr ⟨by omega, y⟩)
            · exact .inr ⟨by omega, by omega⟩
      · rw [List.pairwise_append]
        refine ⟨g1, by simp, fun a ha b hb => ?_⟩
        rw [List.mem_singleton.mp hb, n1]
        exact g3 a ha l (by simp)
      · rcases List.mem_append.mp hb with hb | hb
        · exact h.pos b (List.mem_append_left _ hb)
        · rw [List.mem_singleton.mp hb]
          omega
      · rcases List.mem_append.mp hb with hb | hb
        · obtain ⟨t, ht, e⟩ := h.beg b (List.mem_append_left _ hb)
          exact ⟨t, List.mem_append_left _ ht, e⟩
        · rw [List.mem_singleton.mp hb, n1]
          exact ⟨s0, List.mem_append_left _ hs0, e0⟩
    · rw [if_neg z]
      refine ⟨fun u => ?_, ?_, fun b hb => ?_, fun b hb => ?_⟩
      · rw [hb, h.cov]
        constructor
        · rintro (⟨b, hb, hu⟩ | hu)
          · exact ⟨b, List.mem_append_left _ hb, hu⟩
          · exact ⟨s, by simp, hu⟩
        · rintro ⟨b, hb, hu⟩
          rcases List.mem_append.mp hb with hb | hb
          · exact .inl ⟨b, hb, hu⟩
          · rw [List.mem_singleton.mp hb] at hu
            exact .inr hu
      · rw [List.pairwise_append]
        refine ⟨h.gap, by simp, fun a ha b hb => ?_⟩
        rw [List.mem_singleton.mp hb]
        rcases List.mem_append.mp ha with ha | ha
        · have := g3 a ha l (by simp)
          omega
        · rw [List.mem_singleton.mp ha]
          omega
      · rcases List.mem_append.mp hb with hb | hb
        · exact h.pos b hb
        · rw [List.mem_singleton.mp hb]
          exact hs
      · rcases List.mem_append.mp hb with hb | hb
        · obtain ⟨t, ht, e⟩ := h.beg b hb
          exact ⟨t, List.mem_append_left _ ht, e⟩
        · rw [List.mem_singleton.mp hb]
          exact ⟨s, by simp, rfl⟩
theorem blk_fold : ∀ (ps P B : List (Int × Int)), BlkI P B → (∀ s ∈ ps, s.1 < s.2) → (ps.Pairwise fun a b => a.1 ≤ b.1) → (∀ t ∈ P, ∀ s ∈ ps, t.1 ≤ s.1) → BlkI (P ++ ps) (ps.foldl blkStep B)
  | [], P, B, h, _, _, _ => by simpa using h
  | s :: ps, P, B, h, h1, h2, h3 => by
    obtain ⟨g1, g2⟩ := List.pairwise_cons.mp h2
    have := blk_fold ps (P ++ [s]) (blkStep B s) (blk_step h (h1 s (.head _)) fun t ht => h3 t ht s (.head _)) (fun t ht => h1 t (.tail _ ht)) g2 (fun t ht u hu => by
      rcases List.mem_append.mp ht with ht | ht
      · exact h3 t ht u (.tail _ hu)
      · rw [List.mem_singleton.mp ht]
        exact g1 u hu)
    rw [List.append_assoc] at this
    exact this
theorem blocks_row {row : List (Int × Int)} (hr : ∀ s ∈ row, s.1 < s.2) : BlkI row (blocksOf (sortP row)) := by
  have hp := sortP_perm row
  have := blk_fold (sortP row) [] [] ⟨fun u => by simp [busyU], .nil, fun b h => (nomatch h), fun b h => (nomatch h)⟩ (fun s hs => hr s (hp.mem_iff.mp hs)) ((sortP_pw row).imp fun {a b} h => by
    rw [leP2_iff] at h
    omega) (fun t h => (nomatch h))
  rw [List.nil_append] at this
  refine ⟨fun u => ?_, this.gap, this.pos, fun b hb => ?_⟩
  · rw [show blocksOf (sortP row) = (sortP row).foldl blkStep [] from rfl, ← this.cov]
    unfold busyU
    constructor
    · rintro ⟨s, hs, r⟩
      exact ⟨s, hp.mem_iff.mpr hs, r⟩
    · rintro ⟨s, hs, r⟩
      exact ⟨s, hp.mem_iff.mp hs, r⟩
  · obtain ⟨s, hs, r⟩ := this.beg b hb
    exact ⟨s, hp.mem_iff.mp hs, r⟩
def nxB (bs : List (Int × Int)) (p : Int) : Option Int := (bs.find? fun b => decide (p < b.2)).map fun b => if p > b.1 then p else b.1
theorem nx_ok {row B : List (Int × Int)} (h : BlkI row B) : NxOk row (nxB B) := fun p => by
  unfold nxB
  cases e : B.find? fun b => decide (p < b.2) with
  | none =>
    intro v hv hb
    obtain ⟨b, hb, hu⟩ := (h.cov v).mp hb
    have := List.find?_eq_none.mp e b hb
    have h2 := hu.2
    simp at this
    omega
  | some b =>
    obtain ⟨h1, B0, B1, e2, h3⟩ := List.find?_eq_some_iff_append.mp e
    have h1 : p < b.2 := by simpa using h1
    have hbB : b ∈ B := by rw [e2]; simp
    have hpos := h.pos b hbB
    dsimp only [Option.map_some]
    generalize eu : (if p > b.1 then p else b.1) = u
    have hu : u = max p b.1 := by
      rw [← eu]
      split <;> omega
    refine ⟨by omega, (h.cov u).mpr ⟨b, hbB, by omega, by omega⟩, fun v hv hb => ?_⟩
    obtain ⟨d, hd, hd2⟩ := (h.cov v).mp hb
    have d1 := hd2.1
    have d2 := hd2.2
    rw [e2] at hd
    rcases List.mem_append.mp hd with hd | hd
    · have := h3 d hd
      simp at this
      omega
    · rcases List.mem_cons.mp hd with rfl | hd
      · omega
      · have hg := h.gap
        rw [e2, List.pairwise_append] at hg
        have := (List.pairwise_cons.mp hg.2.1).1 d hd
        omega
end Lr
set_option maxHeartbeats 1000000
namespace Lr
open PySem PySem.Spec L2
structure UsS where
  bf : Option Int → Nat
  fd : Nat → Nat
def usOne (w : Option Int → Nat) (b : Nat) (st : UsS) (x : Nat × Option Int) : UsS := ⟨fun q => if q = x.2 then st.bf q + b else st.bf q, fun i => if i = x.1 then st.fd i + b * w x.2 else st.fd i⟩
def phi (cn : Option Int → Nat) (rest : List Int) (st : UsS) (i : Nat) : Nat := st.fd i + (rest.map fun q => st.bf (some q) * cn (some q)).sum
theorem sum_add {g : Int → Nat} {cn : Option Int → Nat} {b : Nat} {q0 : Option Int} (h0 : cn none = 0) : ∀ {rest : List Int}, rest.Nodup → (∀ q, q0 = some q → q ∈ rest) → (rest.map fun q => (if (some q : Option Int) = q0 then g q + b else g q) * cn (some q)).sum = (rest.map fun q => g q * cn (some q)).sum + b * cn q0
  | [], _, h => by
    cases q0 with
    | none => rw [h0]; rfl
    | some q => exact absurd (h q rfl) (by simp)
  | q :: rest, hn, h => by
    obtain ⟨h1, h2⟩ := List.nodup_cons.mp hn
    rw [List.map_cons, List.sum_cons, List.map_cons, List.sum_cons]
    by_cases e : (some q : Option Int) = q0
    · have z : (rest.map fun r => (if (some r : Option Int) = q0 then g r + b else g r) * cn (some r)) = rest.map fun r => g r * cn (some r) := List.map_congr_left fun r hr => by
        have : (some r : Option Int) ≠ q0 := fun z => h1 (by
          have := z.trans e.symm
          cases this
          exact hr)
        rw [if_neg this]
      rw [z, if_pos e, e, Nat.add_mul]
      omega
    · rw [if_neg e]
      have := sum_add (g := g) (cn := cn) (b := b) (q0 := q0) h0 h2 fun r hr => by
        rcases List.mem_cons.mp (h r hr) with z | z
        · exact absurd (z ▸ hr.symm) e
        · exact z
      omega
theorem phi_one {cn w : Option Int → Nat} {rest : List Int} {st : UsS} {b i : Nat} {x : Nat × Option Int} (h0 : cn none = 0) (hn : rest.Nodup) (hx : ∀ q, x.2 = some q → q ∈ rest) : phi cn rest (usOne w b st x) i = phi cn rest st i + b * ((if x.1 = i then w x.2 else 0) + cn x.2) := by
  unfold phi usOne
  dsimp only
  rw [sum_add (g := fun q => st.bf (some q)) h0 hn hx, Nat.mul_add]
  by_cases e : x.1 = i
  · rw [if_pos e.symm, if_pos e]
    omega
  · rw [if_neg (fun z => e z.symm), if_neg e]
    omega
theorem phi_all {cn w : Option Int → Nat} {rest : List Int} {b i : Nat} (h0 : cn none = 0) (hn : rest.Nodup) : ∀ (xs : List (Nat × Option Int)) (st : UsS), (∀ x ∈ xs, ∀ q, x.2 = some q → q ∈ rest) → phi cn rest (xs.foldl (usOne w b) st) i = phi cn rest st i + b * (xs.map fun x => (if x.1 = i then w x.2 else 0) + cn x.2).sum
  | [], st, _ => by simp
  | x :: xs, st, h => by
    rw [List.foldl_cons, phi_all h0 hn xs _ fun y hy => h y (.tail _ hy), phi_one h0 hn (h x (.head _)), List.map_cons, List.sum_cons, Nat.mul_add b (_ + _) (List.sum _), Nat.add_assoc]
theorem phi_place {cn w : Option Int → Nat} {rest : List Int} {st : UsS} {i : Nat} {p : Int} {xs : List (Nat × Option Int)} (h0 : cn none = 0) (hn : rest.Nodup) (hx : ∀ x ∈ xs, ∀ q, x.2 = some q → q ∈ rest) (hc : cn (some p) = (xs.map fun x => (if x.1 = i then w x.2 else 0) + cn x.2).sum) : phi cn rest (xs.foldl (usOne w (st.bf (some p))) st) i = phi cn (p :: rest) st i := by
  rw [phi_all h0 hn xs st hx]
  unfold phi
  rw [List.map_cons, List.sum_cons, hc]
  omega
section
variable {row : List (Int × Int)} {nx : Int → Option Int}
theorem cnt_sum (h : NxOk row nx) {M : Int} (hM : ∀ s ∈ row, s.2 ≤ M) {k : Nat} {p : Int} (hk : measP M (some p) ≤ k) (hg : busyU row p) (i : Nat) : cntN row nx k (some p) i = (((firstN row nx k p).map fun x => (x.1, nx x.2.2)).map fun x => (if x.1 = i then (chainsN row nx k x.2).length else 0) + cntN row nx k x.2 i).sum := by
  obtain ⟨j, rfl⟩ : ∃ j, k = j + 1 := ⟨k - 1, by have : 1 ≤ measP M (some p) := Nat.succ_pos _; omega⟩
  have fu : ∀ x ∈ spans1 row p, fewN row nx j (nx x.2.2) = fewN row nx (j + 1) (nx x.2.2) ∧ chainsN row nx j (nx x.2.2) = chainsN row nx (j + 1) (nx x.2.2) := fun x hx => by
    obtain ⟨hr, hs⟩ := mem_spans1.mp hx
    have hm := h.meas hM hs.2 (hM _ (List.mem_of_getElem? hr))
    exact fuel_eq h hM j (j + 1) _ (by omega) (by omega)
  have ef : firstN row nx (j + 1) p = firstN row nx j p := by
    unfold firstN
    have e1 : (spans1 row p).map (fun x => fewN row nx (j + 1) (nx x.2.2)) = (spans1 row p).map fun x => fewN row nx j (nx x.2.2) := List.map_congr_left fun x hx => (fu x hx).1.symm
    rw [e1]
    exact List.filter_congr fun x hx => by rw [(fu x hx).1]
  rw [cnt_step h hM hk hg, ef, List.map_map]
  congr 1
  refine List.map_congr_left fun x hx => ?_
  have hx1 := (List.mem_filter.mp hx).1
  obtain ⟨hr, hs⟩ := mem_spans1.mp hx1
  have hm := h.meas hM hs.2 (hM _ (List.mem_of_getElem? hr))
  have e2 : cntN row nx j (nx x.2.2) i = cntN row nx (j + 1) (nx x.2.2) i := by
    unfold cntN
    rw [(fu x hx1).2]
  show _ = (if x.1 = i then (chainsN row nx (j + 1) (nx x.2.2)).length else 0) + cntN row nx (j + 1) (nx x.2.2) i
  rw [← e2, ← (fu x hx1).2]
  by_cases e : x.1 = i
  · rw [if_pos e, if_pos e]
    have z : cntN row nx j (nx x.2.2) i = 0 := by
      unfold cntN
      rw [List.length_eq_zero_iff, List.filter_eq_nil_iff]
      intro c hc hi
      have hi := of_decide_eq_true hi
      have hin : x.1 :: c ∈ chainsN row nx (j + 1) (some p) := List.mem_flatMap.mpr ⟨x, hx, List.mem_map.mpr ⟨c, hc, rfl⟩⟩
      have nd := chain_nd h hM hk hg hin
      rw [e] at nd
      exact (List.nodup_cons.mp nd).1 hi
    rw [z]
    rfl
  · rw [if_neg e, if_neg e, Nat.zero_add]
end
end Lr
set_option maxHeartbeats 1000000
namespace Lr
open PySem PySem.Spec L2
theorem max_le_ex : ∀ {C : List Int} {u : Int}, (∃ c ∈ C, c ≤ u) → ∃ c ∈ C, c ≤ u ∧ ∀ d ∈ C, d ≤ u → d ≤ c
  | [], _, h => by obtain ⟨c, hc, _⟩ := h; cases hc
  | a :: C, u, h => by
    by_cases r : ∃ c ∈ C, c ≤ u
    · obtain ⟨c, hc, h1, h2⟩ := max_le_ex r
      by_cases z : a ≤ u ∧ c < a
      · refine ⟨a, .head _, z.1, fun d hd hu => ?_⟩
        rcases List.mem_cons.mp hd with rfl | hd
        · exact Int.le_refl _
        · have := h2 d hd hu
          omega
      · refine ⟨c, .tail _ hc, h1, fun d hd hu => ?_⟩
        rcases List.mem_cons.mp hd with rfl | hd
        · omega
        · exact h2 d hd hu
    · obtain ⟨c, hc, h1⟩ := h
      rcases List.mem_cons.mp hc with rfl | hc
      · refine ⟨c, .head _, h1, fun d hd hu => ?_⟩
        rcases List.mem_cons.mp hd with rfl | hd
        · exact Int.le_refl _
        · exact absurd ⟨d, hd, hu⟩ r
      · exact absurd ⟨c, hc, h1⟩ r
theorem marks_cov {row some : List (Int × Int)} {C : List Int} (hC : ∀ s ∈ row, s.1 ∈ C ∧ s.2 ∈ C) (hs : ∀ t ∈ some, t ∈ row) (h : ∀ c ∈ C, busyU row c → ∃ t ∈ some, hasU t c) : ∀ u, busyU row u → ∃ t ∈ some, hasU t u := by
  rintro u ⟨s, hsr, hu⟩
  obtain ⟨c, hc, h1, h2⟩ := max_le_ex (C := C) (u := u) ⟨s.1, (hC s hsr).1, hu.1⟩
  have hb : hasU s c := ⟨h2 s.1 (hC s hsr).1 hu.1, by have := hu.2; omega⟩
  obtain ⟨t, ht, g⟩ := h c hc ⟨s, hsr, hb⟩
  refine ⟨t, ht, by have := g.1; omega, ?_⟩
  by_cases z : u < t.2
  · exact z
  · have := h2 t.2 (hC t (hs t ht)).2 (by omega)
    have := g.2
    omega
def goodF (ok : List Nat → Bool) : List (List Nat) → List (List Nat) → List (List Nat)
  | G, [] => G
  | G, s :: L => if G ≠ [] ∧ (G.headD []).length < s.length then G else goodF ok (if ok s then G ++ [s] else G) L
theorem goodF_some {ok : List Nat → Bool} {m : Nat} : ∀ {L G : List (List Nat)}, G ≠ [] → (∀ g ∈ G, g.length = m) → (L.Pairwise fun a b => a.length ≤ b.length) → (∀ s ∈ L, m ≤ s.length) → goodF ok G L = G ++ L.filter fun s => ok s && (s.length == m)
  | [], G, _, _, _, _ => by simp [goodF]
  | s :: L, G, h, hm, hp, hl => by
    obtain ⟨p1, p2⟩ := List.pairwise_cons.mp hp
    have hd : (G.headD []).length = m := by
      cases G with
      | nil => exact absurd rfl h
      | cons g G => exact hm g (.head _)
    unfold goodF
    by_cases z : m < s.length
    · rw [if_pos ⟨h, by omega⟩, List.filter_eq_nil_iff.mpr, List.append_nil]
      intro t ht hq
      have : t.length = m := by
        have := (Bool.and_eq_true_iff.mp hq).2
        simpa using this
      rcases List.mem_cons.mp ht with rfl | ht
      · omega
      · have := p1 t ht
        omega
    · have es : s.length = m := by
        have := hl s (.head _)
        omega
      rw [if_neg (fun q => by have := q.2; omega)]
      have hl' := fun t ht => hl t (.tail _ ht)
      cases eo : ok s with
      | false =>
        rw [if_neg (by simp), goodF_some h hm p2 hl', List.filter_cons_of_neg (by simp [eo])]
      | true =>
        rw [if_pos rfl, goodF_some (by simp) (fun g hg => by
          rcases List.mem_append.mp hg with hg | hg
          · exact hm g hg
          · rw [List.mem_singleton.mp hg]
            exact es) p2 hl', List.filter_cons_of_pos (by simp [eo, es]), List.append_assoc]
        rfl
theorem goodF_eq {ok : List Nat → Bool} {m : Nat} : ∀ {L : List (List Nat)}, (L.Pairwise fun a b => a.length ≤ b.length) → (∃ s ∈ L, ok s = true ∧ s.length = m) → (∀ s ∈ L, ok s = true → m ≤ s.length) → goodF ok [] L = L.filter fun s => ok s && (s.length == m)
  | [], _, h, _ => by obtain ⟨s, hs, _⟩ := h; cases hs
  | s :: L, hp, h, hl => by
    obtain ⟨p1, p2⟩ := List.pairwise_cons.mp hp
    unfold goodF
    rw [if_neg (fun q => q.1 rfl)]
    cases eo : ok s with
    | false =>
      rw [if_neg (by simp), List.filter_cons_of_neg (by simp [eo])]
      refine goodF_eq p2 ?_ fun t ht => hl t (.tail _ ht)
      obtain ⟨t, ht, h1, h2⟩ := h
      rcases List.mem_cons.mp ht with rfl | ht
      · rw [eo] at h1
        cases h1
      · exact ⟨t, ht, h1, h2⟩
    | true =>
      have es : s.length = m := by
        have := hl s (.head _) eo
        obtain ⟨t, ht, h1, h2⟩ := h
        rcases List.mem_cons.mp ht with rfl | ht
        · exact h2
        · have := p1 t ht
          omega
      rw [if_pos rfl, goodF_some (m := m) (by simp) (fun g hg => by
        rw [List.nil_append] at hg
        rw [List.mem_singleton.mp hg]
        exact es) p2 (fun t ht => by have := p1 t ht; omega), List.filter_cons_of_pos (by simp [eo, es])]
      rfl
def idxF : Nat → List (List Nat)
  | 0 => [[]]
  | n + 1 => idxF n ++ (idxF n).map fun s => s ++ [n]
theorem idx_mem {n : Nat} {g : List Nat} : g ∈ idxF n ↔ g.Pairwise (· < ·) ∧ ∀ i ∈ g, i < n := by
  induction n generalizing g with
  | zero =>
    rw [show idxF 0 = [[]] from rfl, List.mem_singleton]
    constructor
    · rintro rfl
      exact ⟨.nil, by simp⟩
    · rintro ⟨_, h⟩
      cases g with
      | nil => rfl
      | cons a g => exact absurd (h a (.head _)) (Nat.not_lt_zero _)
  | succ n ih =>
    rw [show idxF (n + 1) = idxF n ++ (idxF n).map fun s => s ++ [n] from rfl, List.mem_append, List.mem_map]
    constructor
    · rintro (h | ⟨s, h, rfl⟩)
      · obtain ⟨h1, h2⟩ := ih.mp h
        exact ⟨h1, fun i hi => Nat.lt_succ_of_lt (h2 i hi)⟩
      · obtain ⟨h1, h2⟩ := ih.mp h
        refine ⟨List.pairwise_append.mpr ⟨h1, by simp, fun a ha b hb => ?_⟩, fun i hi => ?_⟩
        · rw [List.mem_singleton.mp hb]
          exact h2 a ha
        · rcases List.mem_append.mp hi with hi | hi
          · exact Nat.lt_succ_of_lt (h2 i hi)
          · rw [List.mem_singleton.mp hi]
            exact Nat.lt_succ_self n
    · rintro ⟨h1, h2⟩
      by_cases z : n ∈ g
      · right
        have hne : g ≠ [] := fun e => by rw [e] at z; cases z
        have e := List.dropLast_concat_getLast hne
        generalize g.dropLast = s at e
        generalize g.getLast hne = l at e
        subst e
        obtain ⟨q1, _, q3⟩ := List.pairwise_append.mp h1
        have hl : l = n := by
          rcases List.mem_append.mp z with z | z
          · have := q3 n z l (by simp)
            have := h2 l (by simp)
            omega
          · exact (List.mem_singleton.mp z).symm
        subst hl
        exact ⟨s, ih.mpr ⟨q1, fun i hi => q3 i hi l (by simp)⟩, rfl⟩
      · left
        exact ih.mpr ⟨h1, fun i hi => by
          have := h2 i hi
          have : i ≠ n := fun e => z (e ▸ hi)
          omega⟩
theorem goodL_of {row : List (Int × Int)} {p : Option Int} {ok : List Nat → Bool} {m : Nat} {L : List (List Nat)} (hL : ∀ g, g ∈ L ↔ g.Pairwise (· < ·) ∧ ∀ i ∈ g, i < row.length) (hs : L.Pairwise fun a b => a.length < b.length ∨ a.length = b.length ∧ LexL a b) (hok : ∀ g ∈ L, ok g = true ↔ CovU row p g) (h1 : ∃ g ∈ L, CovU row p g ∧ g.length = m) (h2 : ∀ g ∈ L, CovU row p g → m ≤ g.length) : GoodL row p m (goodF ok [] L) := by
  obtain ⟨g0, q1, q2, q3⟩ := h1
  rw [goodF_eq (m := m) (hs.imp fun h => by rcases h with h | h <;> omega) ⟨g0, q1, (hok g0 q1).mpr q2, q3⟩ fun s hs h => h2 s hs ((hok s hs).mp h)]
  refine ⟨?_, fun g => ?_⟩
  · refine (hs.filter _).imp_of_mem fun {a b} ha hb h => ?_
    have la := (Bool.and_eq_true_iff.mp (List.mem_filter.mp ha).2).2
    have lb := (Bool.and_eq_true_iff.mp (List.mem_filter.mp hb).2).2
    have la : a.length = m := by simpa using la
    have lb : b.length = m := by simpa using lb
    rcases h with h | h
    · omega
    · exact h.2
  · rw [List.mem_filter, Bool.and_eq_true_iff]
    constructor
    · rintro ⟨h, ho, hl⟩
      obtain ⟨a1, a2⟩ := (hL g).mp h
      exact ⟨a1, a2, by simpa using hl, (hok g h).mp ho⟩
    · rintro ⟨a1, a2, a3, a4⟩
      have h := (hL g).mpr ⟨a1, a2⟩
      exact ⟨h, (hok g h).mpr a4, by simpa using a3⟩
end Lr
set_option maxHeartbeats 1000000
namespace Lr
open PySem PySem.Spec L2
variable {ρ : Loc} {μ : Store} {QL : List AV → Store → Prop} {Q : AV → Store → Prop}
theorem w_sortNt {it : AI} {vs : List Nat} {g : AG} {tt : AT} {te : AE} (h : wp (aLc it vs g tt te ρ μ) fun xs μ1 => ∃ ns : List Int, xs = ns.map AV.int ∧ ns.length ≤ 4000 ∧ (setNL ns).length < 64 ∧ QL ((sortD ns).map AV.int) μ1) : wp (aSortNt (aSc1 it vs g tt te) ρ μ) QL := by
  unfold aSortNt aSc1
  revert h
  cases aLc it vs g tt te ρ μ with
  | bad => exact id
  | ex c p μ1 => exact id
  | ok xs μ1 =>
    rintro ⟨ns, rfl, h1, h2, h3⟩
    show wp (((finN (ns.map AV.int) μ1)).bind _) QL
    rw [finN_ok h1]
    show wp (if (setNL ns).length < 64 then _ else _) QL
    rw [if_pos h2]
    exact h3
theorem w_lnew1 {rk rv : AE} (h : wp (rk ρ μ) fun x μ1 => wp (rv ρ μ1) fun y μ2 => ∃ kk, leafOf x = some kk ∧ Q (.loc μ2.length) (μ2 ++ [.dlf [(kk, y)]])) : wp (eLNew1 rk rv ρ μ) Q := by
  unfold eLNew1
  rw [wp_bind]
  refine h.mono fun x μ1 h => ?_
  rw [wp_bind]
  refine h.mono fun y μ2 ⟨kk, e, q⟩ => ?_
  rw [e]
  exact q
theorem w_lget {o i d : AE} (h : wp (o ρ μ) fun l μ1 => (stLf μ1 l).isSome = true ∧ wp (i ρ μ1) fun j μ2 => wp (d ρ μ2) fun z μ3 => ∃ n kvs kk, stLf μ3 l = some (n, kvs) ∧ leafOf j = some kk ∧ Q ((valP kvs kk).getD z) μ3) : wp (eLGet o i d ρ μ) Q := by
  unfold eLGet
  rw [wp_bind]
  refine h.mono fun l μ1 ⟨h1, h⟩ => ?_
  rw [if_pos h1, wp_bind]
  refine h.mono fun j μ2 h => ?_
  rw [wp_bind]
  refine h.mono fun z μ3 ⟨n, kvs, kk, e1, e2, q⟩ => ?_
  rw [e1, e2]
  exact q
end Lr
set_option maxHeartbeats 1000000
namespace Lr
open PySem PySem.Spec L2
theorem blk_len : ∀ (ps B : List (Int × Int)), (ps.foldl blkStep B).length ≤ B.length + ps.length
  | [], B => Nat.le_refl _
  | s :: ps, B => by
    have h := blk_len ps (blkStep B s)
    have h1 : (blkStep B s).length ≤ B.length + 1 := by
      unfold blkStep
      split
      · split
        · rw [List.length_append, List.length_dropLast, List.length_singleton]
          omega
        · simp
      · simp
    rw [List.foldl_cons, List.length_cons]
    omega
theorem blocks_walk {T : Nat → Fn} {row : List (Int × Int)} {μ : Store} {x1 x2 x3 : Option AV} (hz : row.length ≤ 100) : wo (m293_blocks_of T [some (.tup (row.map pV)), x1, x2, x3] μ) { rt := fun v τ => v = .loc μ.length ∧ τ = μ ++ [.lst ((blocksOf (sortP row)).map pV)] } := by
  unfold m293_blocks_of
  decreasing_trivial
  refine ⟨by simp, ?_⟩
  dsimp only
  refine o_seq (o_for ?_)
  have hl : (sortP row).length = row.length := (sortP_perm row).length_eq
  refine w_anyL (w_dat (w_acb ?_))
  decreasing_trivial
  refine w_sortPrT (by omega) ⟨_, rfl, ?_⟩
  refine wo_dat (fun i ρ τ => (∃ y2 y3 : Option AV, ρ = [some (.tup (row.map pV)), some (.loc μ.length), y2, y3]) ∧ i ≤ (sortP row).length ∧ τ = μ ++ [.lst ((((sortP row).take i).foldl blkStep []).map pV)]) ?_ ?_ FUEL 0 _ _ (by rw [List.length_map]; unfold FUEL; omega) (by omega) ⟨⟨_, _, rfl⟩, Nat.zero_le _, rfl⟩
  · rintro ρ τ ⟨⟨y2, y3, rfl⟩, _, rfl⟩
    rw [List.length_map, List.take_length]
    decreasing_trivial
    exact ⟨rfl, rfl⟩
  · rintro i v ρ τ hv ⟨⟨y2, y3, rfl⟩, hi, rfl⟩
    rw [List.getElem?_map] at hv
    obtain ⟨s, hs, rfl⟩ := Option.map_eq_some_iff.mp hv
    refine ⟨_, rfl, ?_⟩
    generalize hA : ((sortP row).take i).foldl blkStep [] = A
    have eb : ((sortP row).take (i + 1)).foldl blkStep [] = blkStep A s := by
      rw [List.take_add_one, hs, List.foldl_append, hA]
      rfl
    have hi2 := (List.getElem?_eq_some_iff.mp hs).1
    have hAl : A.length ≤ 100 := by
      have := blk_len ((sortP row).take i) []
      rw [hA, List.length_take] at this
      simp at this
      omega
    have eg : (μ ++ [AO.lst (A.map pV)])[μ.length]? = some (.lst (A.map pV)) := by simp
    rw [eb]
    decreasing_trivial
    refine ⟨by simp, ?_⟩
    rcases List.eq_nil_or_concat A with e | ⟨B, l, e⟩
    · subst e
      refine w_gNe (r := true) (by simp [eqB, lsOf]; rfl) (by simp [depM, lsOf, depL]) ⟨false, rfl, ?_⟩
      rw [if_neg (by simp)]
      refine ?_
      decreasing_trivial
      refine o_expr (w_app ?_)
      decreasing_trivial
      refine ⟨by simp [isLs, lsOf], ?_⟩
      decreasing_trivial
      exact ⟨by simp, _, _, rfl, eg, by simp, ⟨_, _, rfl⟩, hi2, by simp [blkStep, pV]⟩
    · subst e
      refine w_gNe (r := false) (by simp [eqB, lsOf, eqvL]) (by simp [depM, lsOf, depL]) ⟨true, rfl, ?_⟩
      rw [if_pos rfl]
      rw [List.concat_eq_append] at *
      have ea : atI ((B ++ [l]).map pV) (-1) = some (pV l) := by
        have e1 : (-1 + ((B.length : Int) + 1)).toNat = B.length := by omega
        simp [atI, ixN]
        rw [if_pos (by omega), e1]
        simp
      decreasing_trivial
      refine w_ixO eg ea ?_
      decreasing_trivial
      refine w_ixT (v := .int l.2) (by rfl) ?_
      decreasing_trivial
      by_cases z : s.1 ≤ l.2
      · rw [if_pos (by simpa using z)]
        decreasing_trivial
        refine w_ixO eg ea ?_
        decreasing_trivial
        refine w_ixT (v := .int l.1) (by rfl) ?_
        decreasing_trivial
        refine w_ixO eg ea ?_
        decreasing_trivial
        refine w_ixT (v := .int l.2) (by rfl) ?_
        decreasing_trivial
        refine ⟨by simp, ?_⟩
        decreasing_trivial
        have em : ixN ((B ++ [l]).map pV).length (-1) = some B.length := by
          have e1 : (-1 + ((B.length : Int) + 1)).toNat = B.length := by omega
          simp [ixN]
          exact ⟨by omega, e1⟩
        exact ⟨_, _, _, _, rfl, rfl, eg, em, ⟨_, _, rfl⟩, hi2, by simp [blkStep, pV, z]⟩
      · rw [if_neg (by simpa using z)]
        refine o_expr (w_app ?_)
        decreasing_trivial
        refine ⟨by simp [isLs, lsOf], ?_⟩
        decreasing_trivial
        exact ⟨by simp, _, _, rfl, eg, by rw [List.length_map]; omega, ⟨_, _, rfl⟩, hi2, by simp [blkStep, pV, z]⟩
end Lr
set_option maxHeartbeats 1000000
namespace Lr
open PySem PySem.Spec L2
def onV : Option Int → AV
  | some p => .int p
  | none => .non
theorem busy_walk {T : Nat → Fn} {B : List (Int × Int)} {h n : Nat} {fs : List (String × AV)} {μ : Store} {p : Int} {x2 x3 : Option AV} (hz : B.length ≤ 100) (hB : μ[n]? = some (.lst (B.map pV)))
    (hf : ∀ D : AV → Store → Prop, D (.loc n) μ → wp (eFld [105] "blocks" (eVar 0) [some (.loc h), some (.int p), x2, x3] μ) D) : wo (m625_Covers_busy_from T [some (.loc h), some (.int p), x2, x3] μ) { rt := fun v τ => v = onV (nxB B p) ∧ τ = μ } := by
  unfold m625_Covers_busy_from
  refine o_seq (o_for (w_anyO (hf _ ⟨n, _, rfl, hB, ?_⟩)))
  refine wo_live (xs := B.map pV) (fun i ρ τ => (∃ y2 y3 : Option AV, ρ = [some (.loc h), some (.int p), y2, y3]) ∧ i ≤ B.length ∧ τ = μ ∧ ∀ b ∈ B.take i, ¬ p < b.2) (fun i ρ τ ⟨_, _, e, _⟩ => e ▸ hB) ?_ ?_ FUEL 0 _ _ (by rw [List.length_map]; unfold FUEL; omega) (by omega) ⟨⟨_, _, rfl⟩, Nat.zero_le _, rfl, by simp⟩
  · rintro ρ τ ⟨⟨y2, y3, rfl⟩, _, rfl, hq⟩
    rw [List.length_map, List.take_length] at hq
    decreasing_trivial
    refine ⟨?_, rfl⟩
    unfold nxB
    rw [List.find?_eq_none.mpr fun b hb => by simpa using hq b hb]
    rfl
  · rintro i v ρ τ hv ⟨⟨y2, y3, rfl⟩, hi, rfl, hq⟩
    rw [List.getElem?_map] at hv
    obtain ⟨s, hs, rfl⟩ := Option.map_eq_some_iff.mp hv
    have hi2 := (List.getElem?_eq_some_iff.mp hs).1
    refine ⟨_, rfl, ?_⟩
    decreasing_trivial
    by_cases z : p < s.2
    · rw [if_pos (by simpa using z)]
      decreasing_trivial
      refine ⟨?_, rfl⟩
      unfold nxB
      have : B.find? (fun b => decide (p < b.2)) = some s := by
        rw [List.find?_eq_some_iff_append]
        exact ⟨by simpa using z, B.take i, B.drop (i + 1), by
          have e := List.take_append_drop i B
          rw [List.drop_eq_getElem_cons hi2] at e
          have e2 : B[i] = s := (List.getElem?_eq_some_iff.mp hs).2
          rw [e2] at e
          exact e.symm, fun b hb => by simpa using hq b hb⟩
      rw [this]
      rfl
    · rw [if_neg (by simpa using z)]
      refine ⟨⟨_, _, rfl⟩, hi2, rfl, fun b hb => ?_⟩
      rw [List.take_add_one, hs] at hb
      rcases List.mem_append.mp hb with hb | hb
      · exact hq b hb
      · rw [show b = s by simpa using hb]
        exact z
end Lr
set_option maxHeartbeats 1000000
namespace Lr
open PySem PySem.Spec L2
def lfO : Option Int → Leaf
  | some p => .num p
  | none => .none
theorem lfO_inj {a b : Option Int} (h : lfO a = lfO b) : a = b := by
  cases a <;> cases b <;> simp_all [lfO]
theorem leaf_on (q : Option Int) : leafOf (onV q) = some (lfO q) := by cases q <;> rfl
def tabQ (f : Option Int → AV) (qs : List (Option Int)) : List (Leaf × AV) := qs.map fun q => (lfO q, f q)
theorem valP_tab {f : Option Int → AV} {q : Option Int} : ∀ {qs : List (Option Int)}, q ∈ qs → valP (tabQ f qs) (lfO q) = some (f q)
  | r :: qs, h => by
    unfold valP tabQ
    rw [List.map_cons]
    by_cases e : lfO r = lfO q
    · rw [List.find?_cons_of_pos (by simpa using e), lfO_inj e]
      rfl
    · rw [List.find?_cons_of_neg (by simpa using e)]
      exact valP_tab ((List.mem_cons.mp h).resolve_left fun z => e (by rw [z]))
theorem putP_tab {f : Option Int → AV} {q : Option Int} {qs : List (Option Int)} (h : q ∉ qs) : putP (tabQ f qs) (lfO q) (f q) = tabQ f (qs ++ [q]) := by
  unfold putP
  rw [if_neg]
  · unfold tabQ
    rw [List.map_append]
    rfl
  · rw [List.any_eq_true]
    rintro ⟨kv, hk, e⟩
    obtain ⟨r, hr, rfl⟩ := List.mem_map.mp hk
    have e := of_decide_eq_true e
    exact h (lfO_inj e ▸ hr)
end Lr
set_option maxHeartbeats 1000000
namespace Lr
open PySem PySem.Spec L2
section
variable {row : List (Int × Int)} {nx : Int → Option Int}
theorem chains_ne (h : NxOk row nx) : ∀ (k : Nat) (q : Option Int), GoodP row q → chainsN row nx k q ≠ []
  | 0, _, _ => by simp [chainsN]
  | k + 1, none, _ => by simp [chainsN]
  | k + 1, some p, hg => by
    have hne := spans1_ne hg
    have hm := mnL_mem (xs := (spans1 row p).map fun x => fewN row nx k (nx x.2.2)) (by simpa using hne)
    obtain ⟨x, hx, e⟩ := List.mem_map.mp hm
    have hf : x ∈ firstN row nx k p := List.mem_filter.mpr ⟨hx, by rw [e]; exact beq_self_eq_true _⟩
    obtain ⟨c, hc⟩ := List.exists_mem_of_ne_nil _ (chains_ne h k (nx x.2.2) (h.good _))
    intro z
    have : x.1 :: c ∈ chainsN row nx (k + 1) (some p) := List.mem_flatMap.mpr ⟨x, hf, List.mem_map.mpr ⟨c, hc, rfl⟩⟩
    rw [z] at this
    cases this
theorem big_step (h : NxOk row nx) {M : Int} (hM : ∀ s ∈ row, s.2 ≤ M) {k : Nat} {p : Int} (hk : measP M (some p) ≤ k) (hg : busyU row p) :
    fewN row nx k (some p) = 1 + mnL ((spans1 row p).map fun x => fewN row nx k (nx x.2.2)) ∧ chainsN row nx k (some p) = (firstN row nx k p).flatMap fun x => (chainsN row nx k (nx x.2.2)).map (x.1 :: ·) := by
  obtain ⟨j, rfl⟩ : ∃ j, k = j + 1 := ⟨k - 1, by have : 1 ≤ measP M (some p) := Nat.succ_pos _; omega⟩
  have fu : ∀ x ∈ spans1 row p, fewN row nx j (nx x.2.2) = fewN row nx (j + 1) (nx x.2.2) ∧ chainsN row nx j (nx x.2.2) = chainsN row nx (j + 1) (nx x.2.2) := fun x hx => by
    obtain ⟨hr, hs⟩ := mem_spans1.mp hx
    have hm := h.meas hM hs.2 (hM _ (List.mem_of_getElem? hr))
    exact fuel_eq h hM j (j + 1) _ (by omega) (by omega)
  have e1 : (spans1 row p).map (fun x => fewN row nx (j + 1) (nx x.2.2)) = (spans1 row p).map fun x => fewN row nx j (nx x.2.2) := List.map_congr_left fun x hx => (fu x hx).1.symm
  have ef : firstN row nx (j + 1) p = firstN row nx j p := by
    unfold firstN
    rw [e1]
    exact List.filter_congr fun x hx => by rw [(fu x hx).1]
  refine ⟨?_, ?_⟩
  · rw [e1]
    rfl
  · rw [ef]
    show (firstN row nx j p).flatMap _ = _
    exact flatMap_ext fun x hx => by rw [(fu x (List.mem_filter.mp hx).1).2]
theorem ways_step (h : NxOk row nx) {M : Int} (hM : ∀ s ∈ row, s.2 ≤ M) {k : Nat} {p : Int} (hk : measP M (some p) ≤ k) (hg : busyU row p) : (chainsN row nx k (some p)).length = ((firstN row nx k p).map fun x => (chainsN row nx k (nx x.2.2)).length).sum := by
  rw [(big_step h hM hk hg).2, List.length_flatMap]
  congr 1
  exact List.map_congr_left fun x _ => List.length_map _
def mxL (xs : List Nat) : Nat := xs.foldl max 0
theorem mx_aux : ∀ (xs : List Nat) (a : Nat), a ≤ xs.foldl max a ∧ (∀ x ∈ xs, x ≤ xs.foldl max a) ∧ (xs.foldl max a = a ∨ xs.foldl max a ∈ xs)
  | [], a => ⟨Nat.le_refl _, fun x h => (nomatch h), .inl rfl⟩
  | y :: xs, a => by
    obtain ⟨h1, h2, h3⟩ := mx_aux xs (max a y)
    rw [List.foldl_cons]
    refine ⟨by omega, fun x hx => ?_, ?_⟩
    · rcases List.mem_cons.mp hx with rfl | hx
      · omega
      · exact h2 x hx
    · rcases h3 with h3 | h3
      · by_cases z : a ≤ y
        · exact .inr (by rw [h3, Nat.max_eq_right z]; exact .head _)
        · exact .inl (by rw [h3]; omega)
      · exact .inr (.tail _ h3)
theorem mxL_ge {xs : List Nat} {x : Nat} (h : x ∈ xs) : x ≤ mxL xs := (mx_aux xs 0).2.1 x h
theorem mxL_mem {xs : List Nat} (h : xs ≠ []) : mxL xs ∈ xs := by
  rcases (mx_aux xs 0).2.2 with e | e
  · cases xs with
    | nil => exact absurd rfl h
    | cons y xs =>
      have := mxL_ge (xs := y :: xs) (.head _)
      have e : mxL (y :: xs) = 0 := e
      have : y = 0 := by omega
      rw [e, this]
      exact .head _
  · exact e
theorem mxL_is {xs : List Nat} {m : Nat} (h1 : m ∈ xs) (h2 : ∀ x ∈ xs, x ≤ m) : mxL xs = m := Nat.le_antisymm (h2 _ (mxL_mem (List.ne_nil_of_mem h1))) (mxL_ge h1)
variable (row nx) in

def bestN (k : Nat) (q : Option Int) : Nat := mxL ((chainsN row nx k q).map (markS row.length))
theorem best_step (h : NxOk row nx) {M : Int} (hM : ∀ s ∈ row, s.2 ≤ M) {k : Nat} {p : Int} (hk : measP M (some p) ≤ k) (hg : busyU row p) : bestN row nx k (some p) = mxL ((firstN row nx k p).map fun x => bestN row nx k (nx x.2.2) + 2 ^ (row.length - 1 - x.1)) := by
  have hc := (big_step h hM hk hg).2
  have hne : firstN row nx k p ≠ [] := fun z => by
    have := chains_ne h k (some p) hg
    rw [hc, z] at this
    exact this rfl
  have hm := mxL_mem (xs := (firstN row nx k p).map fun x => bestN row nx k (nx x.2.2) + 2 ^ (row.length - 1 - x.1)) (by simpa using hne)
  refine mxL_is ?_ fun y hy => ?_
  · obtain ⟨x, hx, e⟩ := List.mem_map.mp hm
    have hb := mxL_mem (xs := (chainsN row nx k (nx x.2.2)).map (markS row.length)) (by simpa using chains_ne h k (nx x.2.2) (h.good _))
    obtain ⟨c, hcc, e2⟩ := List.mem_map.mp hb
    refine List.mem_map.mpr ⟨x.1 :: c, ?_, ?_⟩
    · rw [hc]
      exact List.mem_flatMap.mpr ⟨x, hx, List.mem_map.mpr ⟨c, hcc, rfl⟩⟩
    · rw [markS_cons, e2, ← e, Nat.add_comm]
      rfl
  · obtain ⟨c, hcc, rfl⟩ := List.mem_map.mp hy
    rw [hc] at hcc
    obtain ⟨x, hx, hd⟩ := List.mem_flatMap.mp hcc
    obtain ⟨d, hdc, rfl⟩ := List.mem_map.mp hd
    have h1 := mxL_ge (xs := (firstN row nx k p).map fun x => bestN row nx k (nx x.2.2) + 2 ^ (row.length - 1 - x.1)) (List.mem_map.mpr ⟨x, hx, rfl⟩)
    have h2 : markS row.length d ≤ bestN row nx k (nx x.2.2) := mxL_ge (List.mem_map.mpr ⟨d, hdc, rfl⟩)
    rw [markS_cons]
    omega
end
end Lr
namespace Lr
open PySem PySem.Spec L2
section
variable {ρ : Loc} {μ : Store} {D : Kt} {Q : AV → Store → Prop} {QL : List AV → Store → Prop} {QB : Bool → Store → Prop} {QS : Src → Store → Prop} {QK : List (Key × AV) → Store → Prop}
theorem w_enumT {r : AA} (h : wp (r ρ μ) fun xs μ1 => ∃ ys, (xs = [.tup ys] ∨ xs = [.lst ys]) ∧ QS (.dat (enumA ys)) μ1) : wp (iEnumU r ρ μ) QS := by
  unfold iEnumU
  rw [wp_bind]
  refine h.mono fun xs μ1 ⟨ys, e, h⟩ => ?_
  rcases e with rfl | rfl <;> exact h
end
end Lr
set_option maxHeartbeats 1000000
namespace Lr
open PySem PySem.Spec L2
section
variable {ρ : Loc} {μ : Store} {D : Kt} {Q : AV → Store → Prop} {QL : List AV → Store → Prop} {QS : Src → Store → Prop}
theorem stLf_9 {n : Nat} {kvs : List (Leaf × AV)} (e : μ[n]? = some (.dlf kvs)) : stLf μ (.loc n) = some (n, kvs) := by simp [stLf, e]
theorem w_lnew9 (h : Q (.loc μ.length) (μ ++ [.dlf []])) : wp (eLNew ρ μ) Q := h
theorem w_inL9 {x : AV} {n : Nat} {kvs : List (Leaf × AV)} {kk : Leaf} (e : μ[n]? = some (.dlf kvs)) (ek : leafOf x = some kk) (h : Q (.bl (valP kvs kk).isSome) μ) : wp (gInL x (.loc n) μ) Q := by
  unfold gInL
  rw [stLf_9 e, ek]
  exact h
theorem w_lix9 {o i : AE} (h : wp (o ρ μ) fun l μ1 => wp (i ρ μ1) fun j μ2 => ∃ n kvs kk v, l = .loc n ∧ μ2[n]? = some (.dlf kvs) ∧ leafOf j = some kk ∧ valP kvs kk = some v ∧ Q v μ2) : wp (eLIx o i ρ μ) Q := by
  unfold eLIx
  rw [wp_bind]
  refine h.mono fun l μ1 h => ?_
  rw [wp_bind]
  refine h.mono fun j μ2 ⟨n, kvs, kk, v, e1, e2, e3, e4, hq⟩ => ?_
  rw [e1, stLf_9 e2, e3]
  simp only [e4]
  exact hq
theorem o_lput9 {o i r : AE} (h : wp (r ρ μ) fun v μ1 => wp (o ρ μ1) fun l μ2 => wp (i ρ μ2) fun j μ3 => ∃ n kvs kk, l = .loc n ∧ μ3[n]? = some (.dlf kvs) ∧ leafOf j = some kk ∧ kvs.length < 16777216 ∧ D.nx ρ (μ3.set n (.dlf (putP kvs kk v)))) : wo (sLPut o i r ρ μ) D := by
  unfold sLPut
  rw [wo_out]
  refine h.mono fun v μ1 h => ?_
  rw [wo_out]
  refine h.mono fun l μ2 h => ?_
  rw [wo_out]
  refine h.mono fun j μ3 ⟨n, kvs, kk, e1, e2, e3, e4, hq⟩ => ?_
  rw [e1, stLf_9 e2, e3]
  simp only [if_pos e4]
  exact hq
theorem w_minL9 {x : AV} {xs : List AV} {ns : List Int} {m : Int} (e : lsOf μ x = some xs) (e2 : intsOf xs = some ns) (h1 : m ∈ ns) (h2 : ∀ y ∈ ns, m ≤ y) (h : Q (.int m) μ) : wp (gMinL [x] μ) Q := by
  unfold gMinL
  cases ns with
  | nil => exact nomatch h1
  | cons n ns =>
    simp only [e, e2]
    obtain ⟨b1, b2⟩ := minL_le ns n
    have em : ns.foldl (fun i j => if j < i then j else i) n = m := Int.le_antisymm (b2 _ h1) (h2 _ b1)
    rw [em]
    exact h
theorem w_maxL9 {x : AV} {xs : List AV} {ns : List Int} {m : Int} (e : lsOf μ x = some xs) (e2 : intsOf xs = some ns) (h1 : m ∈ ns) (h2 : ∀ y ∈ ns, y ≤ m) (h : Q (.int m) μ) : wp (gMaxL [x] μ) Q := by
  unfold gMaxL
  cases ns with
  | nil => exact nomatch h1
  | cons n ns =>
    simp only [e, e2]
    obtain ⟨b1, b2⟩ := maxL_le ns n
    have em : ns.foldl (fun i j => if j > i then j else i) n = m := Int.le_antisymm (h2 _ b1) (b2 _ h1)
    rw [em]
    exact h
theorem take_snoc9 {α : Type} {xs : List α} {i : Nat} {a : α} (h : xs[i]? = some a) : xs.take (i + 1) = xs.take i ++ [a] := by
  rw [List.take_add_one, h]
  rfl
theorem lc_map9 {α : Type} {xs : List α} {f r : α → AV} {p : α → Bool} {g : AG} {tt : AT} {te : AE} (hz : xs.length ≤ 1000000)
    (hg : ∀ a ∈ xs, ∃ ρ1, g (f a) ρ = some ρ1 ∧ wp (tt ρ1 μ) fun b μ1 => μ1 = μ ∧ b = p a ∧ (p a = true → wp (te ρ1 μ) fun y μ2 => μ2 = μ ∧ y = r a)) (h : QL ((xs.filter p).map r) μ) : wp (lcF g tt te (.dat (xs.map f)) FUEL 0 ρ [] μ) QL := by
  refine wp_lcI (fun i acc σ => σ = μ ∧ i ≤ xs.length ∧ acc = ((xs.take i).filter p).map r) ?_ ?_ FUEL 0 [] μ (by rw [List.length_map]; unfold FUEL; omega) (Nat.zero_le _) ⟨rfl, Nat.zero_le _, rfl⟩
  · rintro acc σ ⟨rfl, _, rfl⟩
    rw [List.length_map, List.take_length]
    exact h
  rintro i v acc σ hv ⟨rfl, hi, rfl⟩
  rw [List.getElem?_map] at hv
  obtain ⟨a, ha, rfl⟩ := Option.map_eq_some_iff.mp hv
  have hil := (List.getElem?_eq_some_iff.mp ha).1
  obtain ⟨ρ1, e1, h1⟩ := hg a (List.mem_of_getElem? ha)
  refine ⟨ρ1, e1, h1.mono ?_⟩
  rintro b μ1 ⟨rfl, rfl, h2⟩
  have et : (xs.take (i + 1)).filter p = (xs.take i).filter p ++ if p a = true then [a] else [] := by
    rw [take_snoc9 ha, List.filter_append]
    congr 1
    by_cases z : p a = true
    · simp [z]
    · simp [z]
  by_cases hp : p a = true
  · rw [if_pos hp]
    refine (h2 hp).mono ?_
    rintro y μ2 ⟨rfl, rfl⟩
    refine ⟨?_, rfl, hil, ?_⟩
    · rw [List.length_map]
      exact Nat.lt_of_le_of_lt (List.length_filter_le _ _) (by rw [List.length_take]; omega)
    · rw [et, if_pos hp, List.map_append]
      rfl
  · rw [if_neg hp]
    refine ⟨rfl, hil, ?_⟩
    rw [et, if_neg hp, List.append_nil]
theorem lc_all9 {α : Type} {xs : List α} {f r : α → AV} {g : AG} {te : AE} (hz : xs.length ≤ 1000000)
    (hg : ∀ a ∈ xs, ∃ ρ1, g (f a) ρ = some ρ1 ∧ wp (te ρ1 μ) fun y μ2 => μ2 = μ ∧ y = r a) (h : QL (xs.map r) μ) : wp (lcF g tTrue te (.dat (xs.map f)) FUEL 0 ρ [] μ) QL := by
  refine lc_map9 (p := fun _ => true) (r := r) hz (fun a ha => ?_) (by rw [List.filter_eq_self.mpr fun _ _ => rfl]; exact h)
  obtain ⟨ρ1, e, h1⟩ := hg a ha
  exact ⟨ρ1, e, rfl, rfl, fun _ => h1⟩
theorem w_fld9 {n i : Nat} {c : Nat} {cs : List Nat} {f : Str} {fs : List (Str × AV)} {v : AV} (e : ρ[i]? = some (some (.loc n))) (eh : μ[n]? = some (.ins c fs)) (hc : c ∈ cs) (hl : fs.lookup f = some v) (h : Q v μ) : wp (eFld cs f (eVar i) ρ μ) Q :=
  w_fld (w_var e ⟨n, c, fs, v, rfl, eh, hc, hl, h⟩)
theorem enumA_zip {α : Type} {xs : List α} {f : α → AV} : enumA (xs.map f) = xs.zipIdx.map fun x => AV.tup [.int (x.2 : Nat), f x.1] := by
  refine List.ext_getElem? fun i => ?_
  rw [enumA_get, List.getElem?_map, List.getElem?_map, List.getElem?_zipIdx]
  cases xs[i]? with
  | none => rfl
  | some x => simp
theorem w_aRevL9 {r : AE} (h : wp (r ρ μ) fun x μ1 => ∃ xs, lsOf μ1 x = some xs ∧ QL xs.reverse μ1) : wp (aRevL r ρ μ) QL := by
  unfold aRevL
  rw [wp_bind]
  refine h.mono fun x μ1 ⟨xs, e, h⟩ => ?_
  simp only [e]
  exact h
theorem w_frz9 {r : AE} (h : wp (r ρ μ) fun v μ1 => ∃ n xs, v = .loc n ∧ μ1[n]? = some (.lst xs) ∧ Q (.lst xs) (μ1.set n .dead)) : wp (eFrz r ρ μ) Q := by
  unfold eFrz
  rw [wp_bind]
  refine h.mono fun v μ1 h => ?_
  obtain ⟨n, xs, rfl, e, h⟩ := h
  simp only [e]
  exact h
theorem fn_gc9 {n m : Nat} {b : AS} {as : List AV} (hl : as.length = m) (h : wo (b (startA n as) μ) { rt := fun v σ => Q v σ ∧ (gcOk μ σ → Q v (σ.take μ.length)), nx := fun _ σ => Q .non σ ∧ (gcOk μ σ → Q .non (σ.take μ.length)) }) : wp (fnR n m b as μ) Q := by
  unfold fnR
  rw [if_pos hl]
  unfold bodyR
  have fin : ∀ v σ, (Q v σ ∧ (gcOk μ σ → Q v (σ.take μ.length))) → wp (gc μ (.ok v σ)) Q := fun v σ ⟨h1, h2⟩ => by
    unfold gc
    dsimp only
    split
    · rename_i hc
      exact h2 hc.2
    · exact h1
  cases e : b (startA n as) μ with
  | nx ρ σ => rw [e] at h; exact fin _ _ h
  | rt v σ => rw [e] at h; exact fin _ _ h
  | ex c p ρ σ => rw [e] at h; exact False.elim h
  | bk ρ σ => rw [e] at h; exact False.elim h
  | ct ρ σ => rw [e] at h; exact False.elim h
  | bad => rw [e] at h; exact False.elim h
theorem fn_keep9 {n m : Nat} {b : AS} {as : List AV} (hl : as.length = m) (h : wo (b (startA n as) μ) { rt := fun v σ => σ.length = μ.length ∧ Q v σ, nx := fun _ σ => σ.length = μ.length ∧ Q .non σ }) : wp (fnR n m b as μ) Q :=
  fn_gc9 hl (h.mono (fun _ σ ⟨h1, h2⟩ => ⟨h2, fun _ => by rw [← h1, List.take_length]; exact h2⟩) (fun v σ ⟨h1, h2⟩ => ⟨h2, fun _ => by rw [← h1, List.take_length]; exact h2⟩) (fun _ _ h => False.elim h) (fun _ _ h => False.elim h))
theorem w_gEqI9 {i j : Int} (h : Q (.bl (i == j)) μ) : wp (gEq (.int i) (.int j) μ) Q := w_gEq (by simp [eqB, lsOf, eqv]) (by simp [depM, lsOf, dep]) h
theorem w_gNeI9 {i j : Int} (h : Q (.bl (!(i == j))) μ) : wp (gNe (.int i) (.int j) μ) Q := w_gNe (r := i == j) (by simp [eqB, lsOf, eqv]) (by simp [depM, lsOf, dep]) h
theorem intsOf_map9 {α : Type} {g : α → Int} : ∀ xs : List α, intsOf (xs.map fun x => AV.int (g x)) = some (xs.map g)
  | [] => rfl
  | x :: xs => by rw [List.map_cons]; unfold intsOf; rw [intsOf_map9 xs]; rfl
theorem sum_cast9 {α : Type} {g : α → Nat} : ∀ xs : List α, (xs.map fun x => ((g x : Nat) : Int)).sum = ((xs.map g).sum : Nat)
  | [] => rfl
  | x :: xs => by rw [List.map_cons, List.sum_cons, sum_cast9 xs, List.map_cons, List.sum_cons, Int.natCast_add]
end
end Lr
set_option maxHeartbeats 1000000
namespace Lr
open PySem PySem.Spec L2
structure Cv where
  row : List (Int × Int)
  B : List (Int × Int)
  K : Nat
  st : Int
  ps : List Int
def Cv.nx (c : Cv) : Int → Option Int := nxB c.B
def Cv.fewV (c : Cv) (q : Option Int) : AV := .int (fewN c.row c.nx c.K q : Nat)
def Cv.waysV (c : Cv) (q : Option Int) : AV := .int ((chainsN c.row c.nx c.K q).length : Nat)
def Cv.bestV (c : Cv) (q : Option Int) : AV := .int (bestN c.row c.nx c.K q : Nat)
def idxV (xs : List (Nat × (Int × Int))) : List AV := xs.map fun x => AV.int (x.1 : Nat)
def Cv.firstV (c : Cv) (q : Option Int) : AV := .lst (match q with | none => [] | some p => idxV (firstN c.row c.nx c.K p))
def Cv.later (c : Cv) : List AV := c.row.map fun s => onV (c.nx s.2)
def Cv.fs (c : Cv) (h : Nat) : List (Str × AV) := [("row", .tup (c.row.map pV)), ("blocks", .loc (h + 1)), ("later", .lst c.later), ("start", .int c.st), ("places", .lst (c.ps.map AV.int)), ("fewest", .loc (h + 2)), ("ways", .loc (h + 3)), ("best_marks", .loc (h + 4)), ("first_spans", .loc (h + 5))]
def Cv.keys (done : List Int) : List (Option Int) := none :: done.map some
def Cv.objs (c : Cv) (h : Nat) (done : List Int) : List AO := [.ins 105 (c.fs h), .lst (c.B.map pV), .dlf (tabQ c.fewV (Cv.keys done)), .dlf (tabQ c.waysV (Cv.keys done)), .dlf (tabQ c.bestV (Cv.keys done)), .dlf (tabQ c.firstV (done.map some))]
def Cv.at (c : Cv) (μ : Store) (done : List Int) : Store := μ ++ c.objs μ.length done
structure CvOk (c : Cv) (M : Int) : Prop where
  blk : BlkI c.row c.B
  hM : ∀ s ∈ c.row, s.2 ≤ M
  pos : ∀ s ∈ c.row, 0 ≤ s.1 ∧ s.1 < s.2
  K : ∀ p : Int, 0 ≤ p → measP M (some p) ≤ c.K
  len : c.row.length ≤ 100
  blen : c.B.length ≤ 100
  bz : ∀ p ∈ c.ps, busyU c.row p
  clo : ∀ s ∈ c.row, ∀ q, c.nx s.2 = some q → q ∈ c.ps
  srt : c.ps.Pairwise (· < ·)
  sin : c.st ∈ c.ps
  plen : c.ps.length ≤ 200
section
variable {c : Cv} {M : Int}
theorem CvOk.nxo (h : CvOk c M) : NxOk c.row c.nx := nx_ok h.blk
theorem busy_nn (h : CvOk c M) {p : Int} (b : busyU c.row p) : 0 ≤ p := by
  obtain ⟨s, hs, h1, h2⟩ := b
  have := h.pos s hs
  omega
theorem at_get (c : Cv) (μ : Store) (done : List Int) (i : Nat) : (c.at μ done)[μ.length + i]? = (c.objs μ.length done)[i]? := by
  unfold Cv.at
  rw [List.getElem?_append_right (by omega), Nat.add_sub_cancel_left]
theorem at_get0 (c : Cv) (μ : Store) (done : List Int) : (c.at μ done)[μ.length]? = some (.ins 105 (c.fs μ.length)) := at_get c μ done 0
theorem app_set (μ : Store) (xs : List AO) (i : Nat) (o : AO) : (μ ++ xs).set (μ.length + i) o = μ ++ xs.set i o := by
  rw [List.set_append_right _ _ (by omega), Nat.add_sub_cancel_left]
theorem spans1_eq (row : List (Int × Int)) (p : Int) : (row.zipIdx.filter fun x => decide (hasU x.1 p)).map (fun x => AV.int (x.2 : Nat)) = idxV (spans1 row p) := by
  unfold spans1 idxV
  generalize row.zipIdx = zs
  induction zs with
  | nil => rfl
  | cons z zs ih =>
    by_cases e : hasU z.1 p
    · rw [List.filter_cons_of_pos (by simpa using e), List.filterMap_cons_some (by rw [if_pos e])]
      simp [ih]
    · rw [List.filter_cons_of_neg (by simpa using e), List.filterMap_cons_none (by rw [if_neg e])]
      exact ih
theorem later_at {i : Nat} {s : Int × Int} (hs : c.row[i]? = some s) : atI c.later (i : Nat) = some (onV (c.nx s.2)) := by
  have hi := (List.getElem?_eq_some_iff.mp hs).1
  unfold Cv.later
  rw [atI_nn (by omega) (by rw [List.length_map]; omega), Int.toNat_natCast, List.getElem?_map, hs]
  rfl
def MarkOk (f : Fn) : Prop := ∀ (row : List (Int × Int)) (h i : Nat) (fs : List (Str × AV)) (μ : Store), row.length ≤ 100 → μ[h]? = some (.ins 105 fs) → fs.lookup ("row" : Str) = some (AV.tup (row.map pV)) → i < row.length → wp (f [.loc h, .int (i : Nat)] μ) fun v σ => v = .int (2 ^ (row.length - 1 - i) : Nat) ∧ σ = μ
theorem mark_ok (T : Nat → Fn) : MarkOk (fnR 2 2 (m756_Covers_mark T)) := fun row h i fs μ hl e hf hi => by
  refine fn_keep9 rfl ?_
  simp only [startA_s, List.map_cons, List.map_nil, List.length_cons, List.length_nil, Nat.reduceAdd, Nat.reduceSub, List.replicate_succ, List.replicate_zero, List.cons_append, List.nil_append]
  unfold m756_Covers_mark
  refine o_ret (w_op (w_c (w_op (w_op (w_cb (w_cons (w_fld9 rfl e (by decide) hf (w_nil (w_lenT (w_c (w_sub (w_var rfl (w_sub ?_)))))))))))))
  refine w_shl (by rw [List.length_map]; omega) (by rw [List.length_map]; omega) (by decide) ⟨rfl, ?_, rfl⟩
  rw [List.length_map]
  have e1 : ((row.length : Int) - 1 - (i : Int)).toNat = row.length - 1 - i := by omega
  rw [e1, Int.one_mul]
  simp
def LookOk (f : Fn) : Prop := ∀ (c : Cv) (M : Int), CvOk c M → ∀ (μ : Store) (done : List Int) (p : Int), p ∈ c.ps → p ∉ done → done.length ≤ 200 → (∀ s ∈ c.row, ∀ q, c.nx s.2 = some q → hasU s p → q ∈ done) → wp (f [.loc μ.length, .int p] (c.at μ done)) fun v σ => v = .non ∧ σ = c.at μ (done ++ [p])
theorem keys_app (done : List Int) (p : Int) : Cv.keys done ++ [some p] = Cv.keys (done ++ [p]) := by simp [Cv.keys]
theorem app_get9 (μ : Store) (xs : List AO) (i : Nat) : (μ ++ xs)[μ.length + i]? = xs[i]? := by
  rw [List.getElem?_append_right (by omega), Nat.add_sub_cancel_left]
theorem keys_len (done : List Int) : (Cv.keys done).length = done.length + 1 := by simp [Cv.keys]
theorem tabQ_len {f : Option Int → AV} {qs : List (Option Int)} : (tabQ f qs).length = qs.length := List.length_map _
theorem look_ok (T : Nat → Fn) (hmk : MarkOk (T i756_Covers_mark)) : LookOk (fnR 8 2 (m1019_Covers_look_at T)) := fun c M hc μ done p hp hnd hdl hdn => by
  have hno := hc.nxo
  have hb := hc.bz p hp
  have hK := hc.K p (busy_nn hc hb)
  have hrl := hc.len
  have fw := big_step hno hc.hM hK hb
  have ww := ways_step hno hc.hM hK hb
  have bw := best_step hno hc.hM hK hb
  have hmem : ∀ x ∈ spans1 c.row p, c.nx x.2.2 ∈ Cv.keys done := fun x hx => by
    obtain ⟨hr, hs⟩ := mem_spans1.mp (show (x.1, x.2) ∈ spans1 c.row p from hx)
    cases e : c.nx x.2.2 with
    | none => exact .head _
    | some q => exact .tail _ (List.mem_map.mpr ⟨q, hdn _ (List.mem_of_getElem? hr) q e hs, rfl⟩)
  have hrow : ∀ x ∈ spans1 c.row p, c.row[x.1]? = some x.2 := fun x hx => (mem_spans1.mp (show (x.1, x.2) ∈ spans1 c.row p from hx)).1
  have hfir : ∀ x ∈ firstN c.row c.nx c.K p, x ∈ spans1 c.row p := fun x hx => (List.mem_filter.mp hx).1
  have hsl : (spans1 c.row p).length ≤ 100 := by
    have := List.length_filterMap_le (fun x : (Int × Int) × Nat => if hasU x.1 p then some (x.2, x.1) else none) c.row.zipIdx
    rw [List.length_zipIdx] at this
    exact Nat.le_trans this hrl
  have hfl : (firstN c.row c.nx c.K p).length ≤ 100 := Nat.le_trans (List.length_filter_le _ _) hsl
  refine fn_keep9 rfl ?_
  simp only [startA_s, List.map_cons, List.map_nil, List.length_cons, List.length_nil, Nat.reduceAdd, Nat.reduceSub, List.replicate_succ, List.replicate_zero, List.cons_append, List.nil_append]
  unfold m1019_Covers_look_at
  unfold Cv.at Cv.objs
  generalize eO0 : AO.ins 105 (c.fs μ.length) = O0
  generalize eO1 : AO.lst (c.B.map pV) = O1
  generalize eD1 : AO.dlf (tabQ c.fewV (Cv.keys done)) = D1
  generalize eD2 : AO.dlf (tabQ c.waysV (Cv.keys done)) = D2
  generalize eD3 : AO.dlf (tabQ c.bestV (Cv.keys done)) = D3
  generalize eD4 : AO.dlf (tabQ c.firstV (done.map some)) = D4
  have eins : ∀ a b d e f : AO, (μ ++ [O0, a, b, d, e, f])[μ.length]? = some (.ins 105 (c.fs μ.length)) := fun a b d e f => by rw [eO0]; exact app_get9 μ _ 0
  refine o_seq (o_set (w_dat (w_lcU (w_enumT (w_cons (w_fld9 rfl (eins _ _ _ _ _) (by decide) rfl (w_nil ⟨_, .inl rfl, ?_⟩)))))))
  rw [enumA_zip]
  refine lc_map9 (p := fun x => decide (hasU x.1 p)) (r := fun x => .int (x.2 : Nat)) (by simp; omega) (fun x hx => ⟨_, rfl, ?_⟩) ?_
  · refine w_b1 (w_chain (w_var rfl (w_var rfl (w_le ⟨_, rfl, ?_⟩))))
    by_cases z : x.1.1 ≤ p
    · rw [if_pos (by simpa using z)]
      refine w_var rfl (w_lt ⟨_, rfl, rfl, ?_, fun _ => w_var rfl ⟨rfl, rfl⟩⟩)
      by_cases z2 : p < x.1.2 <;> simp [hasU, z, z2]
    · rw [if_neg (by simpa using z)]
      exact ⟨_, rfl, rfl, by simp [hasU, z], fun _ => w_var rfl ⟨rfl, rfl⟩⟩
  rw [spans1_eq]
  generalize hX : spans1 c.row p = X at *
  refine o_seq (o_set (w_op (w_c (w_cb (w_cons (w_dat (w_lcU (w_anyL (w_var rfl ⟨_, rfl, ?_⟩)))))))))
  have v1 : ∀ x ∈ X, valP (tabQ c.fewV (Cv.keys done)) (lfO (c.nx x.2.2)) = some (.int (fewN c.row c.nx c.K (c.nx x.2.2) : Nat)) := fun x hx => valP_tab (hmem x hx)
  have v2 : ∀ x ∈ X, valP (tabQ c.waysV (Cv.keys done)) (lfO (c.nx x.2.2)) = some (.int ((chainsN c.row c.nx c.K (c.nx x.2.2)).length : Nat)) := fun x hx => valP_tab (hmem x hx)
  have v3 : ∀ x ∈ X, valP (tabQ c.bestV (Cv.keys done)) (lfO (c.nx x.2.2)) = some (.int (bestN c.row c.nx c.K (c.nx x.2.2) : Nat)) := fun x hx => valP_tab (hmem x hx)
  have g1 : ∀ a d e f : AO, (μ ++ [O0, a, D1, d, e, f])[μ.length + 2]? = some (.dlf (tabQ c.fewV (Cv.keys done))) := fun a d e f => by rw [eD1]; exact app_get9 μ _ 2
  refine lc_all9 (f := fun x : Nat × (Int × Int) => AV.int (x.1 : Nat)) (r := fun x => .int (fewN c.row c.nx c.K (c.nx x.2.2) : Nat)) (by omega) (fun x hx => ⟨_, rfl, w_lix9 (w_fld9 rfl (eins _ _ _ _ _) (by decide) rfl (w_op (w_fld9 rfl (eins _ _ _ _ _) (by decide) rfl (w_var rfl (w_ixL (later_at (hrow x hx)) ⟨_, _, _, _, rfl, g1 _ _ _ _, leaf_on _, v1 x hx, rfl, rfl⟩)))))⟩) ?_
  have hXne : X ≠ [] := hX ▸ spans1_ne hb
  have mm := mnL_mem (xs := X.map fun x => fewN c.row c.nx c.K (c.nx x.2.2)) (by simpa using hXne)
  refine w_nil (w_minL9 (m := (mnL (X.map fun x => fewN c.row c.nx c.K (c.nx x.2.2)) : Nat)) rfl (intsOf_map9 _) ?_ ?_ (w_add ?_))
  · obtain ⟨x, hx, e⟩ := List.mem_map.mp mm
    exact List.mem_map.mpr ⟨x, hx, by rw [← e]⟩
  · intro y hy
    obtain ⟨x, hx, rfl⟩ := List.mem_map.mp hy
    exact Int.ofNat_le.mpr (mnL_le (List.mem_map.mpr ⟨x, hx, rfl⟩))
  have e3 : (1 : Int) + ((mnL (X.map fun x => fewN c.row c.nx c.K (c.nx x.2.2)) : Nat) : Int) = ((fewN c.row c.nx c.K (some p) : Nat) : Int) := by rw [fw.1, Int.natCast_add]; rfl
  rw [e3]
  obtain ⟨F, hF⟩ : ∃ F, F = firstN c.row c.nx c.K p := ⟨_, rfl⟩
  have hFX : ∀ x ∈ F, x ∈ X := fun x hx => hfir x (hF ▸ hx)
  have hFl : F.length ≤ 100 := hF ▸ hfl
  have hnk : some p ∉ Cv.keys done := by simp [Cv.keys, hnd]
  have ep1 : putP (tabQ c.fewV (Cv.keys done)) (.num p) (.int (fewN c.row c.nx c.K (some p) : Nat)) = tabQ c.fewV (Cv.keys (done ++ [p])) := by
    rw [← keys_app]
    exact putP_tab (f := c.fewV) (q := some p) hnk
  have ep2 : putP (tabQ c.waysV (Cv.keys done)) (.num p) (.int ((chainsN c.row c.nx c.K (some p)).length : Nat)) = tabQ c.waysV (Cv.keys (done ++ [p])) := by
    rw [← keys_app]
    exact putP_tab (f := c.waysV) (q := some p) hnk
  have ep3 : putP (tabQ c.bestV (Cv.keys done)) (.num p) (.int (bestN c.row c.nx c.K (some p) : Nat)) = tabQ c.bestV (Cv.keys (done ++ [p])) := by
    rw [← keys_app]
    exact putP_tab (f := c.bestV) (q := some p) hnk
  have ep4 : putP (tabQ c.firstV (done.map some)) (.num p) (.lst (idxV F)) = tabQ c.firstV ((done ++ [p]).map some) := by
    rw [List.map_append, hF]
    exact putP_tab (f := c.firstV) (q := some p) (by simp [hnd])
  have l1 : ∀ f, (tabQ f (Cv.keys done)).length < 16777216 := fun f => by rw [tabQ_len, keys_len]; omega
  have l4 : (tabQ c.firstV (done.map some)).length < 16777216 := by rw [tabQ_len, List.length_map]; omega
  have g2 : ∀ a b d e : AO, (μ ++ [O0, a, b, D2, d, e])[μ.length + 3]? = some (.dlf (tabQ c.waysV (Cv.keys done))) := fun a d e f => by rw [eD2]; exact app_get9 μ _ 3
  have g3 : ∀ a b d e : AO, (μ ++ [O0, a, b, d, D3, e])[μ.length + 4]? = some (.dlf (tabQ c.bestV (Cv.keys done))) := fun a d e f => by rw [eD3]; exact app_get9 μ _ 4
  have g4 : ∀ a b d e : AO, (μ ++ [O0, a, b, d, e, D4])[μ.length + 5]? = some (.dlf (tabQ c.firstV (done.map some))) := fun a d e f => by rw [eD4]; exact app_get9 μ _ 5
  refine o_seq (o_lput9 (w_dat (w_lcU (w_anyL (w_var rfl ⟨_, rfl, ?_⟩)))))
  refine lc_map9 (f := fun x : Nat × (Int × Int) => AV.int (x.1 : Nat)) (p := fun x => fewN c.row c.nx c.K (c.nx x.2.2) == mnL (X.map fun x => fewN c.row c.nx c.K (c.nx x.2.2))) (r := fun x => .int (x.1 : Nat)) (by omega) (fun x hx => ⟨_, rfl, ?_⟩) ?_
  · refine w_b1 (w_op (w_lix9 (w_fld9 rfl (eins _ _ _ _ _) (by decide) rfl (w_op (w_fld9 rfl (eins _ _ _ _ _) (by decide) rfl (w_var rfl (w_ixL (later_at (hrow x hx)) ⟨_, _, _, _, rfl, g1 _ _ _ _, leaf_on _, v1 x hx, w_op (w_var rfl (w_c (w_sub (w_gEqI9 ⟨_, rfl, rfl, ?_, fun _ => w_var rfl ⟨rfl, rfl⟩⟩))))⟩)))))))
    rw [← e3, Bool.eq_iff_iff, beq_iff_eq, beq_iff_eq]
    omega
  have eF : (X.filter fun x => fewN c.row c.nx c.K (c.nx x.2.2) == mnL (X.map fun x => fewN c.row c.nx c.K (c.nx x.2.2))) = F := by rw [hF, ← hX]; rfl
  rw [eF]
  refine w_fld9 rfl (eins _ _ _ _ _) (by decide) rfl (w_var rfl ⟨_, _, .num p, rfl, g4 _ _ _ _, rfl, l4, ?_⟩)
  have ep4' : putP (tabQ c.firstV (done.map some)) (.num p) (.lst (F.map fun x => AV.int (x.1 : Nat))) = tabQ c.firstV ((done ++ [p]).map some) := ep4
  rw [ep4', app_set]
  dsimp only [List.set]
  generalize eD4' : AO.dlf (tabQ c.firstV ((done ++ [p]).map some)) = D4'
  have g5 : ∀ a b d e : AO, (μ ++ [O0, a, b, d, e, D4'])[μ.length + 5]? = some (.dlf (tabQ c.firstV ((done ++ [p]).map some))) := fun a d e f => by rw [eD4']; exact app_get9 μ _ 5
  have v4 : valP (tabQ c.firstV ((done ++ [p]).map some)) (.num p) = some (.lst (idxV F)) := by
    rw [hF]
    exact valP_tab (f := c.firstV) (q := some p) (by simp)
  refine o_seq (o_lput9 (w_var rfl (w_fld9 rfl (eins _ _ _ _ _) (by decide) rfl (w_var rfl ⟨_, _, .num p, rfl, g1 _ _ _ _, rfl, l1 _, ?_⟩))))
  rw [ep1, app_set]
  dsimp only [List.set]
  generalize eD1' : AO.dlf (tabQ c.fewV (Cv.keys (done ++ [p]))) = D1'
  refine o_seq (o_lput9 (w_cb (w_cons (w_dat (w_lcU (w_anyL (w_lix9 (w_fld9 rfl (eins _ _ _ _ _) (by decide) rfl (w_var rfl ⟨_, _, .num p, _, rfl, g5 _ _ _ _, rfl, v4, ⟨_, rfl, ?_⟩⟩)))))))))
  refine lc_all9 (f := fun x : Nat × (Int × Int) => AV.int (x.1 : Nat)) (r := fun x => .int ((chainsN c.row c.nx c.K (c.nx x.2.2)).length : Nat)) (by omega) (fun x hx => ⟨_, rfl, w_lix9 (w_fld9 rfl (eins _ _ _ _ _) (by decide) rfl (w_op (w_fld9 rfl (eins _ _ _ _ _) (by decide) rfl (w_var rfl (w_ixL (later_at (hrow x (hFX x hx))) ⟨_, _, _, _, rfl, g2 _ _ _ _, leaf_on _, v2 x (hFX x hx), rfl, rfl⟩)))))⟩) ?_
  refine w_nil (w_sum (ns := F.map fun x => (((chainsN c.row c.nx c.K (c.nx x.2.2)).length : Nat) : Int)) rfl (intsOf_map9 _) ?_)
  have es : (F.map fun x => (((chainsN c.row c.nx c.K (c.nx x.2.2)).length : Nat) : Int)).sum = ((chainsN c.row c.nx c.K (some p)).length : Nat) := by rw [sum_cast9, ww, hF]
  rw [es]
  refine w_fld9 rfl (eins _ _ _ _ _) (by decide) rfl (w_var rfl ⟨_, _, .num p, rfl, g2 _ _ _ _, rfl, l1 _, ?_⟩)
  rw [ep2, app_set]
  dsimp only [List.set]
  generalize eD2' : AO.dlf (tabQ c.waysV (Cv.keys (done ++ [p]))) = D2'
  refine o_seq (o_set (w_dat (w_lcU (w_anyL (w_lix9 (w_fld9 rfl (eins _ _ _ _ _) (by decide) rfl (w_var rfl ⟨_, _, .num p, _, rfl, g5 _ _ _ _, rfl, v4, ⟨_, rfl, ?_⟩⟩)))))))
  refine lc_all9 (f := fun x : Nat × (Int × Int) => AV.int (x.1 : Nat)) (r := fun x => .int (bestN c.row c.nx c.K (c.nx x.2.2) + 2 ^ (c.row.length - 1 - x.1) : Nat)) (by omega) (fun x hx => ⟨_, rfl, w_op (w_lix9 (w_fld9 rfl (eins _ _ _ _ _) (by decide) rfl (w_op (w_fld9 rfl (eins _ _ _ _ _) (by decide) rfl (w_var rfl (w_ixL (later_at (hrow x (hFX x hx))) ⟨_, _, _, _, rfl, g3 _ _ _ _, leaf_on _, v3 x (hFX x hx), ?_⟩))))))⟩) ?_
  · refine w_meth (w_var rfl ⟨_, _, _, rfl, eins _ _ _ _ _, by decide, by rfl, w_cons (w_var rfl (w_nil ((hmk c.row _ x.1 _ _ hrl (eins _ _ _ _ _) rfl (List.getElem?_eq_some_iff.mp (hrow x (hFX x hx))).1).mono ?_)))⟩)
    rintro v σ ⟨rfl, rfl⟩
    exact w_add ⟨rfl, by rw [Int.natCast_add]⟩
  have hFne : F ≠ [] := fun z => by
    have := chains_ne hno c.K (some p) hb
    rw [fw.2, ← hF, z] at this
    exact this rfl
  have mx := mxL_mem (xs := F.map fun x => bestN c.row c.nx c.K (c.nx x.2.2) + 2 ^ (c.row.length - 1 - x.1)) (by simpa using hFne)
  refine o_lput9 (w_cb (w_cons (w_var rfl (w_nil (w_maxL9 (m := (bestN c.row c.nx c.K (some p) : Nat)) rfl (intsOf_map9 _) ?_ ?_ ?_)))))
  · rw [bw, ← hF]
    obtain ⟨x, hx, e⟩ := List.mem_map.mp mx
    exact List.mem_map.mpr ⟨x, hx, by rw [← e]⟩
  · rw [bw, ← hF]
    intro y hy
    obtain ⟨x, hx, rfl⟩ := List.mem_map.mp hy
    exact Int.ofNat_le.mpr (mxL_ge (List.mem_map.mpr ⟨x, hx, rfl⟩))
  refine w_fld9 rfl (eins _ _ _ _ _) (by decide) rfl (w_var rfl ⟨_, _, .num p, rfl, g3 _ _ _ _, rfl, l1 _, ?_⟩)
  rw [ep3, app_set]
  dsimp only [List.set]
  refine ⟨by simp, trivial, ?_⟩
  rw [← eD4', ← eD2', ← eD1', ← eO0, ← eO1]
end
end Lr
set_option maxHeartbeats 1000000
namespace Lr
open PySem PySem.Spec L2
theorem atI_09 {γ : Type} {x : γ} {r : List γ} : atI (x :: r) 0 = some x := by simp [atI, ixN]
theorem app_set0 (μ : Store) (a b : AO) (xs : List AO) : (μ ++ a :: xs).set μ.length b = μ ++ b :: xs := app_set μ (a :: xs) 0 b
def placesL (row : List (Int × Int)) (nx : Int → Option Int) (st : Int) : List Int := (some st :: row.map fun s => nx s.2).filterMap id
def startB (B : List (Int × Int)) : Int := (B.headD (0, 0)).1
def cvOf (row : List (Int × Int)) (M : Int) : Cv := ⟨row, blocksOf (sortP row), M.toNat + 1, startB (blocksOf (sortP row)), sortD (placesL row (nxB (blocksOf (sortP row))) (startB (blocksOf (sortP row))))⟩
structure RowO (row : List (Int × Int)) (M : Int) : Prop where
  ne : row ≠ []
  len : row.length ≤ 60
  ok : ∀ s ∈ row, 0 ≤ s.1 ∧ s.1 < s.2 ∧ s.2 ≤ M
section
variable {row : List (Int × Int)} {M : Int}
theorem RowO.blk (h : RowO row M) : BlkI row (blocksOf (sortP row)) := blocks_row fun s hs => (h.ok s hs).2.1
theorem RowO.bne (h : RowO row M) : blocksOf (sortP row) ≠ [] := fun z => by
  cases e : row with
  | nil => exact h.ne e
  | cons s r =>
    have hs : s ∈ row := by rw [e]; exact .head _
    obtain ⟨b, hb, _⟩ := (h.blk.cov s.1).mp ⟨s, hs, Int.le_refl _, (h.ok s hs).2.1⟩
    rw [z] at hb
    cases hb
theorem RowO.first (h : RowO row M) : ∃ b r, blocksOf (sortP row) = b :: r ∧ startB (blocksOf (sortP row)) = b.1 := by
  cases e : blocksOf (sortP row) with
  | nil => exact absurd e h.bne
  | cons b r => exact ⟨b, r, rfl, rfl⟩
theorem RowO.stb (h : RowO row M) : busyU row (startB (blocksOf (sortP row))) := by
  obtain ⟨b, r, e, e2⟩ := h.first
  rw [e2]
  exact (h.blk.cov _).mpr ⟨b, by rw [e]; exact .head _, Int.le_refl _, h.blk.pos b (by rw [e]; exact .head _)⟩
theorem blk_len0 (row : List (Int × Int)) : (blocksOf (sortP row)).length ≤ row.length := by
  have := blk_len (sortP row) []
  rw [(sortP_perm row).length_eq, List.length_nil, Nat.zero_add] at this
  exact this
theorem places_len {nx : Int → Option Int} {st : Int} : (placesL row nx st).length ≤ row.length + 1 := by
  have := List.length_filterMap_le id (some st :: row.map fun s => nx s.2)
  simpa [placesL] using this
theorem mem_places {nx : Int → Option Int} {st p : Int} : p ∈ placesL row nx st ↔ p = st ∨ ∃ s ∈ row, nx s.2 = some p := by
  unfold placesL
  rw [List.mem_filterMap]
  constructor
  · rintro ⟨a, ha, e⟩
    cases e
    rcases List.mem_cons.mp ha with ha | ha
    · exact .inl (by cases ha; rfl)
    · obtain ⟨s, hs, e⟩ := List.mem_map.mp ha
      exact .inr ⟨s, hs, e⟩
  · rintro (rfl | ⟨s, hs, e⟩)
    · exact ⟨_, .head _, rfl⟩
    · exact ⟨some p, .tail _ (List.mem_map.mpr ⟨s, hs, e⟩), rfl⟩
theorem cv_ok (h : RowO row M) : CvOk (cvOf row M) M := by
  have hno := nx_ok h.blk
  refine ⟨h.blk, fun s hs => (h.ok s hs).2.2, fun s hs => ⟨(h.ok s hs).1, (h.ok s hs).2.1⟩, fun p hp => ?_, Nat.le_trans h.len (by decide), Nat.le_trans (blk_len0 row) (Nat.le_trans h.len (by decide)), fun p hp => ?_, fun s hs q hq => ?_, sortD_pw _, ?_, ?_⟩
  · show (M - p).toNat + 1 ≤ M.toNat + 1
    omega
  · rcases mem_places.mp (mem_sortD.mp hp) with rfl | ⟨s, hs, e⟩
    · exact h.stb
    · have := hno.good s.2
      rw [e] at this
      exact this
  · exact mem_sortD.mpr (mem_places.mpr (.inr ⟨s, hs, hq⟩))
  · exact mem_sortD.mpr (mem_places.mpr (.inl rfl))
  · show (sortD _).length ≤ 200
    have h1 : (sortD (placesL row (nxB (blocksOf (sortP row))) (startB (blocksOf (sortP row))))).length ≤ (placesL row (nxB (blocksOf (sortP row))) (startB (blocksOf (sortP row)))).length :=
      List.Nodup.length_le_of_subset ((sortD_pw _).imp fun h => Int.ne_of_lt h) fun k hk => mem_sortD.mp hk
    have := places_len (row := row) (nx := nxB (blocksOf (sortP row))) (st := startB (blocksOf (sortP row)))
    have := h.len
    omega
end
theorem putFA_lt9 {f : Str} {v : AV} {k : Nat} : ∀ {fs : List (Str × AV)}, fs.length < k → (putFA f v fs).length < k + 1
  | [], h => Nat.lt_succ_of_le (Nat.succ_le_of_lt h)
  | (g, x) :: r, h => by
    unfold putFA
    split
    · exact Nat.lt_succ_of_lt h
    · cases k with
      | zero => exact absurd h (Nat.not_lt_zero _)
      | succ k => exact Nat.succ_lt_succ (putFA_lt9 (Nat.lt_of_succ_lt_succ h))
theorem filter_onV : ∀ zs : List (Option Int), (zs.filter fun q => q.isSome).map onV = (zs.filterMap id).map AV.int
  | [] => rfl
  | none :: zs => by rw [List.filter_cons_of_neg (by simp), List.filterMap_cons_none rfl, filter_onV zs]
  | some p :: zs => by rw [List.filter_cons_of_pos (by simp), List.filterMap_cons_some (f := id) (a := some p) (b := p) rfl, List.map_cons, List.map_cons, filter_onV zs]; rfl
def BlocksOk (f : Fn) : Prop := ∀ (row : List (Int × Int)) (μ : Store), row.length ≤ 100 → wp (f [.tup (row.map pV)] μ) fun v τ => v = .loc μ.length ∧ τ = μ ++ [.lst ((blocksOf (sortP row)).map pV)]
theorem blocks_ok (T : Nat → Fn) : BlocksOk (fnR 4 1 (m293_blocks_of T)) := fun row μ hz => by
  refine fn_wpN rfl ((blocks_walk hz).mono (fun _ _ h => False.elim h) (fun v τ ⟨h1, h2⟩ => ⟨?_, h1, h2⟩) (fun _ _ h => False.elim h) (fun _ _ h => False.elim h))
  rw [h1]
  simp [bel]
def BusyOk (f : Fn) : Prop := ∀ (B : List (Int × Int)) (h n : Nat) (fs : List (Str × AV)) (μ : Store) (p : Int), B.length ≤ 100 → μ[h]? = some (.ins 105 fs) → fs.lookup ("blocks" : Str) = some (AV.loc n) → μ[n]? = some (.lst (B.map pV)) → wp (f [.loc h, .int p] μ) fun v τ => v = onV (nxB B p) ∧ τ = μ
theorem busy_ok (T : Nat → Fn) : BusyOk (fnR 4 2 (m625_Covers_busy_from T)) := fun B h n fs μ p hz eh hl hB =>
  fn_keep9 rfl ((busy_walk (fs := []) hz hB fun D q => w_fld9 rfl eh (by decide) hl q).mono (fun _ _ h => False.elim h) (fun v τ ⟨h1, h2⟩ => ⟨by rw [h2], h1, h2⟩) (fun _ _ h => False.elim h) (fun _ _ h => False.elim h))
theorem w_isNot9 {x : AV} {μ : Store} {Q : AV → Store → Prop} (h : Q (.bl (!isNon x)) μ) : wp (gIsNot x .non μ) Q := h
def InitOk (f : Fn) : Prop := ∀ (row : List (Int × Int)) (M : Int), RowO row M → ∀ μ : Store, wp (f [.loc μ.length, .tup (row.map pV)] (μ ++ [.ins 105 []])) fun v σ => v = .non ∧ σ = (cvOf row M).at μ (cvOf row M).ps.reverse
theorem take_gt {L : List Int} (h : L.Pairwise (· > ·)) {i : Nat} {p q : Int} (hp : L[i]? = some p) (hq : q ∈ L) (hlt : p < q) : q ∈ L.take i := by
  obtain ⟨j, hj⟩ := List.mem_iff_getElem?.mp hq
  obtain ⟨hj1, hj2⟩ := List.getElem?_eq_some_iff.mp hj
  obtain ⟨hi1, hi2⟩ := List.getElem?_eq_some_iff.mp hp
  have : j < i := by
    rcases Nat.lt_trichotomy j i with z | z | z
    · exact z
    · subst z
      rw [hj] at hp
      cases hp
      omega
    · have := List.pairwise_iff_getElem.mp h i j hi1 hj1 z
      omega
  exact List.mem_of_getElem? (i := j) (by rw [List.getElem?_take_of_lt this]; exact hj)
theorem take_no {L : List Int} (h : L.Pairwise (· > ·)) {i : Nat} {p : Int} (hp : L[i]? = some p) : p ∉ L.take i := fun hm => by
  obtain ⟨j, hj⟩ := List.mem_iff_getElem?.mp hm
  obtain ⟨hj1, hj2⟩ := List.getElem?_eq_some_iff.mp hj
  rw [List.length_take] at hj1
  rw [List.getElem?_take_of_lt (by omega)] at hj
  obtain ⟨hi1, hi2⟩ := List.getElem?_eq_some_iff.mp hp
  obtain ⟨hj3, hj4⟩ := List.getElem?_eq_some_iff.mp hj
  have := List.pairwise_iff_getElem.mp h j i hj3 hi1 (by omega)
  omega
theorem init_ok (T : Nat → Fn) (hb : BlocksOk (T i293_blocks_of)) (hf : BusyOk (T i625_Covers_busy_from)) (hk : LookOk (T i1019_Covers_look_at)) : InitOk (fnR 5 2 (m626_Covers___init T)) := fun row M hr μ => by
  have hc := cv_ok hr
  have hrl := hr.len
  obtain ⟨b0, br, eB, est⟩ := hr.first
  have hbl := hc.blen
  obtain ⟨c, ec⟩ : ∃ c, c = cvOf row M := ⟨_, rfl⟩
  have e1 : c.row = row := by rw [ec]; rfl
  have e2 : c.B = blocksOf (sortP row) := by rw [ec]; rfl
  have e3 : c.st = b0.1 := by rw [ec]; exact est
  have e4 : c.ps = sortD (placesL c.row c.nx c.st) := by rw [ec]; rfl
  rw [← ec] at hc hbl ⊢
  refine fn_gc9 rfl ?_
  simp only [startA_s, List.map_cons, List.map_nil, List.length_cons, List.length_nil, Nat.reduceAdd, Nat.reduceSub, List.replicate_succ, List.replicate_zero, List.cons_append, List.nil_append]
  unfold m626_Covers___init
  refine o_seq (o_fldP (w_var rfl (w_var rfl ⟨μ.length, 105, [], rfl, app_get9 μ _ 0, by decide, by repeat' (first | (exact Nat.zero_lt_succ _) | (refine putFA_lt9 ?_)), ?_⟩)))
  rw [app_set0]
  refine o_seq (o_fldP (w_call (w_cons (w_var rfl (w_nil ((hb row _ (by omega)).mono ?_))))))
  rintro v τ ⟨rfl, rfl⟩
  rw [← e2]
  simp only [List.append_assoc, List.length_append, List.length_cons, List.length_nil, List.cons_append, List.nil_append, Nat.reduceAdd]
  refine w_var rfl ⟨μ.length, 105, _, rfl, app_get9 μ _ 0, by decide, by repeat' (first | (exact Nat.zero_lt_succ _) | (refine putFA_lt9 ?_)), ?_⟩
  rw [app_set0]
  have gB : ∀ (a : AO) (r : List AO), (μ ++ a :: .lst (c.B.map pV) :: r)[μ.length + 1]? = some (.lst (c.B.map pV)) := fun a r => app_get9 μ _ 1
  refine o_seq (o_fldP (w_dat (w_lcU (w_anyT (w_var rfl ⟨_, rfl, ?_⟩)))))
  refine lc_all9 (f := pV) (r := fun s => onV (c.nx s.2)) (by omega) (fun s hs => ⟨_, rfl, ?_⟩) ?_
  · refine w_meth (w_var rfl ⟨_, _, _, rfl, app_get9 μ _ 0, by decide, by rfl, w_cons (w_var rfl (w_nil ((hf c.B _ _ _ _ _ hbl (app_get9 μ _ 0) rfl (gB _ _)).mono ?_)))⟩)
    rintro v σ ⟨rfl, rfl⟩
    exact ⟨rfl, rfl⟩
  rw [← e1]
  have eL : (c.row.map fun s => onV (c.nx s.2)) = c.later := rfl
  rw [eL]
  refine w_var rfl ⟨μ.length, 105, _, rfl, app_get9 μ _ 0, by decide, by repeat' (first | (exact Nat.zero_lt_succ _) | (refine putFA_lt9 ?_)), ?_⟩
  rw [app_set0]
  have e0 : atI (c.B.map pV) 0 = some (pV b0) := by rw [e2, eB]; exact atI_09
  refine o_seq (o_fldP (w_op (w_op (w_fld9 rfl (app_get9 μ _ 0) (by decide) rfl (w_c (w_ixO (gB _ _) (v := pV b0) e0 (w_c (w_ixT (v := .int b0.1) rfl ?_))))))))
  rw [← e3]
  refine w_var rfl ⟨μ.length, 105, _, rfl, app_get9 μ _ 0, by decide, by repeat' (first | (exact Nat.zero_lt_succ _) | (refine putFA_lt9 ?_)), ?_⟩
  rw [app_set0]
  refine o_seq (o_fldP (w_dat (w_sortNt (w_lcU (w_anyL (w_dat (w_cat (w_dat (w_lst (w_cons (w_fld9 rfl (app_get9 μ _ 0) (by decide) rfl (w_nil ⟨by simp, w_fld9 rfl (app_get9 μ _ 0) (by decide) rfl ⟨_, _, rfl, rfl, ?_, _, rfl, ?_⟩⟩))))))))))))
  · rw [List.length_singleton, ← eL, List.length_map, e1]
    omega
  have ez : [AV.int c.st] ++ c.later = (some c.st :: c.row.map fun s => c.nx s.2).map onV := by
    rw [← eL, List.map_cons, List.map_map]
    rfl
  rw [ez]
  refine lc_map9 (p := fun q => q.isSome) (r := onV) (by rw [List.length_cons, List.length_map, e1]; omega) (fun q _ => ⟨_, rfl, w_b1 (w_op (w_var rfl (w_c (w_isNot9 ⟨_, rfl, rfl, by cases q <;> rfl, fun _ => w_var rfl ⟨rfl, rfl⟩⟩))))⟩) ?_
  have hpl := places_len (row := c.row) (nx := c.nx) (st := c.st)
  rw [e1] at hpl
  refine ⟨placesL row c.nx c.st, by rw [filter_onV, e1]; rfl, by omega, by have := setNL_len (placesL row c.nx c.st); omega, ?_⟩
  rw [← e1, ← e4]
  refine w_var rfl ⟨μ.length, 105, _, rfl, app_get9 μ _ 0, by decide, by repeat' (first | (exact Nat.zero_lt_succ _) | (refine putFA_lt9 ?_)), ?_⟩
  rw [app_set0]
  refine o_seq (o_fldP (w_lnew1 (w_c (w_c ⟨.none, rfl, ?_⟩))))
  simp only [List.append_assoc, List.length_append, List.length_cons, List.length_nil, List.cons_append, List.nil_append, Nat.reduceAdd]
  refine w_var rfl ⟨μ.length, 105, _, rfl, app_get9 μ _ 0, by decide, by repeat' (first | (exact Nat.zero_lt_succ _) | (refine putFA_lt9 ?_)), ?_⟩
  rw [app_set0]
  refine o_seq (o_fldP (w_lnew1 (w_c (w_c ⟨.none, rfl, ?_⟩))))
  simp only [List.append_assoc, List.length_append, List.length_cons, List.length_nil, List.cons_append, List.nil_append, Nat.reduceAdd]
  refine w_var rfl ⟨μ.length, 105, _, rfl, app_get9 μ _ 0, by decide, by repeat' (first | (exact Nat.zero_lt_succ _) | (refine putFA_lt9 ?_)), ?_⟩
  rw [app_set0]
  refine o_seq (o_fldP (w_lnew1 (w_c (w_c ⟨.none, rfl, ?_⟩))))
  simp only [List.append_assoc, List.length_append, List.length_cons, List.length_nil, List.cons_append, List.nil_append, Nat.reduceAdd]
  refine w_var rfl ⟨μ.length, 105, _, rfl, app_get9 μ _ 0, by decide, by repeat' (first | (exact Nat.zero_lt_succ _) | (refine putFA_lt9 ?_)), ?_⟩
  rw [app_set0]
  refine o_seq (o_fldP (w_lnew9 ?_))
  simp only [List.append_assoc, List.length_append, List.length_cons, List.length_nil, List.cons_append, List.nil_append, Nat.reduceAdd]
  refine w_var rfl ⟨μ.length, 105, _, rfl, app_get9 μ _ 0, by decide, by repeat' (first | (exact Nat.zero_lt_succ _) | (refine putFA_lt9 ?_)), ?_⟩
  rw [app_set0]
  have eK : c.K = M.toNat + 1 := by rw [ec]; rfl
  have f0 : tabQ c.fewV (Cv.keys []) = [(.none, .int 0)] := by
    show [(lfO none, c.fewV none)] = _
    unfold Cv.fewV
    rw [eK]
    rfl
  have f1 : tabQ c.waysV (Cv.keys []) = [(.none, .int 1)] := by
    show [(lfO none, c.waysV none)] = _
    unfold Cv.waysV
    rw [eK]
    rfl
  have f2 : tabQ c.bestV (Cv.keys []) = [(.none, .int 0)] := by
    show [(lfO none, c.bestV none)] = _
    unfold Cv.bestV bestN
    rw [eK]
    rfl
  refine o_for (w_anyL (w_dat (w_aRevL9 (w_fld9 rfl (app_get9 μ _ 0) (by decide) rfl ⟨_, rfl, _, rfl, ?_⟩))))
  rw [← List.map_reverse]
  have eA : c.at μ [] = μ ++ [.ins 105 (c.fs μ.length), .lst (c.B.map pV), .dlf [(.none, .int 0)], .dlf [(.none, .int 1)], .dlf [(.none, .int 0)], .dlf []] := by
    unfold Cv.at Cv.objs
    rw [f0, f1, f2]
    rfl
  have hps : (c.ps.reverse).Pairwise (· > ·) := List.pairwise_reverse.mpr hc.srt
  have hpl2 := hc.plen
  refine wo_dat (fun i ρ τ => (∃ x2 : Option AV, ρ = [some (.loc μ.length), some (.tup (c.row.map pV)), x2, none, none]) ∧ i ≤ c.ps.reverse.length ∧ τ = c.at μ (c.ps.reverse.take i)) ?_ ?_ FUEL 0 _ _ (by rw [List.length_map, List.length_reverse]; unfold FUEL; omega) (Nat.zero_le _) ⟨⟨_, rfl⟩, Nat.zero_le _, by rw [List.take_zero, eA]; rfl⟩
  · rintro ρ τ ⟨⟨x2, rfl⟩, _, rfl⟩
    rw [List.length_map, List.take_length]
    refine ⟨⟨trivial, rfl⟩, fun g => ?_⟩
    exfalso
    rcases g μ.length _ (by simp) (at_get0 c μ _) with z | z
    · rw [show (μ ++ [AO.ins 105 []])[μ.length]? = some (.ins 105 []) from app_get9 μ _ 0] at z
      injection z with z
      injection z with _ z
      cases z
    · simp [belO, Cv.fs, bel] at z
  · rintro i v ρ τ hv ⟨⟨x2, rfl⟩, hi, rfl⟩
    rw [List.getElem?_map] at hv
    obtain ⟨p, hp, rfl⟩ := Option.map_eq_some_iff.mp hv
    have hi2 := (List.getElem?_eq_some_iff.mp hp).1
    have hpm : p ∈ c.ps := List.mem_reverse.mp (List.mem_of_getElem? hp)
    refine ⟨_, rfl, o_expr (w_meth (w_var rfl ⟨_, _, _, rfl, at_get0 c μ _, by decide, by rfl, w_cons (w_var rfl (w_nil ((hk c M hc μ _ p hpm (take_no hps hp) (by rw [List.length_take, List.length_reverse]; omega) ?_).mono ?_)))⟩))⟩
    · intro s hs q hq hu
      refine take_gt hps hp (List.mem_reverse.mpr (hc.clo s hs q hq)) ?_
      have := (hc.nxo.sm hq).1
      have := hu.2
      omega
    · rintro v σ ⟨rfl, rfl⟩
      exact ⟨⟨_, rfl⟩, hi2, by rw [take_snoc9 hp]⟩
end Lr
set_option maxHeartbeats 1000000
namespace Lr
open PySem PySem.Spec L2
theorem mark_inj {n : Nat} {c d : List Nat} (hc : c.Nodup) (hd : d.Nodup) (lc : ∀ i ∈ c, i < n) (ld : ∀ i ∈ d, i < n) (h : markS n c = markS n d) : c.Perm d := by
  refine (List.perm_ext_iff_of_nodup hc hd).mpr fun i => ?_
  have key : ∀ {a : List Nat}, a.Nodup → (∀ i ∈ a, i < n) → ∀ i, i < n → ((markS n a).testBit (n - 1 - i) = decide (i ∈ a)) := fun {a} ha la i hi => by
    have := mark_bit (asc_lt ha) (fun j hj => la j ((asc_perm a).mem_iff.mp hj)) i hi
    rw [markS_perm (asc_perm a)] at this
    rw [this]
    exact decide_eq_decide.mpr (asc_perm a).mem_iff
  by_cases hi : i < n
  · have h1 := key hc lc i hi
    have h2 := key hd ld i hi
    rw [h] at h1
    rw [h1] at h2
    exact decide_eq_decide.mp h2
  · exact ⟨fun z => absurd (lc i z) hi, fun z => absurd (ld i z) hi⟩
theorem nodup_len {N : Nat} {xs : List Nat} (h : xs.Nodup) (l : ∀ x ∈ xs, x < N) : xs.length ≤ N := by
  have := List.Nodup.length_le_of_subset h (l₂ := List.range N) fun k hk => List.mem_range.mpr (l k hk)
  simpa using this
section
variable {row : List (Int × Int)} {nx : Int → Option Int} {M : Int} {k : Nat} {p : Option Int}
theorem chains_len (h : NxOk row nx) (hM : ∀ s ∈ row, s.2 ≤ M) (hk : measP M p ≤ k) (hp : GoodP row p) : (chainsN row nx k p).length ≤ 2 ^ row.length := by
  have hnd : ((chainsN row nx k p).map (markS row.length)).Nodup := by
    refine List.Pairwise.map (R := fun a b => a ∈ chainsN row nx k p ∧ b ∈ chainsN row nx k p ∧ a ≠ b) _ (fun a b ⟨ha, hb, hne⟩ e => hne (chain_inj h hM k p a b hk hp ha hb (mark_inj (chain_nd h hM hk hp ha) (chain_nd h hM hk hp hb) (chain_ok h hM k p a hk hp ha).2.2 (chain_ok h hM k p b hk hp hb).2.2 e))) ?_
    exact (chains_nodup (row := row) (nx := nx) k p).imp_of_mem fun ha hb hne => ⟨ha, hb, hne⟩
  have := nodup_len (N := 2 ^ row.length) hnd fun m hm => by
    obtain ⟨c, hc, rfl⟩ := List.mem_map.mp hm
    rw [markS_perm (asc_perm c).symm]
    exact markS_lt 0 (asc_lt (chain_nd h hM hk hp hc)) fun i hi => ⟨Nat.zero_le _, (chain_ok h hM k p c hk hp hc).2.2 i ((asc_perm c).mem_iff.mp hi)⟩
  rwa [List.length_map] at this
end
def TabB (bt : List (Leaf × AV)) (bf : Option Int → Nat) : Prop := ∀ q, (valP bt (lfO q) = none ∧ bf q = 0) ∨ valP bt (lfO q) = some (.int (bf q : Nat))
theorem valP_put9 (kvs : List (Leaf × AV)) (a b : Leaf) (v : AV) : valP (putP kvs a v) b = if a = b then some v else valP kvs b := by
  unfold putP
  by_cases hany : kvs.any (fun kv => kv.1 = a) = true
  · rw [if_pos hany]
    have key : ∀ L : List (Leaf × AV), valP (L.map fun kv => if kv.1 = a then (kv.1, v) else kv) b = if a = b ∧ L.any (fun kv => kv.1 = a) = true then some v else valP L b := fun L => by
      induction L with
      | nil => simp [valP]
      | cons p L ih =>
        rw [List.map_cons, List.any_cons]
        by_cases h1 : p.1 = a
        · rw [if_pos h1]
          by_cases h2 : a = b
          · simp [valP, List.find?_cons, h1, h2]
          · have e : ∀ (q : Leaf × AV) M, q.1 = a → valP (q :: M) b = valP M b := fun q M hq => by simp [valP, List.find?_cons, hq, h2]
            rw [e (p.1, v) _ h1, e p _ h1, ih]
            simp [h2]
        · rw [if_neg h1]
          by_cases h2 : p.1 = b
          · have h3 : ¬ a = b := fun z => h1 (h2.trans z.symm)
            have e : ∀ M, valP (p :: M) b = some p.2 := fun M => by simp [valP, List.find?_cons, h2]
            rw [e, e, if_neg (fun z => h3 z.1)]
          · have e : ∀ M, valP (p :: M) b = valP M b := fun M => by simp [valP, List.find?_cons, h2]
            rw [e, e, ih, decide_eq_false h1, Bool.false_or]
    rw [key, hany]
    simp
  · rw [if_neg hany]
    unfold valP
    rw [List.find?_append]
    have hn : ∀ p ∈ kvs, p.1 ≠ a := fun p hp e => hany (List.any_eq_true.mpr ⟨p, hp, by simp [e]⟩)
    by_cases h : a = b
    · subst h
      have : kvs.find? (fun kv => decide (kv.1 = a)) = none := List.find?_eq_none.mpr fun p hp => by simpa using hn p hp
      rw [this]
      simp
    · simp [h]
theorem us_zero {w : Option Int → Nat} {st : UsS} {x : Nat × Option Int} : usOne w 0 st x = st := by
  unfold usOne
  cases st with
  | mk bf fd =>
    congr 1
    · funext q
      dsimp only
      split <;> omega
    · funext i
      dsimp only
      split <;> omega
theorem us_zeros {w : Option Int → Nat} : ∀ (xs : List (Nat × Option Int)) (st : UsS), xs.foldl (usOne w 0) st = st
  | [], st => rfl
  | x :: xs, st => by rw [List.foldl_cons, us_zero, us_zeros xs st]
def fdV (n : Nat) (fd : Nat → Nat) : List AV := (List.range n).map fun i => AV.int (fd i : Nat)
theorem fdV_at {n i : Nat} {fd : Nat → Nat} (h : i < n) : atI (fdV n fd) (i : Nat) = some (.int (fd i : Nat)) := by
  unfold fdV
  rw [atI_nn (by omega) (by rw [List.length_map, List.length_range]; omega), Int.toNat_natCast, List.getElem?_map, List.getElem?_range h]
  rfl
theorem fdV_set {n i : Nat} {fd : Nat → Nat} {v : Nat} : (fdV n fd).set i (.int (v : Nat)) = fdV n fun j => if j = i then v else fd j := by
  unfold fdV
  refine List.ext_getElem? fun j => ?_
  rw [List.getElem?_set, List.length_map, List.length_range, List.getElem?_map, List.getElem?_map]
  by_cases e : i = j
  · subst e
    by_cases h : i < n
    · simp [h]
    · simp [h, List.getElem?_eq_none]
  · rw [if_neg e]
    by_cases h : j < n
    · simp [List.getElem?_range h, Ne.symm e]
    · simp [List.getElem?_eq_none, h]
theorem tabB_put {bt : List (Leaf × AV)} {bf : Option Int → Nat} (h : TabB bt bf) (q0 : Option Int) (v : Nat) : TabB (putP bt (lfO q0) (.int (v : Nat))) fun q => if q = q0 then v else bf q := fun q => by
  rw [valP_put9]
  by_cases e : q = q0
  · subst e
    rw [if_pos rfl]
    refine .inr ?_
    dsimp only
    rw [if_pos rfl]
  · rw [if_neg fun z => e (lfO_inj z).symm]
    dsimp only
    rw [if_neg e]
    exact h q
def UsesOk (f : Fn) : Prop := ∀ (row : List (Int × Int)) (M : Int), RowO row M → ∀ (μ : Store), wp (f [.loc μ.length] ((cvOf row M).at μ (cvOf row M).ps.reverse)) fun v σ => v = .loc (μ.length + 7) ∧ ∃ bt, σ = (cvOf row M).at μ (cvOf row M).ps.reverse ++ [.dlf bt, .lst (fdV row.length (cntN row (cvOf row M).nx (cvOf row M).K (some (cvOf row M).st)))]
def Cv.nexts (c : Cv) (p : Int) : List (Nat × Option Int) := (firstN c.row c.nx c.K p).map fun x => (x.1, c.nx x.2.2)
def Cv.waysN (c : Cv) (q : Option Int) : Nat := (chainsN c.row c.nx c.K q).length
theorem uses_ok (T : Nat → Fn) : UsesOk (fnR 6 1 (m757_Covers_uses T)) := fun row M hr μ => by
  have hc := cv_ok hr
  have hrl := hr.len
  obtain ⟨c, ec⟩ : ∃ c, c = cvOf row M := ⟨_, rfl⟩
  have e1 : c.row = row := by rw [ec]; rfl
  have eK : c.K = M.toNat + 1 := by rw [ec]; rfl
  rw [← ec] at hc ⊢
  rw [← e1] at hrl ⊢
  have hno := hc.nxo
  have ndp : c.ps.Nodup := hc.srt.imp fun h => Int.ne_of_lt h
  obtain ⟨σ0, eσ⟩ : ∃ σ0, σ0 = c.at μ c.ps.reverse := ⟨_, rfl⟩
  have l0 : σ0.length = μ.length + 6 := by rw [eσ]; unfold Cv.at Cv.objs; simp
  rw [← eσ]
  have g0 : ∀ r, (σ0 ++ r)[μ.length]? = some (.ins 105 (c.fs μ.length)) := fun r => by rw [List.getElem?_append_left (by omega), eσ]; exact at_get0 c μ _
  have g2 : ∀ r, (σ0 ++ r)[μ.length + 3]? = some (.dlf (tabQ c.waysV (Cv.keys c.ps.reverse))) := fun r => by rw [List.getElem?_append_left (by omega), eσ]; exact at_get c μ _ 3
  have g5 : ∀ r, (σ0 ++ r)[μ.length + 5]? = some (.dlf (tabQ c.firstV (c.ps.reverse.map some))) := fun r => by rw [List.getElem?_append_left (by omega), eσ]; exact at_get c μ _ 5
  have gb : ∀ (a : List (Leaf × AV)) (r : List AO), (σ0 ++ .dlf a :: r)[μ.length + 6]? = some (.dlf a) := fun a r => by rw [← l0]; exact app_get9 σ0 _ 0
  have gf : ∀ (a : AO) (x : List AV), (σ0 ++ [a, .lst x])[μ.length + 7]? = some (.lst x) := fun a x => by rw [show μ.length + 7 = σ0.length + 1 from by omega]; exact app_get9 σ0 _ 1
  refine fn_wpN rfl ?_
  simp only [startA_s, List.map_cons, List.map_nil, List.length_cons, List.length_nil, Nat.reduceAdd, Nat.reduceSub, List.replicate_succ, List.replicate_zero, List.cons_append, List.nil_append]
  unfold m757_Covers_uses
  have gs : (σ0)[μ.length]? = some (.ins 105 (c.fs μ.length)) := by have := g0 []; rwa [List.append_nil] at this
  refine o_seq (o_par (w_cons (w_lnew1 (w_fld9 rfl gs (by decide) rfl (w_c ⟨.num c.st, rfl, w_cons (w_new (w_rep (w_dat (w_lst (w_cons (w_c (w_nil ⟨by simp, w_cb (w_cons (w_fld9 rfl (g0 _) (by decide) rfl (w_nil (w_lenT ⟨_, _, rfl, rfl, Int.natCast_nonneg _, by rw [List.length_map]; omega, by simp, w_nil ⟨by simp, _, rfl, ?_⟩⟩))))⟩)))))))⟩)))))
  have efl : (List.replicate ((c.row.map pV).length : Int).toNat [AV.int 0]).flatten = fdV c.row.length fun _ => 0 := by
    rw [List.length_map, Int.toNat_natCast]
    unfold fdV
    refine List.ext_getElem? fun i => ?_
    rw [List.flatten_replicate_singleton]
    by_cases h : i < c.row.length
    · simp [h]
    · simp [h, List.getElem?_eq_none]
  rw [efl, List.append_assoc, List.length_append, List.length_singleton, l0]
  dsimp only [List.cons_append, List.nil_append]
  refine o_seq (o_for (w_anyL (w_fld9 rfl (g0 _) (by decide) rfl ⟨_, rfl, ?_⟩)))
  have sb : ∀ (a b : List (Leaf × AV)) (o : AO), (σ0 ++ [.dlf a, o]).set (μ.length + 6) (.dlf b) = σ0 ++ [.dlf b, o] := fun a b o => by rw [← l0]; exact app_set0 σ0 _ _ _
  have sf : ∀ (a : AO) (x y : List AV), (σ0 ++ [a, .lst x]).set (μ.length + 7) (.lst y) = σ0 ++ [a, .lst y] := fun a x y => by rw [show μ.length + 7 = σ0.length + 1 from by omega]; exact app_set σ0 _ 1 _
  have h0 : ∀ j, cntN c.row c.nx c.K none j = 0 := fun j => by rw [eK]; exact cnt_none _ _
  refine wo_dat (fun i ρ τ => (∃ x3 x4 x5 : Option AV, ρ = [some (.loc μ.length), some (.loc (μ.length + 6)), some (.loc (μ.length + 7)), x3, x4, x5]) ∧ i ≤ c.ps.length ∧ ∃ (bt : List (Leaf × AV)) (st : UsS), bt.length ≤ 1 + 100 * i ∧ TabB bt st.bf ∧ τ = σ0 ++ [.dlf bt, .lst (fdV c.row.length st.fd)] ∧ ∀ j, phi (fun q => cntN c.row c.nx c.K q j) (c.ps.drop i) st j = cntN c.row c.nx c.K (some c.st) j) ?_ ?_ FUEL 0 _ _ (by rw [List.length_map]; have := hc.plen; unfold FUEL; omega) (Nat.zero_le _) ⟨⟨_, _, _, rfl⟩, Nat.zero_le _, [(.num c.st, .int 1)], ⟨fun q => if q = some c.st then 0 + 1 else 0, fun _ => 0⟩, by simp, ?_, rfl, fun j => ?_⟩
  · rintro ρ τ ⟨⟨x3, x4, x5, rfl⟩, _, bt, st, _, _, rfl, hph⟩
    dsimp only
    refine o_ret (w_var rfl ⟨by simp [bel], rfl, bt, ?_⟩)
    have ef : st.fd = cntN c.row c.nx c.K (some c.st) := funext fun j => by
      have := hph j
      rw [List.length_map, List.drop_length] at this
      simpa [phi] using this
    rw [ef]
  · rintro i v ρ τ hv ⟨⟨x3, x4, x5, rfl⟩, hi, bt, st, hbl, htb, rfl, hph⟩
    rw [List.getElem?_map] at hv
    obtain ⟨p, hp, rfl⟩ := Option.map_eq_some_iff.mp hv
    have hi2 := (List.getElem?_eq_some_iff.mp hp).1
    have hpm : p ∈ c.ps := List.mem_of_getElem? hp
    have hbz := hc.bz p hpm
    have hKp := hc.K p (busy_nn hc hbz)
    have edr : c.ps.drop i = p :: c.ps.drop (i + 1) := by
      rw [List.drop_eq_getElem_cons hi2, (List.getElem?_eq_some_iff.mp hp).2]
    rw [edr] at hph
    have ndr : (c.ps.drop (i + 1)).Nodup := (List.drop_sublist _ _).nodup ndp
    have hrow : ∀ x ∈ firstN c.row c.nx c.K p, c.row[x.1]? = some x.2 ∧ hasU x.2 p := fun x hx => mem_spans1.mp (show (x.1, x.2) ∈ spans1 c.row p from (List.mem_filter.mp hx).1)
    have hgt : ∀ x ∈ firstN c.row c.nx c.K p, ∀ q, c.nx x.2.2 = some q → p < q := fun x hx q hq => by
      have h1 := (hno.sm hq).1
      have h2 := (hrow x hx).2.2
      omega
    have hnext : ∀ x ∈ c.nexts p, ∀ q, x.2 = some q → q ∈ c.ps.drop (i + 1) := fun x hx q hq => by
      obtain ⟨y, hy, rfl⟩ := List.mem_map.mp hx
      have hm := hc.clo y.2 (List.mem_of_getElem? (hrow y hy).1) q hq
      have hlt := hgt y hy q hq
      obtain ⟨j, hj⟩ := List.mem_iff_getElem?.mp hm
      obtain ⟨hj1, hj2⟩ := List.getElem?_eq_some_iff.mp hj
      obtain ⟨_, hp2⟩ := List.getElem?_eq_some_iff.mp hp
      have : i < j := by
        rcases Nat.lt_trichotomy i j with z | z | z
        · exact z
        · subst z
          omega
        · have := List.pairwise_iff_getElem.mp hc.srt j i hj1 hi2 z
          omega
      exact List.mem_iff_getElem?.mpr ⟨j - (i + 1), by rw [List.getElem?_drop, show i + 1 + (j - (i + 1)) = j from by omega]; exact hj⟩
    have hphi : ∀ j, phi (fun q => cntN c.row c.nx c.K q j) (c.ps.drop (i + 1)) ((c.nexts p).foldl (usOne c.waysN (st.bf (some p))) st) j = cntN c.row c.nx c.K (some c.st) j := fun j => by
      rw [phi_place (h0 j) ndr hnext (cnt_sum hno hc.hM hKp hbz j)]
      exact hph j
    refine ⟨_, rfl, o_for (w_anyL (w_if (w_b1 (w_op (w_var rfl (w_var rfl (w_inL9 (gb _ _) rfl ⟨_, rfl, ?_⟩)))))))⟩
    rcases htb (some p) with ⟨hn, hz⟩ | hs
    · rw [show valP bt (.num p) = none from hn, if_neg (by simp)]
      refine w_dat (w_lst (w_nil ⟨by simp, _, rfl, ?_⟩))
      refine wo_dat (fun _ ρ τ => ρ = [some (.loc μ.length), some (.loc (μ.length + 6)), some (.loc (μ.length + 7)), some (.int p), x4, x5] ∧ τ = σ0 ++ [.dlf bt, .lst (fdV c.row.length st.fd)]) ?_ (fun i v ρ τ h => by cases h) FUEL 0 _ _ (by unfold FUEL; simp) (Nat.zero_le _) ⟨rfl, rfl⟩
      rintro ρ τ ⟨rfl, rfl⟩
      refine ⟨⟨_, _, _, rfl⟩, hi2, bt, st, by omega, htb, rfl, fun j => ?_⟩
      have := hphi j
      rwa [hz, us_zeros] at this
    · rw [show valP bt (.num p) = some _ from hs, if_pos (by rfl)]
      have v4 : valP (tabQ c.firstV (c.ps.reverse.map some)) (.num p) = some (.lst (idxV (firstN c.row c.nx c.K p))) := valP_tab (f := c.firstV) (q := some p) (by simp [hpm])
      refine w_lix9 (w_fld9 rfl (g0 _) (by decide) rfl (w_var rfl ⟨_, _, .num p, _, rfl, g5 _, rfl, v4, ⟨_, rfl, ?_⟩⟩))
      obtain ⟨F, hF⟩ : ∃ F, F = firstN c.row c.nx c.K p := ⟨_, rfl⟩
      have hsl : F.length ≤ 100 := by
        have h1 := List.length_filterMap_le (fun x : (Int × Int) × Nat => if hasU x.1 p then some (x.2, x.1) else none) c.row.zipIdx
        rw [List.length_zipIdx] at h1
        have h2 : F.length ≤ (spans1 c.row p).length := hF ▸ List.length_filter_le _ _
        exact Nat.le_trans h2 (Nat.le_trans h1 hc.len)
      have enx : c.nexts p = F.map fun x => (x.1, c.nx x.2.2) := by rw [hF]; rfl
      rw [← hF] at hrow hgt ⊢
      have hplen := hc.plen
      refine wo_dat (fun k ρ τ => (∃ x4 x5 : Option AV, ρ = [some (.loc μ.length), some (.loc (μ.length + 6)), some (.loc (μ.length + 7)), some (.int p), x4, x5]) ∧ k ≤ F.length ∧ ∃ bt' : List (Leaf × AV), bt'.length ≤ 1 + 100 * i + k ∧ TabB bt' (((c.nexts p).take k).foldl (usOne c.waysN (st.bf (some p))) st).bf ∧ valP bt' (.num p) = some (.int (st.bf (some p) : Nat)) ∧ τ = σ0 ++ [.dlf bt', .lst (fdV c.row.length (((c.nexts p).take k).foldl (usOne c.waysN (st.bf (some p))) st).fd)]) ?_ ?_ FUEL 0 _ _ (by unfold idxV; rw [List.length_map]; unfold FUEL; omega) (Nat.zero_le _) ⟨⟨_, _, rfl⟩, Nat.zero_le _, bt, hbl, htb, hs, rfl⟩
      · rintro ρ τ ⟨⟨x4, x5, rfl⟩, _, bt', hl', ht', hv', rfl⟩
        unfold idxV at hl' ht' ⊢
        rw [List.length_map] at hl' ht' ⊢
        have etk : (c.nexts p).take F.length = c.nexts p := List.take_of_length_le (by rw [enx, List.length_map]; exact Nat.le_refl _)
        rw [etk] at ht' ⊢
        exact ⟨⟨_, _, _, rfl⟩, hi2, bt', _, by omega, ht', rfl, hphi⟩
      · rintro k v ρ τ hv ⟨⟨x4, x5, rfl⟩, hk, bt', hl', ht', hv', rfl⟩
        unfold idxV at hv
        rw [List.getElem?_map] at hv
        obtain ⟨x, hx, rfl⟩ := Option.map_eq_some_iff.mp hv
        have hk2 := (List.getElem?_eq_some_iff.mp hx).1
        have hxm : x ∈ F := List.mem_of_getElem? hx
        obtain ⟨hxr, hxu⟩ := hrow x hxm
        have hxl := (List.getElem?_eq_some_iff.mp hxr).1
        have enk : (c.nexts p)[k]? = some (x.1, c.nx x.2.2) := by rw [enx, List.getElem?_map, hx]; rfl
        have est : ((c.nexts p).take (k + 1)).foldl (usOne c.waysN (st.bf (some p))) st = usOne c.waysN (st.bf (some p)) (((c.nexts p).take k).foldl (usOne c.waysN (st.bf (some p))) st) (x.1, c.nx x.2.2) := by
          rw [take_snoc9 enk, List.foldl_append]
          rfl
        rw [est]
        generalize ((c.nexts p).take k).foldl (usOne c.waysN (st.bf (some p))) st = sk at ht' ⊢
        have hq : c.nx x.2.2 ∈ Cv.keys c.ps.reverse := by
          cases e : c.nx x.2.2 with
          | none => exact .head _
          | some q => exact .tail _ (List.mem_map.mpr ⟨q, List.mem_reverse.mpr (hc.clo x.2 (List.mem_of_getElem? hxr) q e), rfl⟩)
        have vw : valP (tabQ c.waysV (Cv.keys c.ps.reverse)) (lfO (c.nx x.2.2)) = some (.int (c.waysN (c.nx x.2.2) : Nat)) := valP_tab (f := c.waysV) hq
        have hne : lfO (c.nx x.2.2) ≠ .num p := fun e => by
          have e : c.nx x.2.2 = some p := lfO_inj e
          have := hgt x hxm p e
          omega
        have hwl : c.waysN (c.nx x.2.2) ≤ 2 ^ 60 := by
          refine Nat.le_trans (chains_len hno hc.hM ?_ (hno.good _)) (Nat.pow_le_pow_right (by decide) hrl)
          cases e : c.nx x.2.2 with
          | none => exact Nat.zero_le _
          | some q => exact hc.K q (busy_nn hc (hc.bz q (hc.clo x.2 (List.mem_of_getElem? hxr) q e)))
        refine ⟨_, rfl, o_seq (o_set (w_op (w_fld9 rfl (g0 _) (by decide) rfl (w_var rfl (w_ixL (later_at hxr) ?_)))))⟩
        refine o_seq (o_lput9 (w_op (w_lget (w_var rfl ⟨by rw [stLf_9 (gb _ _)]; rfl, w_var rfl (w_c ⟨_, _, lfO (c.nx x.2.2), stLf_9 (gb _ _), leaf_on _, w_lix9 (w_var rfl (w_var rfl ⟨_, _, .num p, _, rfl, gb _ _, rfl, hv', ?_⟩))⟩)⟩))))
        have egd : (valP bt' (lfO (c.nx x.2.2))).getD (.int 0) = .int (sk.bf (c.nx x.2.2) : Nat) := by
          rcases ht' (c.nx x.2.2) with ⟨z1, z2⟩ | z
          · rw [z1, z2]; rfl
          · rw [z]; rfl
        rw [egd]
        refine w_add (w_var rfl (w_var rfl ⟨_, _, lfO (c.nx x.2.2), rfl, gb _ _, leaf_on _, by omega, ?_⟩))
        rw [sb, ← Int.natCast_add]
        have hv2 : valP (putP bt' (lfO (c.nx x.2.2)) (.int (sk.bf (c.nx x.2.2) + st.bf (some p) : Nat))) (.num p) = some (.int (st.bf (some p) : Nat)) := by
          rw [valP_put9, if_neg hne]
          exact hv'
        refine o_subAdd (w_var rfl (w_var rfl ⟨_, _, (x.1 : Nat), _, rfl, rfl, gf _ _, fdV_at hxl, w_op (w_lix9 (w_var rfl (w_var rfl ⟨_, _, .num p, _, rfl, gb _ _, rfl, hv2, w_lix9 (w_fld9 rfl (g0 _) (by decide) rfl (w_var rfl ⟨_, _, _, _, rfl, g2 _, leaf_on _, vw, w_mul (mulOk_r (by omega)) ⟨_, _, x.1, rfl, gf _ _, ?_, ?_⟩⟩))⟩)))⟩))
        · simp [ixN, fdV, hxl]
        rw [sf, ← Int.natCast_mul, ← Int.natCast_add, fdV_set]
        refine ⟨⟨_, _, rfl⟩, hk2, _, ?_, ?_, hv2, ?_⟩
        · have := putP_len bt' (lfO (c.nx x.2.2)) (.int (sk.bf (c.nx x.2.2) + st.bf (some p) : Nat))
          omega
        · have := tabB_put ht' (c.nx x.2.2) (sk.bf (c.nx x.2.2) + st.bf (some p))
          have ee : (fun q => if q = c.nx x.2.2 then sk.bf (c.nx x.2.2) + st.bf (some p) else sk.bf q) = (usOne c.waysN (st.bf (some p)) sk (x.1, c.nx x.2.2)).bf := funext fun q => by
            unfold usOne
            dsimp only
            by_cases e : q = c.nx x.2.2
            · rw [if_pos e, if_pos e, e]
            · rw [if_neg e, if_neg e]
          rwa [ee] at this
        · have ee : (fun j => if j = x.1 then sk.fd x.1 + st.bf (some p) * c.waysN (c.nx x.2.2) else sk.fd j) = (usOne c.waysN (st.bf (some p)) sk (x.1, c.nx x.2.2)).fd := funext fun j => by
            unfold usOne
            dsimp only
            by_cases e : j = x.1
            · rw [if_pos e, if_pos e, e]
            · rw [if_neg e, if_neg e]
          rw [← ee]
  · intro q
    by_cases e : q = some c.st
    · right
      rw [e]
      simp [valP, lfO]
    · left
      refine ⟨?_, by dsimp only; rw [if_neg e]⟩
      unfold valP
      rw [Option.map_eq_none_iff, List.find?_eq_none]
      intro kv hk
      rw [List.mem_singleton.mp hk]
      simp only [decide_eq_true_eq]
      exact fun z => e (lfO_inj (a := some c.st) z).symm
  · unfold phi
    dsimp only
    rw [List.drop_zero, sum_add (g := fun _ => 0) (cn := fun q => cntN c.row c.nx c.K q j) (b := 1) (q0 := some c.st) (h0 j) ndp fun q hq => by cases hq; exact hc.sin]
    have z : ∀ l : List Int, (l.map fun _ => 0).sum = 0 := fun l => by induction l with
      | nil => rfl
      | cons a l ih => simpa using ih
    simp [z]
end Lr
set_option maxHeartbeats 1000000
namespace Lr
open PySem PySem.Spec L2
def natsV (ns : List Nat) : List AV := ns.map fun i => AV.int (i : Nat)
theorem pure_nats (ns : List Nat) : pure? (.tup (natsV ns)) = true := by
  show pureL (natsV ns) = true
  rw [pureL_all]
  simp [natsV, pure?]
theorem rangeL0 (n : Nat) : rangeL 0 n = natsV (List.range n) := by
  unfold rangeL natsV
  exact List.map_congr_left fun i _ => by rw [Int.zero_add]
theorem enum_fdV (n : Nat) (fd : Nat → Nat) : enumA (fdV n fd) = (List.range n).map fun i => AV.tup [.int (i : Nat), .int (fd i : Nat)] := by
  refine List.ext_getElem? fun i => ?_
  rw [enumA_get]
  unfold fdV
  rw [List.getElem?_map, List.getElem?_map]
  by_cases h : i < n
  · rw [List.getElem?_range h]
    rfl
  · rw [List.getElem?_eq_none (by rw [List.length_range]; omega)]
    rfl
theorem bit_and9 (a k : Nat) : (!(Builtin.bitAnd ((a : Nat) : Int) ((2 ^ k : Nat) : Int) == 0)) = a.testBit k := by
  have e : Builtin.bitAnd ((a : Nat) : Int) ((2 ^ k : Nat) : Int) = ((a &&& 2 ^ k : Nat) : Int) := by
    unfold Builtin.bitAnd
    rw [decide_eq_true (Int.natCast_nonneg a), decide_eq_true (Int.natCast_nonneg (2 ^ k))]
    rfl
  rw [e]
  have h2 : ∀ i, (a &&& 2 ^ k).testBit i = (a.testBit i && decide (k = i)) := fun i => by rw [Nat.testBit_and, Nat.testBit_two_pow]
  cases h : a.testBit k with
  | false =>
    have : a &&& 2 ^ k = 0 := Nat.eq_of_testBit_eq fun i => by
      rw [h2, Nat.zero_testBit]
      by_cases z : k = i
      · subst z
        rw [h]
        rfl
      · rw [decide_eq_false z, Bool.and_false]
    rw [this]
    rfl
  | true =>
    have : a &&& 2 ^ k ≠ 0 := fun z => by
      have := h2 k
      rw [z, h, Nat.zero_testBit] at this
      simp at this
    simp [this]
def fewIdx (row : List (Int × Int)) (M : Int) : List Nat := (List.range row.length).filter fun i => (bestN row (cvOf row M).nx (cvOf row M).K (some (cvOf row M).st)).testBit (row.length - 1 - i)
def cntC (row : List (Int × Int)) (M : Int) (i : Nat) : Nat := cntN row (cvOf row M).nx (cvOf row M).K (some (cvOf row M).st) i
def waysC (row : List (Int × Int)) (M : Int) : Nat := (chainsN row (cvOf row M).nx (cvOf row M).K (some (cvOf row M).st)).length
def FewOk (f : Fn) : Prop := ∀ (row : List (Int × Int)) (M : Int), RowO row M → Pure1 f [.tup (row.map pV)] (.tup (natsV (fewIdx row M)))
def CountOk (f : Fn) : Prop := ∀ (row : List (Int × Int)) (M : Int), RowO row M → Pure1 f [.tup (row.map pV)] (.int (waysC row M : Nat))
def InSomeOk (f : Fn) : Prop := ∀ (row : List (Int × Int)) (M : Int), RowO row M → Pure1 f [.tup (row.map pV)] (.tup (natsV ((List.range row.length).filter fun i => decide (0 < cntC row M i))))
def InEachOk (f : Fn) : Prop := ∀ (row : List (Int × Int)) (M : Int), RowO row M → Pure1 f [.tup (row.map pV)] (.tup (natsV ((List.range row.length).filter fun i => decide (cntC row M i = waysC row M))))
theorem cv_start {row : List (Int × Int)} {M : Int} (h : RowO row M) : some (cvOf row M).st ∈ Cv.keys (cvOf row M).ps.reverse := .tail _ (List.mem_map.mpr ⟨_, List.mem_reverse.mpr (cv_ok h).sin, rfl⟩)
theorem at_pre (c : Cv) (μ : Store) (d : List Int) : μ <+: c.at μ d := List.prefix_append _ _
theorem few_ok (T : Nat → Fn) (hi : InitOk (T i626_Covers___init)) (hmk : MarkOk (T i756_Covers_mark)) : FewOk (fnR 4 1 (m630_fewest_spans T)) := fun row M hr => Pure1.of' rfl fun μ => by
  simp only [startA_s, List.map_cons, List.map_nil, List.length_cons, List.length_nil, Nat.reduceAdd, Nat.reduceSub, List.replicate_succ, List.replicate_zero, List.cons_append, List.nil_append]
  unfold m630_fewest_spans
  have hrl := hr.len
  refine o_seq (o_set (w_mki (w_cons (w_var rfl (w_nil ((hi row M hr μ).mono ?_))))))
  rintro v σ ⟨rfl, rfl⟩
  refine ⟨rfl, ?_⟩
  have hst := cv_start hr
  have ha := at_pre (cvOf row M) μ (cvOf row M).ps.reverse
  have ef : fewIdx row M = (List.range row.length).filter fun i => (bestN row (cvOf row M).nx (cvOf row M).K (some (cvOf row M).st)).testBit (row.length - 1 - i) := rfl
  have er : (cvOf row M).row = row := rfl
  generalize cvOf row M = c at *
  refine o_seq (o_set (w_lix9 (w_fld9 rfl (at_get0 c μ _) (by decide) rfl (w_fld9 rfl (at_get0 c μ _) (by decide) rfl ⟨_, _, .num c.st, _, rfl, at_get c μ _ 4, rfl, valP_tab (f := c.bestV) (q := some c.st) hst, ?_⟩))))
  decreasing_trivial
  refine ⟨by omega, by rw [List.length_map]; omega, ?_⟩
  rw [List.length_map, Int.toNat_natCast, rangeL0]
  refine lc_map9 (f := fun i : Nat => AV.int (i : Nat)) (p := fun i => (bestN row c.nx c.K (some c.st)).testBit (row.length - 1 - i)) (r := fun i => .int (i : Nat)) (by rw [List.length_range]; omega) (fun i hi => ⟨_, rfl, ?_⟩) ?_
  · have hi := List.mem_range.mp hi
    refine w_b1 (w_op (w_op (w_var rfl (w_meth (w_var rfl ⟨_, _, _, rfl, at_get0 c μ _, by decide, by rfl, w_cons (w_var rfl (w_nil ((hmk row _ i _ _ (by omega) (at_get0 c μ _) (by rw [← er]; rfl) hi).mono ?_)))⟩)))))
    rintro v σ ⟨rfl, rfl⟩
    refine w_and (w_c (w_gNeI9 ⟨_, rfl, rfl, ?_, fun _ => w_var rfl ⟨rfl, rfl⟩⟩))
    rw [er]
    exact bit_and9 _ _
  rw [← ef]
  exact w_nil (w_tupL ⟨ha, pure_nats _, rfl⟩)
theorem count_ok (T : Nat → Fn) (hi : InitOk (T i626_Covers___init)) : CountOk (fnR 2 1 (m629_set_count T)) := fun row M hr => Pure1.of' rfl fun μ => by
  simp only [startA_s, List.map_cons, List.map_nil, List.length_cons, List.length_nil, Nat.reduceAdd, Nat.reduceSub, List.replicate_succ, List.replicate_zero, List.cons_append, List.nil_append]
  unfold m629_set_count
  refine o_seq (o_set (w_mki (w_cons (w_var rfl (w_nil ((hi row M hr μ).mono ?_))))))
  rintro v σ ⟨rfl, rfl⟩
  refine ⟨rfl, ?_⟩
  have hst := cv_start hr
  exact o_ret (w_lix9 (w_fld9 rfl (at_get0 _ μ _) (by decide) rfl (w_fld9 rfl (at_get0 _ μ _) (by decide) rfl ⟨_, _, .num (cvOf row M).st, _, rfl, at_get _ μ _ 3, rfl, valP_tab (f := (cvOf row M).waysV) (q := some (cvOf row M).st) hst, at_pre _ μ _, rfl, rfl⟩)))
theorem frz_pre (c : Cv) (μ : Store) (d : List Int) (a b : AO) : μ <+: (c.at μ d ++ [a, b]).set (μ.length + 7) .dead := by
  unfold Cv.at
  rw [List.append_assoc, app_set]
  exact List.prefix_append _ _
theorem uses_get (c : Cv) (μ : Store) (d : List Int) (a b : AO) : (c.at μ d ++ [a, b])[μ.length + 7]? = some b := by
  have : (c.at μ d).length = μ.length + 6 := by unfold Cv.at Cv.objs; simp
  rw [show μ.length + 7 = (c.at μ d).length + 1 from by omega]
  exact app_get9 _ _ 1
theorem insome_ok (T : Nat → Fn) (hi : InitOk (T i626_Covers___init)) (hu : UsesOk (T i757_Covers_uses)) : InSomeOk (fnR 3 1 (m631_in_some_set T)) := fun row M hr => Pure1.of' rfl fun μ => by
  simp only [startA_s, List.map_cons, List.map_nil, List.length_cons, List.length_nil, Nat.reduceAdd, Nat.reduceSub, List.replicate_succ, List.replicate_zero, List.cons_append, List.nil_append]
  unfold m631_in_some_set
  have hrl := hr.len
  refine o_ret (w_cb (w_cons (w_dat (w_lcU (w_enumT (w_cons (w_frz9 (w_meth (w_mki (w_cons (w_var rfl (w_nil ((hi row M hr μ).mono ?_)))))))))))))
  rintro v σ ⟨rfl, rfl⟩
  refine ⟨rfl, _, _, _, rfl, at_get0 _ μ _, by decide, by rfl, w_nil ((hu row M hr μ).mono ?_)⟩
  rintro v σ ⟨rfl, bt, rfl⟩
  refine ⟨_, _, rfl, uses_get _ μ _ _ _, w_nil ⟨_, .inr rfl, ?_⟩⟩
  rw [enum_fdV]
  refine lc_map9 (p := fun i => decide (0 < cntC row M i)) (r := fun i => .int (i : Nat)) (by rw [List.length_range]; omega) (fun i hi => ⟨_, rfl, w_b1 (w_op (w_var rfl (w_c (w_gt ⟨_, rfl, rfl, ?_, fun _ => w_var rfl ⟨rfl, rfl⟩⟩))))⟩) ?_
  · exact decide_eq_decide.mpr Int.natCast_pos
  exact w_nil (w_tupL ⟨frz_pre _ _ _ _ _, pure_nats _, rfl⟩)
theorem ineach_ok (T : Nat → Fn) (hi : InitOk (T i626_Covers___init)) (hu : UsesOk (T i757_Covers_uses)) (hn : CountOk (T i629_set_count)) : InEachOk (fnR 4 1 (m632_in_each_set T)) := fun row M hr => Pure1.of' rfl fun μ => by
  simp only [startA_s, List.map_cons, List.map_nil, List.length_cons, List.length_nil, Nat.reduceAdd, Nat.reduceSub, List.replicate_succ, List.replicate_zero, List.cons_append, List.nil_append]
  unfold m632_in_each_set
  have hrl := hr.len
  refine o_seq (o_set (w_call (w_cons (w_var rfl (w_nil ((hn row M hr μ).mono ?_))))))
  rintro v σ ⟨rfl, rfl⟩
  refine o_ret (w_cb (w_cons (w_dat (w_lcU (w_enumT (w_cons (w_frz9 (w_meth (w_mki (w_cons (w_var rfl (w_nil ((hi row M hr _).mono ?_)))))))))))))
  rintro v τ ⟨rfl, rfl⟩
  refine ⟨rfl, _, _, _, rfl, at_get0 _ _ _, by decide, by rfl, w_nil ((hu row M hr _).mono ?_)⟩
  rintro v τ ⟨rfl, bt, rfl⟩
  refine ⟨_, _, rfl, uses_get _ _ _ _ _, w_nil ⟨_, .inr rfl, ?_⟩⟩
  rw [enum_fdV]
  refine lc_map9 (p := fun i => decide (cntC row M i = waysC row M)) (r := fun i => .int (i : Nat)) (by rw [List.length_range]; omega) (fun i hi => ⟨_, rfl, w_b1 (w_op (w_var rfl (w_var rfl (w_gEqI9 ⟨_, rfl, rfl, ?_, fun _ => w_var rfl ⟨rfl, rfl⟩⟩))))⟩) ?_
  · rw [Bool.eq_iff_iff, beq_iff_eq, decide_eq_true_eq]
    exact Int.ofNat_inj
  exact w_nil (w_tupL ⟨frz_pre _ _ _ _ _, pure_nats _, rfl⟩)
end Lr
set_option maxHeartbeats 1000000
namespace Lr
open PySem PySem.Spec L2
def SpanA9 (v : AV) : Prop := ∃ a b : Int, v = .tup [.int a, .int b] ∧ 0 ≤ a ∧ a < b ∧ b ≤ 1000000000000
theorem SpanA9.pure {v : AV} (h : SpanA9 v) : pure? v = true := by
  obtain ⟨a, b, rfl, _⟩ := h
  rfl
theorem pureL_span9 {xs : List AV} (h : ∀ x ∈ xs, SpanA9 x) : pureL xs = true := by
  rw [pureL_all]
  exact List.all_eq_true.mpr fun x hx => (h x hx).pure
def LRow9 (f : Fn) : Prop := ∀ (n : Nat) (most : Int), 1 ≤ most → most ≤ 40 → Draws f n [.loc n, .int most] 1000 (fun v => ∃ xs, v = .tup xs ∧ 1 ≤ xs.length ∧ (xs.length : Int) ≤ most ∧ ∀ x ∈ xs, SpanA9 x)
theorem lrow_ok (T : Nat → Fn) (ht : TakeOk (T i2_law_take)) (ho : OfOk (T i3_law_of)) (ho2 : OfOk2 (T i3_law_of)) : LRow9 (fnR 8 2 (m288_law_row T)) := fun n most m1 m2 => by
  refine Draws.of rfl fun μ B hb hs => ?_
  have hn := hs.lt
  simp only [startA_s, List.map_cons, List.map_nil, List.length_cons, List.length_nil, Nat.reduceAdd, Nat.reduceSub, List.replicate_succ, List.replicate_zero, List.cons_append, List.nil_append]
  unfold m288_law_row
  decreasing_trivial
  refine w_pow (by decide) (by decide) (by decide) ?_
  decreasing_trivial
  refine ⟨by simp, ?_⟩
  decreasing_trivial
  refine (ho n _ (by simp) (by simp) rfl μ B (by omega) hs).mono fun v σ ⟨s1, h1, pv, hv⟩ => ?_
  obtain ⟨reach, e, r1, r2⟩ : ∃ reach : Int, v = .int reach ∧ 3 ≤ reach ∧ reach ≤ 1000000000000 := by
    simp only [List.mem_cons, List.not_mem_nil, or_false] at hv
    rcases hv with h | h | h | h | h | h <;> exact ⟨_, h, by decide, by decide⟩
  subst e
  clear hv pv
  decreasing_trivial
  refine ⟨by simp, ?_⟩
  decreasing_trivial
  refine ⟨by simp, _, rfl, ?_⟩
  decreasing_trivial
  refine ⟨by simp, ?_⟩
  decreasing_trivial
  have x1 := s1.ext.push (.lst [])
  have g1 := h1.push (.lst [])
  have el : (σ ++ [AO.lst []])[σ.length]? = some (.lst []) := by simp
  have lm : μ.length = σ.length := s1.1.symm
  revert x1 g1 el
  generalize σ ++ [AO.lst []] = σ1
  generalize σ.length = l at *
  intro x1 g1 el
  have hln : l ≠ n := by omega
  refine (ho n _ (by simp) (by simp) rfl σ1 _ (by omega) g1).mono fun v σ2 ⟨s2, h2, pv, hv⟩ => ?_
  obtain ⟨long, e, l1⟩ : ∃ reach : Int, v = .int reach ∧ 1 ≤ reach := by
    simp only [List.mem_cons, List.not_mem_nil, or_false] at hv
    rcases hv with h | h | h | h | h <;> exact ⟨_, h, by omega⟩
  subst e
  clear hv pv
  decreasing_trivial
  refine (ht n most m1 (by omega) σ2 _ (by omega) h2).mono fun v σ3 ⟨s3, h3, pv, d, e, d0, d1⟩ => ?_
  subst e
  decreasing_trivial
  refine ⟨by omega, by omega, ?_⟩
  have hlen : (rangeL 0 (1 + d).toNat).length = (1 + d).toNat := by simp [rangeL]
  have x3 := (x1.step s2).step s3
  have e3 : σ3[l]? = some (.lst []) := (s3.2 l hln).trans ((s2.2 l hln).trans el)
  refine wo_dat (fun i ρ τ => ∃ x5 x6 x7 xs, ρ = [some (.loc n), some (.int most), some (.int reach), some (.loc l), some (.int long), x5, x6, x7] ∧ Ext n μ τ ∧ Hst τ n (B + 1 + 1 + 1 + 4 * i) ∧ τ[l]? = some (.lst xs) ∧ xs.length = i ∧ ∀ x ∈ xs, SpanA9 x) ?_ ?_ FUEL 0 _ _ (by unfold FUEL; omega) (by omega) ⟨_, _, _, [], rfl, x3, h3, e3, rfl, by simp⟩
  · rintro ρ τ ⟨x5, x6, x7, xs, rfl, xt, h4, e4, hl4, hsp⟩
    decreasing_trivial
    refine w_tupO e4 ?_
    rw [hlen] at hl4 h4
    refine ⟨?_, xt, h4.le (by omega), xs, rfl, by omega, by omega, hsp⟩
    simpa [pure?] using pureL_span9 hsp
  · rintro i v ρ τ hv ⟨x5, x6, x7, xs, rfl, xt, h4, e4, hl4, hsp⟩
    have hi : i < 40 := by
      have := (List.getElem?_eq_some_iff.mp hv).1
      rw [hlen] at this
      omega
    refine ⟨_, rfl, ?_⟩
    decreasing_trivial
    refine (ht n reach (by omega) (by omega) τ _ (by omega) h4).mono fun v σ5 ⟨s5, h5, _, b, e, b0, b1⟩ => ?_
    subst e
    decreasing_trivial
    have q1 : 1 ≤ (if reach - b < long then reach - b else long) ∧ (if reach - b < long then reach - b else long) ≤ reach - b := by split <;> omega
    refine (ht n _ q1.1 (by omega) σ5 _ (by omega) h5).mono fun v σ6 ⟨s6, h6, _, u, e, u0, u1⟩ => ?_
    subst e
    decreasing_trivial
    have e6 : σ6[l]? = some (.lst xs) := (s6.2 l hln).trans ((s5.2 l hln).trans e4)
    have x6' := (xt.step s5).step s6
    refine ⟨by simp [isLs, lsOf, e6], ?_⟩
    have ee : eqB (.loc l) (.lst []) σ6 = some xs.isEmpty := by
      simp only [eqB, lsOf, e6]
      cases xs <;> simp [eqvL]
    have dd : min (depM σ6 (.loc l)) (depM σ6 (.lst [])) ≤ 150 := by
      simp only [depM, lsOf, depL]
      omega
    have hps := pureL_span9 hsp
    have last : ∀ (v : AV) (C : Nat) (τ' : Store), Ext n μ τ' → Hst τ' n C → C ≤ B + 1 + 1 + 1 + 4 * (i + 1) → τ'[l]? = some (.lst xs) → SpanA9 v → Ext n μ (τ'.set l (.lst (xs ++ [v]))) ∧ Hst (τ'.set l (.lst (xs ++ [v]))) n (B + 1 + 1 + 1 + 4 * (i + 1)) ∧ (τ'.set l (.lst (xs ++ [v])))[l]? = some (.lst (xs ++ [v])) ∧ (xs ++ [v]).length = i + 1 ∧ ∀ x ∈ xs ++ [v], SpanA9 x := fun v C τ' xe hh hC e sv => by
      refine ⟨xe.set _ (.inl (by omega)), (hh.set _ hln).le hC, ?_, by simp [hl4], ?_⟩
      · rw [List.getElem?_set_self (List.getElem?_eq_some_iff.mp e).1]
      · intro x hx
        rcases List.mem_append.mp hx with h | h
        · exact hsp x h
        · rw [List.mem_singleton.mp h]
          exact sv
    have sp : SpanA9 (.tup [.int b, .int (b + 1 + u)]) := ⟨b, b + 1 + u, rfl, by omega, by omega, by omega⟩
    decreasing_trivial
    refine ⟨by simp, w_gNe ee dd ?_⟩
    decreasing_trivial
    by_cases hx : xs.isEmpty = true
    · rw [hx]
      rw [if_neg (by simp), if_neg (by simp)]
      decreasing_trivial
      exact ⟨by simp, l, xs, rfl, e6, by omega, _, _, _, xs ++ [_], rfl, last _ _ σ6 x6' h6 (by omega) e6 sp⟩
    · rw [if_pos (by simp [hx])]
      decreasing_trivial
      refine (ht n 9 (by decide) (by decide) σ6 _ (by omega) h6).mono fun v σ7 ⟨s7, h7, _, z, e, z0, z1⟩ => ?_
      subst e
      have e7 : σ7[l]? = some (.lst xs) := (s7.2 l hln).trans e6
      have x7 := x6'.step s7
      decreasing_trivial
      refine w_gEq (r := z == 0) (by simp [eqB, lsOf, eqv]) (by simp [depM, lsOf, dep]) ?_
      decreasing_trivial
      by_cases hz : (z == 0) = true
      · rw [if_pos hz]
        decreasing_trivial
        refine (ho2 n l xs σ7 _ hln (fun z => hx (by rw [z]; rfl)) (by omega) hps e7 (by omega) h7).mono fun v σ8 ⟨s8, h8, _, hv⟩ => ?_
        have e8 : σ8[l]? = some (.lst xs) := (s8.2 l hln).trans e7
        exact ⟨l, xs, rfl, e8, by omega, _, _, _, xs ++ [_], rfl, last _ _ σ8 (x7.step s8) h8 (by omega) e8 (hsp v hv)⟩
      · rw [if_neg hz]
        decreasing_trivial
        exact ⟨by simp, l, xs, rfl, e7, by omega, _, _, _, xs ++ [_], rfl, last _ _ σ7 x7 h7 (by omega) e7 sp⟩
theorem spans_pairs : ∀ {xs : List AV}, (∀ x ∈ xs, SpanA9 x) → ∃ row : List (Int × Int), xs = row.map pV ∧ ∀ s ∈ row, 0 ≤ s.1 ∧ s.1 < s.2 ∧ s.2 ≤ 1000000000000
  | [], _ => ⟨[], rfl, by simp⟩
  | x :: xs, h => by
    obtain ⟨row, e, hr⟩ := spans_pairs fun y hy => h y (.tail _ hy)
    obtain ⟨a, b, e2, h0, h1, h2⟩ := h x (.head _)
    refine ⟨(a, b) :: row, by rw [e, e2]; rfl, fun s hs => ?_⟩
    rcases List.mem_cons.mp hs with rfl | hs
    · exact ⟨h0, h1, h2⟩
    · exact hr s hs
def busyB (row : List (Int × Int)) (m : Int) : Bool := row.any fun s => decide (hasU s m)
def cutsL (row : List (Int × Int)) : List Int := row.map (·.1) ++ row.map (·.2)
def marksL (row : List (Int × Int)) : List Int := (sortD (cutsL row)).filter (busyB row)
theorem w_any9 {xs : List AV} {bs : List Bool} {μ : Store} {Q : AV → Store → Prop} (e : blsOf xs = some bs) (h : Q (.bl (bs.any _root_.id)) μ) : wp (gAny [.lst xs] μ) Q := by
  simp only [gAny, lsOf_lst, e]
  exact h
theorem w_all9 {xs : List AV} {bs : List Bool} {μ : Store} {Q : AV → Store → Prop} (e : blsOf xs = some bs) (h : Q (.bl (bs.all _root_.id)) μ) : wp (gAll [.lst xs] μ) Q := w_all e h
theorem blsOf_map9 {α : Type} {g : α → Bool} : ∀ xs : List α, blsOf (xs.map fun x => AV.bl (g x)) = some (xs.map g)
  | [] => rfl
  | x :: xs => by rw [List.map_cons]; simp only [blsOf, blsOf_map9 xs, Option.map_some]; rfl
theorem any_map9 {α : Type} {g : α → Bool} (xs : List α) : (xs.map g).any _root_.id = xs.any g := by rw [List.any_map]; rfl
theorem all_map9 {α : Type} {g : α → Bool} (xs : List α) : (xs.map g).all _root_.id = xs.all g := by rw [List.all_map]; rfl
theorem sortD_len9 (ns : List Int) : (sortD ns).length ≤ ns.length := List.Nodup.length_le_of_subset ((sortD_pw ns).imp fun h => Int.ne_of_lt h) fun k hk => mem_sortD.mp hk
theorem pure_ints9 (ns : List Int) : pure? (.lst (ns.map AV.int)) = true := by
  show pureL _ = true
  rw [pureL_all]
  simp [pure?]
def LMarksOk (f : Fn) : Prop := ∀ row : List (Int × Int), row.length ≤ 30 → Pure1 f [.tup (row.map pV)] (.lst ((marksL row).map AV.int))
theorem lmarks_ok (T : Nat → Fn) : LMarksOk (fnR 5 1 (m305_law_marks T)) := fun row hl => Pure1.of' rfl fun μ => by
  simp only [startA_s, List.map_cons, List.map_nil, List.length_cons, List.length_nil, Nat.reduceAdd, Nat.reduceSub, List.replicate_succ, List.replicate_zero, List.cons_append, List.nil_append]
  unfold m305_law_marks
  refine o_seq (o_set (w_dat (w_sortSet (w_dat (w_cat (w_dat (w_lcU (w_anyT (w_var rfl ⟨_, rfl, ?_⟩)))))))))
  refine lc_all9 (f := pV) (r := fun s => .int s.1) (by omega) (fun s _ => ⟨_, rfl, w_var rfl ⟨rfl, rfl⟩⟩) ?_
  refine w_dat (w_lcU (w_anyT (w_var rfl ⟨_, rfl, ?_⟩)))
  refine lc_all9 (f := pV) (r := fun s => .int s.2) (by omega) (fun s _ => ⟨_, rfl, w_var rfl ⟨rfl, rfl⟩⟩) ?_
  have e1 : (row.map fun s => AV.int s.1) ++ (row.map fun s => AV.int s.2) = (cutsL row).map AV.int := by
    unfold cutsL
    rw [List.map_append, List.map_map, List.map_map]
    rfl
  have hc : (cutsL row).length ≤ 60 := by unfold cutsL; simp; omega
  have hs := sortD_len9 (cutsL row)
  refine ⟨_, _, rfl, rfl, by simp; omega, _, cutsL row, rfl, by rw [e1]; exact intsOf_ivK _, by omega, by omega, ?_⟩
  refine o_ret (w_dat (w_lcU (w_anyL (w_var rfl ⟨_, rfl, ?_⟩))))
  refine lc_map9 (f := AV.int) (p := busyB row) (r := AV.int) (by omega) (fun m _ => ⟨_, rfl, ?_⟩) ⟨List.prefix_refl _, pure_ints9 _, rfl⟩
  refine w_tr (w_cb (w_cons (w_dat (w_lcU (w_anyT (w_var rfl ⟨_, rfl, ?_⟩))))))
  refine lc_all9 (f := pV) (r := fun s => .bl (decide (hasU s m))) (by omega) (fun s _ => ⟨_, rfl, ?_⟩) ?_
  · refine w_chain (w_var rfl (w_var rfl (w_le ⟨_, rfl, ?_⟩)))
    by_cases z : s.1 ≤ m
    · rw [if_pos (by simpa using z)]
      refine w_var rfl (w_lt ⟨rfl, ?_⟩)
      by_cases z2 : m < s.2 <;> simp [hasU, z, z2]
    · rw [if_neg (by simpa using z)]
      exact ⟨rfl, by simp [hasU, z]⟩
  refine w_nil (w_any9 (blsOf_map9 _) ⟨_, rfl, rfl, ?_, fun _ => w_var rfl ⟨rfl, rfl⟩⟩)
  rw [any_map9]
  rfl
def HasOk (f : Fn) : Prop := ∀ (s : Int × Int) (m : Int), Pure1 f [pV s, .int m] (.bl (decide (hasU s m)))
theorem has_ok (T : Nat → Fn) : HasOk (fnR 2 2 (m295_law_has T)) := fun s m => Pure1.of' rfl fun μ => by
  simp only [startA_s, List.map_cons, List.map_nil, List.length_cons, List.length_nil, Nat.reduceAdd, Nat.reduceSub, List.replicate_succ, List.replicate_zero, List.cons_append, List.nil_append]
  unfold m295_law_has
  refine o_ret (w_chain (w_op (w_var rfl (w_c (w_ixT (v := .int s.1) rfl (w_var rfl (w_le ⟨_, rfl, ?_⟩)))))))
  by_cases z : s.1 ≤ m
  · rw [if_pos (by simpa using z)]
    refine w_op (w_var rfl (w_c (w_ixT (v := .int s.2) rfl (w_lt ⟨List.prefix_refl _, rfl, ?_⟩))))
    by_cases z2 : m < s.2 <;> simp [hasU, z, z2]
  · rw [if_neg (by simpa using z)]
    exact ⟨List.prefix_refl _, rfl, by simp [hasU, z]⟩
def LOpenOk (f : Fn) : Prop := ∀ (ms : List Int) (ps : List (Int × Int)), ms.length ≤ 1000 → ps.length ≤ 1000 → Pure1 f [.lst (ms.map AV.int), .lst (ps.map pV)] (.lst ((ms.filter fun m => !busyB ps m).map AV.int))
theorem lopen_ok (T : Nat → Fn) (hh : HasOk (T i295_law_has)) : LOpenOk (fnR 4 2 (m307_law_open T)) := fun ms ps hm hp => Pure1.of' rfl fun μ => by
  simp only [startA_s, List.map_cons, List.map_nil, List.length_cons, List.length_nil, Nat.reduceAdd, Nat.reduceSub, List.replicate_succ, List.replicate_zero, List.cons_append, List.nil_append]
  unfold m307_law_open
  refine o_ret (w_dat (w_lcU (w_anyL (w_var rfl ⟨_, rfl, ?_⟩))))
  refine lc_map9 (f := AV.int) (p := fun m => !busyB ps m) (r := AV.int) (by omega) (fun m _ => ⟨_, rfl, ?_⟩) ⟨List.prefix_refl _, pure_ints9 _, rfl⟩
  refine w_nt (w_tr (w_cb (w_cons (w_dat (w_lcU (w_anyL (w_var rfl ⟨_, rfl, ?_⟩)))))))
  refine lc_all9 (f := pV) (r := fun s => .bl (decide (hasU s m))) (by omega) (fun s _ => ⟨_, rfl, ?_⟩) ?_
  · refine w_call (w_cons (w_var rfl (w_cons (w_var rfl (w_nil ((hh s m μ).mono ?_))))))
    rintro v σ ⟨rfl, rfl⟩
    exact ⟨rfl, rfl⟩
  refine w_nil (w_any9 (blsOf_map9 _) ⟨_, rfl, rfl, ?_, fun _ => w_var rfl ⟨rfl, rfl⟩⟩)
  rw [any_map9]
  rfl
end Lr
set_option maxHeartbeats 1000000
namespace Lr
open PySem PySem.Spec L2
def natsT (g : List Nat) : AV := .tup (natsV g)
def kleI (a b : List Nat) : Bool := leKI (natsT a) (natsT b)
def intsD (a : List Nat) : List PyData := a.map fun i => PyData.int (i : Nat)
theorem keyI2_nats (a : List Nat) : keyI2 (natsT a) = .tuple [.int a.length, .tuple (intsD a)] := by
  show PyData.tuple [.int (natsV a).length, .tuple ((natsV a).map atomI)] = _
  unfold natsV intsD
  rw [List.length_map, List.map_map]
  rfl
theorem lexC9 (x y : Int ⊕ List Nat) (r t : List (Int ⊕ List Nat)) : PyProof.Rows.lexLt PyProof.Rows.itemOrd (x :: r : List (Int ⊕ List Nat)) (y :: t : List (Int ⊕ List Nat)) = (PyProof.Rows.itemLt x y || (!PyProof.Rows.itemLt y x && PyProof.Rows.lexLt PyProof.Rows.itemOrd r t)) := PyProof.Rows.lex_cons (O := PyProof.Rows.itemOrd) x y r t
theorem toks_lexI (r : List (Int ⊕ List Nat)) : ∀ {a b : List Nat}, a.length = b.length → PyProof.Rows.lexLt PyProof.Rows.itemOrd (PySem.W.keyToksAll (intsD b) ++ r) (PySem.W.keyToksAll (intsD a) ++ r) = false → a = b ∨ LexL a b
  | [], [], _, _ => .inl rfl
  | [], y :: b, l, _ => by cases l
  | x :: a, [], l, _ => by cases l
  | x :: a, y :: b, l, h => by
    have e : ∀ (z : Nat) (c : List Nat), PySem.W.keyToksAll (intsD (z :: c)) ++ r = .inl 1 :: .inl (z : Int) :: (PySem.W.keyToksAll (intsD c) ++ r) := fun z c => rfl
    rw [e, e, lexC9, lexC9] at h
    simp only [PyProof.Rows.itemLt, Int.lt_irrefl, decide_false, Bool.false_or, Bool.not_false, Bool.true_and, Bool.or_eq_false_iff, Bool.and_eq_false_iff, Bool.not_eq_false', decide_eq_false_iff_not, decide_eq_true_eq] at h
    obtain ⟨h1, h2⟩ := h
    rcases h2 with h2 | h2
    · exact .inr (.lt (Int.ofNat_lt.mp h2))
    · by_cases z : x < y
      · exact .inr (.lt z)
      · have : x = y := by omega
        subst this
        rcases toks_lexI r (a := a) (b := b) (Nat.succ.inj l) h2 with e | e
        · exact .inl (by rw [e])
        · exact .inr (.eq e)
theorem kleI_eq (a b : List Nat) : kleI a b = !PyProof.Rows.lexLt PyProof.Rows.itemOrd (.inl 1 :: .inl ((b.length : Nat) : Int) :: .inl 1 :: (PySem.W.keyToksAll (intsD b) ++ [.inl 0])) (.inl 1 :: .inl ((a.length : Nat) : Int) :: .inl 1 :: (PySem.W.keyToksAll (intsD a) ++ [.inl 0])) := by
  unfold kleI leKI
  rw [PySem.W.dataLe, PySem.W.sortLe]
  simp only [cond_false]
  rw [keyI2_nats, keyI2_nats]
  rfl
theorem kleI_len {a b : List Nat} (h : kleI a b = true) : a.length ≤ b.length := by
  rw [kleI_eq, lexC9, lexC9] at h
  refine Nat.le_of_not_lt fun z => ?_
  have zi : ((b.length : Nat) : Int) < (a.length : Nat) := by omega
  simp [PyProof.Rows.itemLt, z, zi] at h
theorem kleI_lex {a b : List Nat} (l : a.length = b.length) (h : kleI a b = true) : a = b ∨ LexL a b := by
  rw [kleI_eq, lexC9, lexC9, lexC9, l] at h
  refine toks_lexI [.inl 0] l ?_
  simpa [PyProof.Rows.itemLt] using h
theorem kleI_trans (a b c : List Nat) (h : kleI a b = true) (g : kleI b c = true) : kleI a c = true := (PySem.W.sortLe_total _ false _).trans _ _ _ h g
theorem kleI_total (a b : List Nat) : (kleI a b || kleI b a) = true := by
  have := (PySem.W.sortLe_total (PyProof.Rows.listOrd PyProof.Rows.itemOrd) false (fun b => PySem.W.keyToks (keyI2 b))).total (natsT a) (natsT b)
  simpa [kleI, leKI, PySem.W.dataLe] using this
def idxS (n : Nat) : List (List Nat) := (idxF n).mergeSort kleI
theorem idxS_v (n : Nat) : ((idxF n).map natsT).mergeSort leKI = (idxS n).map natsT := by
  unfold idxS
  rw [List.map_mergeSort]
  intro a _ b _
  rfl
theorem idxF_len : ∀ n, (idxF n).length = 2 ^ n
  | 0 => rfl
  | n + 1 => by
    rw [show idxF (n + 1) = idxF n ++ (idxF n).map fun s => s ++ [n] from rfl, List.length_append, List.length_map, idxF_len n, Nat.pow_succ]
    omega
theorem idxF_nd : ∀ n, (idxF n).Nodup
  | 0 => by simp [idxF]
  | n + 1 => by
    rw [show idxF (n + 1) = idxF n ++ (idxF n).map fun s => s ++ [n] from rfl, List.nodup_append]
    refine ⟨idxF_nd n, List.Pairwise.map _ (fun a b h e => h (List.append_cancel_right e)) (idxF_nd n), fun a ha b hb e => ?_⟩
    obtain ⟨c, hc, rfl⟩ := List.mem_map.mp hb
    have := (idx_mem.mp ha).2 n (by rw [e]; simp)
    omega
theorem idxF_small {n : Nat} {g : List Nat} (h : g ∈ idxF n) : g.length ≤ n := by
  obtain ⟨h1, h2⟩ := idx_mem.mp h
  exact nodup_len (h1.imp fun h => Nat.ne_of_lt h) h2
theorem idxS_mem {n : Nat} {g : List Nat} : g ∈ idxS n ↔ g.Pairwise (· < ·) ∧ ∀ i ∈ g, i < n := List.mem_mergeSort.trans idx_mem
theorem idxS_pw (n : Nat) : (idxS n).Pairwise fun a b => a.length < b.length ∨ a.length = b.length ∧ LexL a b := by
  have h1 : (idxS n).Pairwise fun a b => kleI a b = true := List.pairwise_mergeSort kleI_trans kleI_total (idxF n)
  have h2 : (idxS n).Nodup := (List.mergeSort_perm (idxF n) kleI).nodup_iff.mpr (idxF_nd n)
  refine (h1.and h2).imp fun {a b} ⟨h, hn⟩ => ?_
  have hl := kleI_len h
  rcases Nat.lt_or_eq_of_le hl with z | z
  · exact .inl z
  · exact .inr ⟨z, (kleI_lex z h).resolve_left hn⟩
theorem w_sortKI {r : AE} {ρ : Loc} {μ : Store} {QL : List AV → Store → Prop} (h : wp (r ρ μ) fun v μ1 => ∃ xs, srcK μ1 v = some xs ∧ xs.all lkOkI = true ∧ xs.length ≤ 16777216 ∧ QL (xs.mergeSort leKI) μ1) : wp (aSortKI r ρ μ) QL := by
  unfold aSortKI
  rw [wp_bind]
  refine h.mono fun v μ1 h => ?_
  obtain ⟨xs, e, h1, h2, h⟩ := h
  simp only [e]
  rw [if_pos ⟨h1, h2⟩]
  exact h
theorem pure_sets (L : List (List Nat)) : pure? (.lst (L.map natsT)) = true := by
  show pureL _ = true
  rw [pureL_all, List.all_eq_true]
  intro x hx
  obtain ⟨g, _, rfl⟩ := List.mem_map.mp hx
  exact pure_nats g
structure IdxOk (f : Fn) : Prop where
  ok : ∀ n : Nat, n ≤ 12 → Pure1 f [.int (n : Nat)] (.lst ((idxS n).map natsT))
theorem pow12 {n : Nat} (h : n ≤ 12) : 2 ^ n ≤ 4096 := Nat.pow_le_pow_right (n := 2) (by decide) h
theorem idx_ok (T : Nat → Fn) : IdxOk (fnR 4 1 (m306_law_index_sets T)) := ⟨fun n hn => by
  with_reducible refine @Pure1.of' 4 1 (m306_law_index_sets T) [.int (n : Nat)] (.lst ((idxS n).map natsT)) rfl ?_
  intro μ
  simp only [startA_s, List.map_cons, List.map_nil, List.length_cons, List.length_nil, Nat.reduceAdd, Nat.reduceSub, List.replicate_succ, List.replicate_zero, List.cons_append, List.nil_append]
  unfold m306_law_index_sets
  decreasing_trivial_pre_omega
  refine ⟨by omega, by omega, ?_⟩
  rw [Int.toNat_natCast, rangeL0]
  refine wo_dat (fun i ρ τ => τ = μ ∧ i ≤ n ∧ ∃ x2 x3 : Option AV, ρ = [some (.int (n : Nat)), some (.lst ((idxF i).map natsT)), x2, x3]) ?_ ?_ FUEL 0 _ _ (by unfold natsV; rw [List.length_map, List.length_range]; unfold FUEL; omega) (Nat.zero_le _) ⟨rfl, Nat.zero_le _, _, _, rfl⟩
  · rintro ρ τ ⟨rfl, _, x2, x3, rfl⟩
    unfold natsV
    rw [List.length_map, List.length_range]
    dsimp only
    refine o_ret (w_dat (w_sortKI (w_var rfl ⟨_, rfl, ?_, ?_, ?_⟩)))
    · rw [List.all_eq_true]
      intro x hx
      obtain ⟨g, hg, rfl⟩ := List.mem_map.mp hx
      have := idxF_small hg
      unfold natsT natsV lkOkI
      dsimp only
      rw [List.length_map, decide_eq_true (by omega), Bool.true_and, List.all_map]
      exact List.all_eq_true.mpr fun _ _ => rfl
    · rw [List.length_map, idxF_len]
      have := pow12 hn
      omega
    · rw [idxS_v]
      exact ⟨List.prefix_refl _, pure_sets _, rfl⟩
  · rintro i v ρ τ hv ⟨rfl, hi, x2, x3, rfl⟩
    unfold natsV at hv
    rw [List.getElem?_map] at hv
    obtain ⟨j, hj, rfl⟩ := Option.map_eq_some_iff.mp hv
    obtain ⟨hj1, hj2⟩ := List.getElem?_eq_some_iff.mp hj
    rw [List.getElem_range] at hj2
    rw [List.length_range] at hj1
    subst hj2
    have hp := pow12 (n := i) (by omega)
    refine ⟨_, rfl, o_set (w_dat (w_cat (w_var rfl (w_dat (w_lcU (w_anyL (w_var rfl ⟨_, rfl, ?_⟩)))))))⟩
    refine lc_all9 (f := natsT) (r := fun g => natsT (g ++ [i])) (by rw [idxF_len]; omega) (fun g hg => ⟨_, rfl, w_op (w_var rfl (w_tup (w_cons (w_var rfl (w_nil ⟨by simp, w_addT ?_ ⟨rfl, ?_⟩⟩)))))⟩) ?_
    · have := idxF_small hg
      unfold natsV
      rw [List.length_map, List.length_singleton]
      omega
    · unfold natsT natsV
      rw [List.map_append]
      rfl
    refine ⟨_, _, rfl, rfl, ?_, rfl, hj1, some (.int (i : Nat)), x3, ?_⟩
    · rw [List.length_map, List.length_map, idxF_len]
      omega
    · have e : (idxF i).map natsT ++ (idxF i).map (fun g => natsT (g ++ [i])) = (idxF (i + 1)).map natsT := by
        rw [show idxF (i + 1) = idxF i ++ (idxF i).map fun s => s ++ [i] from rfl, List.map_append, List.map_map]
        rfl
      rw [e]
      rfl⟩
end Lr
set_option maxHeartbeats 1000000
namespace Lr
open PySem PySem.Spec L2
def pickS (row : List (Int × Int)) (g : List Nat) : List (Int × Int) := g.map fun i => row.getD i (0, 0)
def okL (row : List (Int × Int)) (g : List Nat) : Bool := ((marksL row).filter fun m => !busyB (pickS row g) m).isEmpty
def goodG (row : List (Int × Int)) : List (List Nat) := goodF (okL row) [] (idxS row.length)
section
variable {row : List (Int × Int)} {M : Int}
theorem busyB_iff {row : List (Int × Int)} {m : Int} : busyB row m = true ↔ busyU row m := by
  unfold busyB busyU
  rw [List.any_eq_true]
  exact ⟨fun ⟨s, h1, h2⟩ => ⟨s, h1, of_decide_eq_true h2⟩, fun ⟨s, h1, h2⟩ => ⟨s, h1, decide_eq_true h2⟩⟩
theorem mem_pick {g : List Nat} (hg : ∀ i ∈ g, i < row.length) {s : Int × Int} : s ∈ pickS row g ↔ ∃ i ∈ g, row[i]? = some s := by
  unfold pickS
  rw [List.mem_map]
  constructor
  · rintro ⟨i, hi, rfl⟩
    exact ⟨i, hi, by rw [List.getD_eq_getElem?_getD, List.getElem?_eq_getElem (hg i hi)]; rfl⟩
  · rintro ⟨i, hi, e⟩
    exact ⟨i, hi, by rw [List.getD_eq_getElem?_getD, e]; rfl⟩
theorem start_le (h : RowO row M) {u : Int} (hu : busyU row u) : (cvOf row M).st ≤ u := by
  obtain ⟨b, r, e, e2⟩ := h.first
  show startB (blocksOf (sortP row)) ≤ u
  rw [e2]
  obtain ⟨d, hd, h1⟩ := (h.blk.cov u).mp hu
  have hg := h.blk.gap
  rw [e] at hd hg
  rcases List.mem_cons.mp hd with rfl | hd
  · exact h1.1
  · have := (List.pairwise_cons.mp hg).1 d hd
    have := h.blk.pos b (by rw [e]; exact .head _)
    have := h1.1
    omega
theorem okL_iff (h : RowO row M) {g : List Nat} (hg : ∀ i ∈ g, i < row.length) : okL row g = true ↔ CovU row (some (cvOf row M).st) g := by
  unfold okL
  rw [List.isEmpty_iff, List.filter_eq_nil_iff]
  constructor
  · intro hm u _ hu
    obtain ⟨s, hs, hsu⟩ := marks_cov (row := row) (some := pickS row g) (C := cutsL row) (fun s hs => ⟨List.mem_append_left _ (List.mem_map.mpr ⟨s, hs, rfl⟩), List.mem_append_right _ (List.mem_map.mpr ⟨s, hs, rfl⟩)⟩) (fun t ht => by
      obtain ⟨i, _, e⟩ := (mem_pick hg).mp ht
      exact List.mem_of_getElem? e) (fun c hc hb => by
      have := hm c (List.mem_filter.mpr ⟨mem_sortD.mpr hc, busyB_iff.mpr hb⟩)
      rw [Bool.not_eq_true', Bool.not_eq_false] at this
      exact busyB_iff.mp this) u hu
    obtain ⟨i, hi, e⟩ := (mem_pick hg).mp hs
    exact ⟨i, hi, s, e, hsu⟩
  · intro hc m hm hn
    have hb := busyB_iff.mp (List.mem_filter.mp hm).2
    obtain ⟨i, hi, s, e, hsu⟩ := hc m (start_le h hb) hb
    rw [busyB_iff.mpr ⟨s, (mem_pick hg).mpr ⟨i, hi, e⟩, hsu⟩] at hn
    cases hn
theorem goodG_ok (h : RowO row M) : GoodL row (some (cvOf row M).st) (fewN row (cvOf row M).nx (cvOf row M).K (some (cvOf row M).st)) (goodG row) := by
  have hc := cv_ok h
  have hno := hc.nxo
  have hst := hc.bz _ hc.sin
  have hK := hc.K _ (busy_nn hc hst)
  refine goodL_of (fun g => idxS_mem) (idxS_pw _) (fun g hg => okL_iff h (idxS_mem.mp hg).2) ?_ ?_
  · obtain ⟨c, hcm⟩ := List.exists_mem_of_ne_nil _ (chains_ne hno (cvOf row M).K (some (cvOf row M).st) hst)
    obtain ⟨a1, a2, a3⟩ := chain_ok hno hc.hM _ _ c hK hst hcm
    have nd := chain_nd hno hc.hM hK hst hcm
    refine ⟨ascN2 c, idxS_mem.mpr ⟨asc_lt nd, fun i hi => a3 i ((asc_perm c).mem_iff.mp hi)⟩, fun u hu hb => ?_, by rw [(asc_perm c).length_eq, a2]; rfl⟩
    obtain ⟨i, hi, s, e, hs⟩ := a1 u hu hb
    exact ⟨i, (asc_perm c).mem_iff.mpr hi, s, e, hs⟩
  · exact fun g _ hcv => few_le hno hc.hM _ _ g hK hst hcv
theorem goodG_ne (h : RowO row M) : ∃ g r, goodG row = g :: r := by
  have hc := cv_ok h
  have hno := hc.nxo
  have hst := hc.bz _ hc.sin
  have hK := hc.K _ (busy_nn hc hst)
  have : (goodG row).length = _ := good_len hno hc.hM hK hst (goodG_ok h)
  have hne := chains_ne hno (cvOf row M).K (some (cvOf row M).st) hst
  cases e : goodG row with
  | nil =>
    rw [e] at this
    exact absurd (List.length_eq_zero_iff.mp this.symm) hne
  | cons g r => exact ⟨g, r, rfl⟩
theorem sorted_pick {n : Nat} {g : List Nat} (h : g.Pairwise (· < ·)) (l : ∀ i ∈ g, i < n) : (List.range n).filter (fun i => decide (i ∈ g)) = g := by
  refine List.Perm.eq_of_pairwise (le := (· ≤ ·)) (fun _ _ _ _ h g => by omega) ((List.pairwise_lt_range.filter _).imp fun h => Nat.le_of_lt h) (h.imp fun h => Nat.le_of_lt h) ?_
  refine (List.perm_ext_iff_of_nodup (List.nodup_range.filter _) (h.imp fun h => Nat.ne_of_lt h)).mpr fun i => ?_
  rw [List.mem_filter, List.mem_range, decide_eq_true_eq]
  exact ⟨fun h => h.2, fun h => ⟨l i h, h⟩⟩
theorem few_good (h : RowO row M) {g : List Nat} {r : List (List Nat)} (e : goodG row = g :: r) : fewIdx row M = g := by
  have hc := cv_ok h
  have hno := hc.nxo
  have hst := hc.bz _ hc.sin
  have hK := hc.K _ (busy_nn hc hst)
  have hG := goodG_ok h
  obtain ⟨⟨c, hcm, ec⟩, hle⟩ := good_mark hno hc.hM hK hst hG e
  obtain ⟨a1, a2, _⟩ := (hG.mem g).mp (by rw [e]; exact .head _)
  have eb : bestN row (cvOf row M).nx (cvOf row M).K (some (cvOf row M).st) = markS row.length g := by
    unfold bestN
    refine mxL_is (List.mem_map.mpr ⟨c, hcm, ec⟩) fun x hx => ?_
    obtain ⟨d, hd, rfl⟩ := List.mem_map.mp hx
    exact hle d hd
  unfold fewIdx
  rw [eb]
  have e2 : (List.range row.length).filter (fun i => (markS row.length g).testBit (row.length - 1 - i)) = (List.range row.length).filter fun i => decide (i ∈ g) := List.filter_congr fun i hi => mark_bit a1 a2 i (List.mem_range.mp hi)
  rw [e2]
  exact sorted_pick a1 a2
theorem ways_good (h : RowO row M) : waysC row M = (goodG row).length := by
  have hc := cv_ok h
  have hst := hc.bz _ hc.sin
  exact (good_len hc.nxo hc.hM (hc.K _ (busy_nn hc hst)) hst (goodG_ok h)).symm
theorem some_good (h : RowO row M) : ((List.range row.length).filter fun i => decide (0 < cntC row M i)) = (List.range row.length).filter fun i => (goodG row).any fun g => decide (i ∈ g) := by
  have hc := cv_ok h
  have hst := hc.bz _ hc.sin
  refine List.filter_congr fun i _ => ?_
  rw [Bool.eq_iff_iff, decide_eq_true_eq, List.any_eq_true]
  exact (good_some hc.nxo hc.hM (hc.K _ (busy_nn hc hst)) hst (goodG_ok h) i).symm.trans ⟨fun ⟨g, h1, h2⟩ => ⟨g, h1, decide_eq_true h2⟩, fun ⟨g, h1, h2⟩ => ⟨g, h1, of_decide_eq_true h2⟩⟩
theorem each_good (h : RowO row M) : ((List.range row.length).filter fun i => decide (cntC row M i = waysC row M)) = (List.range row.length).filter fun i => (goodG row).all fun g => decide (i ∈ g) := by
  have hc := cv_ok h
  have hst := hc.bz _ hc.sin
  refine List.filter_congr fun i _ => ?_
  rw [Bool.eq_iff_iff, decide_eq_true_eq, List.all_eq_true]
  exact (good_each hc.nxo hc.hM (hc.K _ (busy_nn hc hst)) hst (goodG_ok h) i).symm.trans ⟨fun h1 g hg => decide_eq_true (h1 g hg), fun h1 g hg => of_decide_eq_true (h1 g hg)⟩
end
end Lr
set_option maxHeartbeats 1000000
namespace Lr
open PySem PySem.Spec L2
theorem anyEq_nats (i : Nat) : ∀ g : List Nat, anyEq (.int (i : Nat)) (natsV g) = some (decide (i ∈ g))
  | [] => by simp [natsV, anyEq]
  | y :: g => by
    have ih := anyEq_nats i g
    have e : natsV (y :: g) = .int (y : Nat) :: natsV g := rfl
    rw [e]
    unfold anyEq
    rw [ih]
    have e2 : eqv (.int (y : Nat)) (.int (i : Nat)) = some (y == i) := by
      simp only [eqv, Option.some.injEq]
      rw [Bool.eq_iff_iff, beq_iff_eq, beq_iff_eq]
      exact Int.ofNat_inj
    rw [e2]
    by_cases h : i = y
    · simp [h]
    · simp [h, Ne.symm h]
theorem isDL_nats : ∀ g : List Nat, isDL (natsV g) = true
  | [] => rfl
  | y :: g => by
    show (true && isDL (natsV g)) = true
    rw [isDL_nats g]
    rfl
theorem gIn_nats {i : Nat} {g : List Nat} {μ : Store} {Q : AV → Store → Prop} (h : Q (.bl (decide (i ∈ g))) μ) : wp (gIn (.int (i : Nat)) (natsT g) μ) Q := by
  have e : inB (.int (i : Nat)) (natsT g) μ = some (decide (i ∈ g)) := by simp [inB, natsT, seqOf, isD, isDL_nats, dep, anyEq_nats]
  unfold gIn
  rw [e]
  exact h
theorem lc_live9 {α : Type} {n : Nat} {xs : List α} {f r : α → AV} {p : α → Bool} {g : AG} {tt : AT} {te : AE} {ρ : Loc} {μ : Store} {QL : List AV → Store → Prop} (e : μ[n]? = some (.lst (xs.map f))) (hz : xs.length ≤ 1000000)
    (hg : ∀ a ∈ xs, ∃ ρ1, g (f a) ρ = some ρ1 ∧ wp (tt ρ1 μ) fun b μ1 => μ1 = μ ∧ b = p a ∧ (p a = true → wp (te ρ1 μ) fun y μ2 => μ2 = μ ∧ y = r a)) (h : QL ((xs.filter p).map r) μ) : wp (lcF g tt te (.live n) FUEL 0 ρ [] μ) QL := by
  refine wp_lcO (xs := xs.map f) (fun i acc σ => σ = μ ∧ i ≤ xs.length ∧ acc = ((xs.take i).filter p).map r) (fun i acc σ h => h.1 ▸ e) ?_ ?_ FUEL 0 [] μ (by rw [List.length_map]; unfold FUEL; omega) (Nat.zero_le _) ⟨rfl, Nat.zero_le _, rfl⟩
  · rintro acc σ ⟨rfl, _, rfl⟩
    rw [List.length_map, List.take_length]
    exact h
  rintro i v acc σ hv ⟨rfl, hi, rfl⟩
  rw [List.getElem?_map] at hv
  obtain ⟨a, ha, rfl⟩ := Option.map_eq_some_iff.mp hv
  have hil := (List.getElem?_eq_some_iff.mp ha).1
  obtain ⟨ρ1, e1, h1⟩ := hg a (List.mem_of_getElem? ha)
  refine ⟨ρ1, e1, h1.mono ?_⟩
  rintro b μ1 ⟨rfl, rfl, h2⟩
  have et : (xs.take (i + 1)).filter p = (xs.take i).filter p ++ if p a = true then [a] else [] := by
    rw [take_snoc9 ha, List.filter_append]
    congr 1
    by_cases z : p a = true
    · simp [z]
    · simp [z]
  by_cases hp : p a = true
  · rw [if_pos hp]
    refine (h2 hp).mono ?_
    rintro y μ2 ⟨rfl, rfl⟩
    refine ⟨?_, rfl, hil, ?_⟩
    · rw [List.length_map]
      exact Nat.lt_of_le_of_lt (List.length_filter_le _ _) (by rw [List.length_take]; omega)
    · rw [et, if_pos hp, List.map_append]
      rfl
  · rw [if_neg hp]
    refine ⟨rfl, hil, ?_⟩
    rw [et, if_neg hp, List.append_nil]
theorem lc_liveA9 {α : Type} {n : Nat} {xs : List α} {f r : α → AV} {g : AG} {te : AE} {ρ : Loc} {μ : Store} {QL : List AV → Store → Prop} (e : μ[n]? = some (.lst (xs.map f))) (hz : xs.length ≤ 1000000)
    (hg : ∀ a ∈ xs, ∃ ρ1, g (f a) ρ = some ρ1 ∧ wp (te ρ1 μ) fun y μ2 => μ2 = μ ∧ y = r a) (h : QL (xs.map r) μ) : wp (lcF g tTrue te (.live n) FUEL 0 ρ [] μ) QL := by
  refine lc_live9 (p := fun _ => true) (r := r) e hz (fun a ha => ?_) (by rw [List.filter_eq_self.mpr fun _ _ => rfl]; exact h)
  obtain ⟨ρ1, e, h1⟩ := hg a ha
  exact ⟨ρ1, e, rfl, rfl, fun _ => h1⟩
theorem fit_nat {i : Nat} (h : i ≤ 2 ^ 60) : Fit 102 0 (.int (i : Nat)) := fit_int (by
  rw [Int.natAbs_natCast]
  exact Nat.lt_of_le_of_lt h (by decide))
theorem fit_nats {g : List Nat} (h : ∀ i ∈ g, i ≤ 2 ^ 60) (l : g.length ≤ 100) : Fit 20000 1 (natsT g) := by
  have := (FitL.of_all (c := 102) (d := 0) (n := 100) (vs := natsV g) (fun v hv => by
    obtain ⟨i, hi, rfl⟩ := List.mem_map.mp hv
    exact fit_nat (h i hi)) (by unfold natsV; rw [List.length_map]; exact l)).tup
  exact this.mono (by decide) (by decide)
theorem fit_row {row : List (Int × Int)} (h : ∀ s ∈ row, 0 ≤ s.1 ∧ s.1 < s.2 ∧ s.2 ≤ 1000000000000) (l : row.length ≤ 60) : Fit 20000 2 (.tup (row.map pV)) := by
  have := (FitL.of_all (c := 300) (d := 1) (n := 60) (vs := row.map pV) (fun v hv => by
    obtain ⟨s, hs, rfl⟩ := List.mem_map.mp hv
    obtain ⟨a, b, c⟩ := h s hs
    have f1 : Fit 102 0 (.int s.1) := fit_int (Nat.lt_of_le_of_lt (m := 10 ^ 12) (by omega) (by decide))
    have f2 : Fit 102 0 (.int s.2) := fit_int (Nat.lt_of_le_of_lt (m := 10 ^ 12) (by omega) (by decide))
    exact (FitL.cons f1 (FitL.cons f2 .nil)).tup.mono (by omega) (by omega)) (by rw [List.length_map]; exact l)).tup
  exact this.mono (by decide) (by decide)
theorem marks_len {row : List (Int × Int)} : (marksL row).length ≤ 2 * row.length := by
  have h1 : (marksL row).length ≤ (sortD (cutsL row)).length := List.length_filter_le _ _
  have h2 := sortD_len9 (cutsL row)
  have h3 : (cutsL row).length = 2 * row.length := by unfold cutsL; simp; omega
  omega
theorem eq_nil9 {xs : List AV} {μ : Store} {Q : AV → Store → Prop} (hd : depL xs ≤ 100) (h : Q (.bl xs.isEmpty) μ) : wp (gEq (.lst xs) (.lst []) μ) Q := by
  refine w_gEq (r := xs.isEmpty) ?_ ?_ h
  · simp only [eqB, lsOf]
    cases xs <;> simp [eqvL]
  · simp only [depM, lsOf, depL]
    omega
theorem ne_live9 {n : Nat} {xs : List AV} {μ : Store} {Q : AV → Store → Prop} (e : μ[n]? = some (.lst xs)) (h : Q (.bl (!xs.isEmpty)) μ) : wp (gNe (.loc n) (.lst []) μ) Q := by
  refine w_gNe (r := xs.isEmpty) ?_ ?_ h
  · simp only [eqB, lsOf, e]
    cases xs <;> simp [eqvL]
  · simp only [depM, lsOf, depL]
    omega
theorem depL_ints : ∀ ns : List Int, depL (ns.map AV.int) = 0
  | [] => rfl
  | n :: ns => by rw [List.map_cons]; simp only [depL, dep, depL_ints ns]; rfl
theorem eq_same9 {x : Str} {μ : Store} {Q : AV → Store → Prop} (h : Q (.bl true) μ) : wp (gEq (.str x) (.str x) μ) Q := w_gEq eqB_str (by simp [depM, lsOf, dep]) h
def RowRight (f : Fn) : Prop := ∀ row : List (Int × Int), RowO row 1000000000000 → row.length ≤ 9 → Pure1 f [.tup (row.map pV)] (.bl true)
theorem rowright_ok (T : Nat → Fn) (hmk : LMarksOk (T i305_law_marks)) (hix : IdxOk (T i306_law_index_sets)) (hop : LOpenOk (T i307_law_open)) (hf : FewOk (T i630_fewest_spans)) (hn : CountOk (T i629_set_count)) (hs : InSomeOk (T i631_in_some_set)) (he : InEachOk (T i632_in_each_set)) : RowRight (fnR 8 1 (m633_law_row_right T)) := fun row hr hl => by
  with_reducible refine @Pure1.of' 8 1 (m633_law_row_right T) [.tup (row.map pV)] (.bl true) rfl ?_
  intro μ
  simp only [startA_s, List.map_cons, List.map_nil, List.length_cons, List.length_nil, Nat.reduceAdd, Nat.reduceSub, List.replicate_succ, List.replicate_zero, List.cons_append, List.nil_append]
  unfold m633_law_row_right
  obtain ⟨D, eD, kD⟩ := (fit_row hr.ok hr.len).rep (by decide) (by decide)
  refine o_seq (o_par (w_cons (w_call (w_cons (w_var rfl (w_nil ((hmk row (by omega) μ).mono ?_)))))))
  rintro v σ ⟨rfl, rfl⟩
  refine w_cons (w_cb (w_cons (w_var rfl (w_nil (w_repr eD kD (w_cons (w_new (w_lst (w_nil ⟨by simp, w_nil ⟨by simp, _, rfl, ?_⟩⟩)))))))))
  have eg : ∀ xs : List AV, (σ ++ [AO.lst xs])[σ.length]? = some (.lst xs) := fun xs => app_get9 σ _ 0
  have es : ∀ xs ys : List AV, (σ ++ [AO.lst xs]).set σ.length (.lst ys) = σ ++ [.lst ys] := fun xs ys => app_set0 σ _ _ _
  have hrow : ∀ {g : List Nat}, (∀ i ∈ g, i < row.length) → ∀ i ∈ g, atI (row.map pV) (i : Nat) = some (pV (row.getD i (0, 0))) := fun {g} hg i hi => by
    have := hg i hi
    rw [atI_nn (by omega) (by rw [List.length_map]; omega), Int.toNat_natCast, List.getElem?_map, List.getElem?_eq_getElem this, List.getD_eq_getElem?_getD, List.getElem?_eq_getElem this]
    rfl
  refine o_seq2 (fun ρ1 τ => (∃ x4 x7 : Option AV, ρ1 = [some (.tup (row.map pV)), some (.lst ((marksL row).map AV.int)), some (.str D.shown), some (.loc σ.length), x4, none, none, x7]) ∧ τ = σ ++ [.lst ((goodG row).map natsT)]) ?_ ?_
  · refine o_for (w_anyL (w_call (w_cons (w_cb (w_cons (w_var rfl (w_nil (w_lenT (w_nil ?_)))))))))
    rw [List.length_map]
    refine (hix.ok row.length (by omega) _).mono ?_
    rintro v τ ⟨rfl, rfl⟩
    refine ⟨_, rfl, ?_⟩
    have hL : (idxS row.length).length ≤ 4096 := by
      unfold idxS
      rw [(List.mergeSort_perm _ _).length_eq, idxF_len]
      exact pow12 (by omega)
    refine wo_dat (fun i ρ τ => (∃ x4 x7 : Option AV, ρ = [some (.tup (row.map pV)), some (.lst ((marksL row).map AV.int)), some (.str D.shown), some (.loc σ.length), x4, none, none, x7]) ∧ i ≤ (idxS row.length).length ∧ ∃ G : List (List Nat), G.length ≤ i ∧ τ = σ ++ [.lst (G.map natsT)] ∧ goodF (okL row) G ((idxS row.length).drop i) = goodG row) ?_ ?_ FUEL 0 _ _ (by rw [List.length_map]; unfold FUEL; omega) (Nat.zero_le _) ⟨⟨_, _, rfl⟩, Nat.zero_le _, [], Nat.zero_le _, rfl, rfl⟩
    · rintro ρ τ ⟨hρ, _, G, _, rfl, hG⟩
      rw [List.length_map, List.drop_length] at hG
      have hG : G = goodG row := hG
      exact ⟨hρ, by rw [hG]⟩
    · rintro i v ρ τ hv ⟨⟨x4, x7, rfl⟩, hi, G, hGl, rfl, hG⟩
      rw [List.getElem?_map] at hv
      obtain ⟨g, hg, rfl⟩ := Option.map_eq_some_iff.mp hv
      have hi2 := (List.getElem?_eq_some_iff.mp hg).1
      have edr : (idxS row.length).drop i = g :: (idxS row.length).drop (i + 1) := by
        rw [List.drop_eq_getElem_cons hi2, (List.getElem?_eq_some_iff.mp hg).2]
      rw [edr] at hG
      have hgm := idxS_mem.mp (List.mem_of_getElem? hg)
      have hgl : g.length ≤ 9 := Nat.le_trans (nodup_len (hgm.1.imp fun h => Nat.ne_of_lt h) hgm.2) hl
      refine ⟨_, rfl, ?_⟩
      have second : ∀ D' : Kt, (goodF (okL row) (if okL row g then G ++ [g] else G) ((idxS row.length).drop (i + 1)) = goodG row) → (∀ ρ τ, ((∃ x4 x7 : Option AV, ρ = [some (.tup (row.map pV)), some (.lst ((marksL row).map AV.int)), some (.str D.shown), some (.loc σ.length), x4, none, none, x7]) ∧ i + 1 ≤ (idxS row.length).length ∧ ∃ G : List (List Nat), G.length ≤ i + 1 ∧ τ = σ ++ [.lst (G.map natsT)] ∧ goodF (okL row) G ((idxS row.length).drop (i + 1)) = goodG row) → D'.nx ρ τ) →
          wo (sIf (tB1 (eOp gEq (eCall (T i307_law_open) (aCons (eVar 1) (aCons (eDat (aLc (iAny (eVar 4)) [7] (gNm 7) tTrue (eOp gIx (eVar 0) (eVar 7)))) aNil))) (eDat (aLst aNil)))) (sExpr (eApp2 (eVar 3) (eVar 4))) sNil [some (.tup (row.map pV)), some (.lst ((marksL row).map AV.int)), some (.str D.shown), some (.loc σ.length), some (natsT g), none, none, x7] (σ ++ [.lst (G.map natsT)])) D' := fun D' hG' hk => by
        refine o_if (w_b1 (w_op (w_call (w_cons (w_var rfl (w_cons (w_dat (w_lcU (w_anyT (w_var rfl ⟨_, rfl, ?_⟩))))))))))
        refine lc_all9 (f := fun i : Nat => AV.int (i : Nat)) (r := fun i => pV (row.getD i (0, 0))) (by omega) (fun i hi => ⟨_, rfl, w_op (w_var rfl (w_var rfl (w_ixT (hrow hgm.2 i hi) ⟨rfl, rfl⟩)))⟩) ?_
        have ep : (g.map fun i => pV (row.getD i (0, 0))) = (pickS row g).map pV := by
          unfold pickS
          rw [List.map_map]
          rfl
        rw [ep]
        have hml := marks_len (row := row)
        refine w_nil ((hop (marksL row) (pickS row g) (by omega) (by unfold pickS; rw [List.length_map]; omega) _).mono ?_)
        rintro v τ ⟨rfl, rfl⟩
        refine w_dat (w_lst (w_nil ⟨by simp, eq_nil9 (by rw [depL_ints]; omega) ⟨_, rfl, ?_⟩⟩))
        have eo : ((((marksL row).filter fun m => !busyB (pickS row g) m)).map AV.int).isEmpty = okL row g := by
          unfold okL
          rw [List.isEmpty_map]
        rw [eo]
        by_cases z : okL row g = true
        · rw [if_pos z] at hG' ⊢
          refine o_expr (w_app (w_var rfl ⟨by simp [isLs, lsOf, eg], w_var rfl ⟨_, _, rfl, eg _, by rw [List.length_map]; omega, ?_⟩⟩))
          rw [es]
          exact hk _ _ ⟨⟨_, _, rfl⟩, hi2, G ++ [g], by rw [List.length_append, List.length_singleton]; omega, by rw [List.map_append]; rfl, hG'⟩
        · rw [if_neg z] at hG' ⊢
          exact hk _ _ ⟨⟨_, _, rfl⟩, hi2, G, by omega, rfl, hG'⟩
      refine o_seq (o_if (w_an (w_b1 (w_op (w_var rfl (w_dat (w_lst (w_nil ⟨by simp, ne_live9 (eg _) ⟨_, rfl, ?_⟩⟩))))))))
      cases G with
      | nil =>
        rw [if_neg (by simp), if_neg (by simp)]
        refine o_nil (second _ ?_ fun _ _ h => h)
        rw [goodF, if_neg (fun z => z.1 rfl)] at hG
        exact hG
      | cons g0 G =>
        rw [if_pos (by simp)]
        refine w_b1 (w_op (w_cb (w_cons (w_var rfl (w_nil (w_lenT (w_cb (w_cons (w_op (w_var rfl (w_c (w_ixO (eg _) (v := natsT g0) atI_09 (w_nil (w_lenT (w_gt ⟨_, rfl, ?_⟩)))))))))))))))
        unfold natsV
        rw [List.length_map, List.length_map]
        rw [goodF] at hG
        by_cases z : g0.length < g.length
        · rw [if_pos (by simpa using z)]
          rw [if_pos ⟨by simp, z⟩] at hG
          refine ⟨⟨_, _, rfl⟩, by rw [hG]⟩
        · rw [if_neg (by simpa using z)]
          rw [if_neg (fun y => z y.2)] at hG
          exact o_nil (second _ hG fun _ _ h => h)
  rintro ρ1 τ ⟨⟨x4, x7, rfl⟩, rfl⟩
  obtain ⟨g, r, eg0⟩ := goodG_ne hr
  have e1 := few_good hr eg0
  have e2 := ways_good hr
  have e3 := some_good hr
  have e4 := each_good hr
  have hway : (goodG row).length ≤ 2 ^ 60 := by
    rw [← e2]
    have hc := cv_ok hr
    have hst := hc.bz _ hc.sin
    exact Nat.le_trans (chains_len hc.nxo hc.hM (hc.K _ (busy_nn hc hst)) hst) (Nat.pow_le_pow_right (by decide) hr.len)
  have hGl : (goodG row).length ≤ 4096 := by
    have hsub : ∀ x ∈ goodG row, x ∈ idxF row.length := fun x hx => by
      obtain ⟨a1, a2, _⟩ := ((goodG_ok hr).mem x).mp hx
      exact idx_mem.mpr ⟨a1, a2⟩
    have hnd : (goodG row).Nodup := (goodG_ok hr).srt.imp fun {a b} h (e : a = b) => by subst e; exact lex_irr h
    have := List.Nodup.length_le_of_subset hnd hsub
    rw [idxF_len] at this
    exact Nat.le_trans this (pow12 (by omega))
  have hgm := ((goodG_ok hr).mem g).mp (by rw [eg0]; exact .head _)
  have lt60 : row.length ≤ 2 ^ 60 := Nat.le_trans hr.len (by decide)
  obtain ⟨Dg, eDg, kDg⟩ := (fit_nats (g := g) (fun i hi => Nat.le_trans (Nat.le_of_lt (hgm.2.1 i hi)) lt60) (Nat.le_trans (nodup_len (hgm.1.imp fun h => Nat.ne_of_lt h) hgm.2.1) (by omega))).rep (by decide) (by decide)
  have ffit : ∀ p : Nat → Bool, ∃ D, toD (natsT ((List.range row.length).filter p)) = some D ∧ repOk D = true := fun p => (fit_nats (fun i hi => Nat.le_trans (Nat.le_of_lt (List.mem_range.mp (List.mem_filter.mp hi).1)) lt60) (Nat.le_trans (List.length_filter_le _ _) (by rw [List.length_range]; omega))).rep (by decide) (by decide)
  obtain ⟨Dn, eDn, kDn⟩ := (fit_nat hway).rep (by decide) (by decide)
  obtain ⟨Ds, eDs, kDs⟩ := ffit fun i => (goodG row).any fun g => decide (i ∈ g)
  obtain ⟨De, eDe, kDe⟩ := ffit fun i => (goodG row).all fun g => decide (i ∈ g)
  have a0 : atI ((goodG row).map natsT) 0 = some (natsT g) := by rw [eg0]; exact atI_09
  refine o_seq (o_if (w_orr (w_b1 (w_op (w_cb (w_cons (w_call (w_cons (w_var rfl (w_nil ((hf row _ hr _).mono ?_)))))))))))
  rintro v τ ⟨rfl, rfl⟩
  rw [e1]
  refine w_nil (w_repr (x := natsT g) eDg kDg (w_cb (w_cons (w_op (w_var rfl (w_c (w_ixO (eg _) a0 (w_nil (w_repr eDg kDg (ne_same ⟨_, rfl, ?_⟩))))))))))
  rw [if_neg (by simp)]
  refine w_b1 (w_op (w_cb (w_cons (w_call (w_cons (w_var rfl (w_nil ((hn row _ hr _).mono ?_))))))))
  rintro v τ ⟨rfl, rfl⟩
  rw [e2]
  refine w_nil (w_repr eDn kDn (w_cb (w_cons (w_cb (w_cons (w_var rfl (w_nil (w_lenO (eg _) ?_))))))))
  rw [List.length_map]
  refine w_nil (w_repr eDn kDn (ne_same ⟨_, rfl, ?_⟩))
  rw [if_neg (by simp)]
  refine o_nil ?_
  refine o_seq (o_set (w_dat (w_lRg (w_cb (w_cons (w_var rfl (w_nil (w_lenT ⟨_, rfl, by omega, by rw [List.length_map]; omega, ?_⟩))))))))
  rw [List.length_map, Int.toNat_natCast, rangeL0]
  have inner : ∀ (i : Nat) (ρ : Loc) (Q : List AV → Store → Prop), ρ[3]? = some (some (.loc σ.length)) → (∀ (v : AV), ((wipeA ρ [4]).set 4 (some v))[7]? = some (some (.int (i : Nat)))) → (∀ (v : AV), ((wipeA ρ [4]).set 4 (some v))[4]? = some (some v)) → 4 < (wipeA ρ [4]).length → Q ((goodG row).map fun g => AV.bl (decide (i ∈ g))) (σ ++ [.lst ((goodG row).map natsT)]) → wp (aLc (iAny (eVar 3)) [4] (gNm 4) tTrue (eOp gIn (eVar 7) (eVar 4)) ρ (σ ++ [.lst ((goodG row).map natsT)])) Q := fun i ρ Q h3 h7 h4 hl hq => by
    refine w_lcU (w_anyO (w_var h3 ⟨_, _, rfl, eg _, ?_⟩))
    refine lc_liveA9 (f := natsT) (r := fun g => .bl (decide (i ∈ g))) (eg _) (by omega) (fun g _ => ⟨(wipeA ρ [4]).set 4 (some (natsT g)), by simp [gNm, hl], w_op (w_var (h7 _) (w_var (h4 _) (gIn_nats ⟨rfl, rfl⟩)))⟩) hq
  refine o_seq (o_set (w_cb (w_cons (w_dat (w_lcU (w_anyL (w_var rfl ⟨_, rfl, ?_⟩)))))))
  refine lc_map9 (f := fun i : Nat => AV.int (i : Nat)) (p := fun i => (goodG row).any fun g => decide (i ∈ g)) (r := fun i => .int (i : Nat)) (by rw [List.length_range]; omega) (fun i _ => ⟨_, rfl, w_tr (w_cb (w_cons (w_dat (inner i _ _ rfl (fun _ => rfl) (fun _ => rfl) (Nat.lt_of_lt_of_eq (m := 8) (by decide) rfl) (w_nil (w_any9 (blsOf_map9 _) ⟨_, rfl, rfl, any_map9 _, fun _ => w_var rfl ⟨rfl, rfl⟩⟩))))))⟩) ?_
  refine w_nil (w_tupL ?_)
  refine o_seq (o_if (w_b1 (w_op (w_cb (w_cons (w_call (w_cons (w_var rfl (w_nil ((hs row _ hr _).mono ?_))))))))))
  rintro v τ ⟨rfl, rfl⟩
  rw [e3]
  refine w_nil (w_repr (x := natsT _) eDs kDs (w_cb (w_cons (w_var rfl (w_nil (w_repr eDs kDs (ne_same ⟨_, rfl, ?_⟩)))))))
  rw [if_neg (by simp)]
  refine o_nil ?_
  refine o_seq (o_set (w_cb (w_cons (w_dat (w_lcU (w_anyL (w_var rfl ⟨_, rfl, ?_⟩)))))))
  refine lc_map9 (f := fun i : Nat => AV.int (i : Nat)) (p := fun i => (goodG row).all fun g => decide (i ∈ g)) (r := fun i => .int (i : Nat)) (by rw [List.length_range]; omega) (fun i _ => ⟨_, rfl, w_tr (w_cb (w_cons (w_dat (inner i _ _ rfl (fun _ => rfl) (fun _ => rfl) (Nat.lt_of_lt_of_eq (m := 8) (by decide) rfl) (w_nil (w_all9 (blsOf_map9 _) ⟨_, rfl, rfl, all_map9 _, fun _ => w_var rfl ⟨rfl, rfl⟩⟩))))))⟩) ?_
  refine w_nil (w_tupL ?_)
  refine o_ret (w_eAn (w_op (w_cb (w_cons (w_call (w_cons (w_var rfl (w_nil ((he row _ hr _).mono ?_)))))))))
  rintro v τ ⟨rfl, rfl⟩
  rw [e4]
  refine w_nil (w_repr (x := natsT _) eDe kDe (w_cb (w_cons (w_var rfl (w_nil (w_repr eDe kDe (eq_same9 ⟨_, rfl, ?_⟩)))))))
  rw [if_pos rfl]
  exact w_op (w_cb (w_cons (w_var rfl (w_nil (w_repr eD kD (w_var rfl (eq_same9 ⟨List.prefix_append _ _, rfl, rfl⟩)))))))
end Lr
set_option maxHeartbeats 1000000
namespace Lr
open PySem PySem.Spec L2
def Right59 (f : Fn) : Prop := ∀ n : Nat, Draws f n [.loc n] 9000 (fun v => v = .bl true)
theorem right59_ok (T : Nat → Fn) (hr : RowRight (T i633_law_row_right)) (hl : LRow9 (T i288_law_row)) : Right59 (fnR 2 1 (m634_law_right T)) := fun n => by
  with_reducible refine @Draws.of n 1 2 9000 (m634_law_right T) [.loc n] _ rfl ?_
  intro μ B hb hs
  simp only [startA_s, List.map_cons, List.map_nil, List.length_cons, List.length_nil, Nat.reduceAdd, Nat.reduceSub, List.replicate_succ, List.replicate_zero, List.cons_append, List.nil_append]
  unfold m634_law_right
  decreasing_trivial_pre_omega
  refine ⟨by decide, by decide, ?_⟩
  rw [show (8 : Int) = ((8 : Nat) : Int) from rfl, Int.toNat_natCast, rangeL0]
  have hlen : (natsV (List.range 8)).length = 8 := rfl
  refine wp_lc (xs := natsV (List.range 8)) (fun i acc τ => acc = List.replicate i (AV.bl true) ∧ Ext n μ τ ∧ Hst τ n (B + 1000 * i)) (by rw [hlen]; omega) (fun i acc τ h => by rw [h.1, List.length_replicate]) ?_ ?_ FUEL 0 _ _ (by rw [hlen]; unfold FUEL; omega) (Nat.zero_le _) ⟨rfl, Ext.refl _ _, hs⟩
  · rintro acc τ ⟨rfl, x, h⟩
    rw [hlen] at h ⊢
    exact w_nil (w_all9 (bs := List.replicate 8 true) rfl ⟨rfl, x, h.le (by omega), rfl⟩)
  · rintro i v acc τ hv ⟨rfl, x, h⟩
    have hi := (List.getElem?_eq_some_iff.mp hv).1
    rw [hlen] at hi
    refine ⟨_, rfl, w_call (w_cons (w_call (w_cons (w_var rfl (w_cons (w_c (w_nil ((hl n 9 (by decide) (by decide) τ _ (by omega) h).mono ?_))))))))⟩
    rintro v σ ⟨s1, h1, _, xs, rfl, l1, l2, hsp⟩
    obtain ⟨row, rfl, hrow⟩ := spans_pairs hsp
    rw [List.length_map] at l1 l2
    refine w_nil ((hr row ⟨fun e => by rw [e] at l1; simp at l1, by omega, hrow⟩ (by omega) σ).mono ?_)
    rintro v τ2 ⟨rfl, rfl⟩
    exact ⟨by rw [List.replicate_succ'], x.step s1, h1.le (by omega)⟩
theorem law59_ok (T : Nat → Fn) (hh : HandOk (T i13_law_hand)) (hr : Right59 (T i634_law_right)) (ns : List Int) : wp (fnR 2 1 (m1026_law T) [.scr ns] []) fun v _ => v = .bl true := by
  refine fn_wp rfl ?_
  simp only [startA_s, List.map_cons, List.map_nil, List.length_cons, List.length_nil, Nat.reduceAdd, Nat.reduceSub, List.replicate_succ, List.replicate_zero, List.cons_append, List.nil_append]
  unfold m1026_law
  decreasing_trivial_pre_omega
  have b : ∃ j : Int, (if (if (ns.length : Int) < 3 then (ns.length : Int) else 3) > 1 then (if (ns.length : Int) < 3 then (ns.length : Int) else 3) else 1) = j ∧ 1 ≤ j ∧ j ≤ 3 := ⟨_, rfl, by split <;> split <;> omega, by split <;> split <;> omega⟩
  obtain ⟨j, ej, j1, j2⟩ := b
  rw [ej]
  refine ⟨by omega, by omega, ?_⟩
  have hrl : (rangeL 0 j.toNat).length = j.toNat := by simp [rangeL]
  refine wp_lc (fun i acc σ => acc = List.replicate i (AV.bl true)) (by rw [hrl]; omega) (fun i acc σ h => by rw [h, List.length_replicate]) ?_ ?_ FUEL 0 _ _ (by rw [hrl]; unfold FUEL; omega) (by omega) rfl
  · rintro acc σ rfl
    refine w_nil (w_all9 (bs := List.replicate (rangeL 0 j.toNat).length true) ?_ ?_)
    · generalize (rangeL 0 j.toNat).length = m
      induction m with
      | zero => rfl
      | succ m ih => rw [List.replicate_succ, List.replicate_succ]; simp only [blsOf, ih, Option.map_some]
    · refine ⟨rfl, fun i o hi => absurd hi (by simp), ?_⟩
      simp
  · rintro i v acc σ hv rfl
    obtain ⟨rfl, hi⟩ := rng_mem hv
    refine ⟨_, rfl, ?_⟩
    decreasing_trivial_pre_omega
    refine (hh ns i σ (by omega) (by omega)).mono fun u τ ⟨e1, e2, e3, e4⟩ => ?_
    subst e1
    decreasing_trivial_pre_omega
    refine (hr σ.length τ 0 (by decide) e4).mono fun u τ2 ⟨s1, g1, p1, e⟩ => ?_
    subst e
    rw [← List.replicate_succ']
end Lr
namespace Lr.Own
open PySem PySem.Spec L2 Lr
open PyProof.Rows hiding St
def topS (i : Nat) : Stmt := PySem.Challenge.pw_leanrefs_k59_fewest_spans_by_all_sets.main.body.getD i (.Pass ⟨0, 0, 0, 0⟩)
abbrev s_blocks_of : Stmt := topS 1
theorem sc_blocks_of : FnScope ["spans", "found", "begin", "end"] ["spans"] (defScope s_blocks_of) := ⟨rfl, rfl, rfl, by decide +kernel, rfl, by decide +kernel, by decide +kernel⟩
abbrev s_Covers___init__ : Stmt := (clsB (topS 2)).getD 0 (.Pass ⟨0, 0, 0, 0⟩)
theorem sc_Covers___init__ : FnScope ["self", "row", "place", "begin", "end"] ["self", "row"] (defScope s_Covers___init__) := ⟨rfl, rfl, rfl, by decide +kernel, rfl, by decide +kernel, by decide +kernel⟩
abbrev s_Covers_busy_from : Stmt := (clsB (topS 2)).getD 1 (.Pass ⟨0, 0, 0, 0⟩)
theorem sc_Covers_busy_from : FnScope ["self", "place", "begin", "end"] ["self", "place"] (defScope s_Covers_busy_from) := ⟨rfl, rfl, rfl, by decide +kernel, rfl, by decide +kernel, by decide +kernel⟩
abbrev s_Covers_look_at : Stmt := (clsB (topS 2)).getD 2 (.Pass ⟨0, 0, 0, 0⟩)
theorem sc_Covers_look_at : FnScope ["self", "place", "some", "least", "marks", "index", "begin", "end"] ["self", "place"] (defScope s_Covers_look_at) := ⟨rfl, rfl, rfl, by decide +kernel, rfl, by decide +kernel, by decide +kernel⟩
abbrev s_Covers_mark : Stmt := (clsB (topS 2)).getD 3 (.Pass ⟨0, 0, 0, 0⟩)
theorem sc_Covers_mark : FnScope ["self", "index"] ["self", "index"] (defScope s_Covers_mark) := ⟨rfl, rfl, rfl, by decide +kernel, rfl, by decide +kernel, by decide +kernel⟩
abbrev s_Covers_uses : Stmt := (clsB (topS 2)).getD 4 (.Pass ⟨0, 0, 0, 0⟩)
theorem sc_Covers_uses : FnScope ["self", "before", "found", "place", "index", "later"] ["self"] (defScope s_Covers_uses) := ⟨rfl, rfl, rfl, by decide +kernel, rfl, by decide +kernel, by decide +kernel⟩
abbrev s_fewest_spans : Stmt := topS 3
theorem sc_fewest_spans : FnScope ["row", "covers", "marks", "index"] ["row"] (defScope s_fewest_spans) := ⟨rfl, rfl, rfl, by decide +kernel, rfl, by decide +kernel, by decide +kernel⟩
abbrev s_set_count : Stmt := topS 4
theorem sc_set_count : FnScope ["row", "covers"] ["row"] (defScope s_set_count) := ⟨rfl, rfl, rfl, by decide +kernel, rfl, by decide +kernel, by decide +kernel⟩
abbrev s_in_some_set : Stmt := topS 5
theorem sc_in_some_set : FnScope ["row", "index", "many"] ["row"] (defScope s_in_some_set) := ⟨rfl, rfl, rfl, by decide +kernel, rfl, by decide +kernel, by decide +kernel⟩
abbrev s_in_each_set : Stmt := topS 6
theorem sc_in_each_set : FnScope ["row", "total", "index", "many"] ["row"] (defScope s_in_each_set) := ⟨rfl, rfl, rfl, by decide +kernel, rfl, by decide +kernel, by decide +kernel⟩
abbrev s__law_hand : Stmt := topS 8
theorem sc__law_hand : FnScope ["_law_script", "_law_k", "_law_cell", "_law_great"] ["_law_script", "_law_k"] (defScope s__law_hand) := ⟨rfl, rfl, rfl, by decide +kernel, rfl, by decide +kernel, by decide +kernel⟩
abbrev s__law_take : Stmt := topS 9
theorem sc__law_take : FnScope ["_law_hand_here", "_law_many", "_law_digit", "_law_prime", "_law_drawn"] ["_law_hand_here", "_law_many"] (defScope s__law_take) := ⟨rfl, rfl, rfl, by decide +kernel, rfl, by decide +kernel, by decide +kernel⟩
abbrev s__law_of : Stmt := topS 10
theorem sc__law_of : FnScope ["_law_hand_here", "_law_some"] ["_law_hand_here", "_law_some"] (defScope s__law_of) := ⟨rfl, rfl, rfl, by decide +kernel, rfl, by decide +kernel, by decide +kernel⟩
abbrev s__law_row : Stmt := topS 11
theorem sc__law_row : FnScope ["_law_hand_here", "_law_most", "_law_reach", "_law_found", "_law_longest", "_law_turn", "_law_begin", "_law_end"] ["_law_hand_here", "_law_most"] (defScope s__law_row) := ⟨rfl, rfl, rfl, by decide +kernel, rfl, by decide +kernel, by decide +kernel⟩
abbrev s__law_marks : Stmt := topS 12
theorem sc__law_marks : FnScope ["_law_row_here", "_law_cuts", "_law_begin", "_law_end", "_law_cut"] ["_law_row_here"] (defScope s__law_marks) := ⟨rfl, rfl, rfl, by decide +kernel, rfl, by decide +kernel, by decide +kernel⟩
abbrev s__law_has : Stmt := topS 13
theorem sc__law_has : FnScope ["_law_span", "_law_unit"] ["_law_span", "_law_unit"] (defScope s__law_has) := ⟨rfl, rfl, rfl, by decide +kernel, rfl, by decide +kernel, by decide +kernel⟩
abbrev s__law_open : Stmt := topS 14
theorem sc__law_open : FnScope ["_law_marks_here", "_law_some", "_law_mark", "_law_span"] ["_law_marks_here", "_law_some"] (defScope s__law_open) := ⟨rfl, rfl, rfl, by decide +kernel, rfl, by decide +kernel, by decide +kernel⟩
abbrev s__law_index_sets : Stmt := topS 15
theorem sc__law_index_sets : FnScope ["_law_many", "_law_found", "_law_index", "_law_some"] ["_law_many"] (defScope s__law_index_sets) := ⟨rfl, rfl, rfl, by decide +kernel, rfl, by decide +kernel, by decide +kernel⟩
abbrev s__law_row_right : Stmt := topS 16
theorem sc__law_row_right : FnScope ["_law_row_here", "_law_marks_here", "_law_held", "_law_good", "_law_some", "_law_every", "_law_due", "_law_index"] ["_law_row_here"] (defScope s__law_row_right) := ⟨rfl, rfl, rfl, by decide +kernel, rfl, by decide +kernel, by decide +kernel⟩
abbrev s__law_right : Stmt := topS 17
theorem sc__law_right : FnScope ["_law_hand_here", "_law_turn"] ["_law_hand_here"] (defScope s__law_right) := ⟨rfl, rfl, rfl, by decide +kernel, rfl, by decide +kernel, by decide +kernel⟩
abbrev s_law : Stmt := topS 18
theorem sc_law : FnScope ["_law_script", "_law_k"] ["_law_script"] (defScope s_law) := ⟨rfl, rfl, rfl, by decide +kernel, rfl, by decide +kernel, by decide +kernel⟩
def psT : Nat → List Str
  | 293 => ["spans"]
  | 626 => ["self", "row"]
  | 625 => ["self", "place"]
  | 1019 => ["self", "place"]
  | 756 => ["self", "index"]
  | 757 => ["self"]
  | 630 => ["row"]
  | 629 => ["row"]
  | 631 => ["row"]
  | 632 => ["row"]
  | 13 => ["_law_script", "_law_k"]
  | 2 => ["_law_hand_here", "_law_many"]
  | 3 => ["_law_hand_here", "_law_some"]
  | 288 => ["_law_hand_here", "_law_most"]
  | 305 => ["_law_row_here"]
  | 295 => ["_law_span", "_law_unit"]
  | 307 => ["_law_marks_here", "_law_some"]
  | 306 => ["_law_many"]
  | 633 => ["_law_row_here"]
  | 634 => ["_law_hand_here"]
  | 1026 => ["_law_script"]
  | _ => []
def ids : List Nat := [293, 626, 625, 1019, 756, 757, 630, 629, 631, 632, 13, 2, 3, 288, 305, 295, 307, 306, 633, 634, 1026]
noncomputable def tab (T : Nat → Fn) : Nat → Fn
  | 293 => fnR 4 1 (m293_blocks_of T)
  | 626 => fnR 5 2 (m626_Covers___init T)
  | 625 => fnR 4 2 (m625_Covers_busy_from T)
  | 1019 => fnR 8 2 (m1019_Covers_look_at T)
  | 756 => fnR 2 2 (m756_Covers_mark T)
  | 757 => fnR 6 1 (m757_Covers_uses T)
  | 630 => fnR 4 1 (m630_fewest_spans T)
  | 629 => fnR 2 1 (m629_set_count T)
  | 631 => fnR 3 1 (m631_in_some_set T)
  | 632 => fnR 4 1 (m632_in_each_set T)
  | 13 => fnR 4 2 (m13_law_hand T)
  | 2 => fnR 5 2 (m2_law_take T)
  | 3 => fnR 2 2 (m3_law_of T)
  | 288 => fnR 8 2 (m288_law_row T)
  | 305 => fnR 5 1 (m305_law_marks T)
  | 295 => fnR 2 2 (m295_law_has T)
  | 307 => fnR 4 2 (m307_law_open T)
  | 306 => fnR 4 1 (m306_law_index_sets T)
  | 633 => fnR 8 1 (m633_law_row_right T)
  | 634 => fnR 2 1 (m634_law_right T)
  | 1026 => fnR 2 1 (m1026_law T)
  | _ => fun _ _ => .bad
noncomputable def T : Nat → Nat → Fn
  | 0 => fun _ _ _ => .bad
  | k + 1 => tab (T k)
structure Md (K : PySem.W.Frag) (mg : Str → Option Value) (κ : Kap) (w : World) (f : Nat → Addr) (fd : Nat → FuncData) (cL pL : Nat → Addr) : Prop where
  hw : κ.w = some w
  co__law_index_sets : (fd i306_law_index_sets).code = .ref (cL i306_law_index_sets)
  hm__law_index_sets : (pL i306_law_index_sets, (PyProof.Rows.envOfC "_law_index_sets" (defScope s__law_index_sets) 0 0 .none).qual ++ ("<lambda>" : Str)) ∈ κ.T
  hu__law_index_sets : ∀ p ∈ κ.T, p.1 = pL i306_law_index_sets → p.2 = (PyProof.Rows.envOfC "_law_index_sets" (defScope s__law_index_sets) 0 0 .none).qual ++ ("<lambda>" : Str)
  F_blocks_of : Fun K "blocks_of" "blocks_of" s_blocks_of (f i293_blocks_of) (fd i293_blocks_of)
  g_blocks_of : mg "blocks_of" = some (.ref (f i293_blocks_of))
  a_blocks_of : Binds K (fd i293_blocks_of) ["spans"] []
  F_Covers___init__ : Fun K "__init__" "Covers.__init__" s_Covers___init__ (f i626_Covers___init) (fd i626_Covers___init)
  a_Covers___init__ : Binds K (fd i626_Covers___init) ["self", "row"] []
  F_Covers_busy_from : Fun K "busy_from" "Covers.busy_from" s_Covers_busy_from (f i625_Covers_busy_from) (fd i625_Covers_busy_from)
  a_Covers_busy_from : Binds K (fd i625_Covers_busy_from) ["self", "place"] []
  F_Covers_look_at : Fun K "look_at" "Covers.look_at" s_Covers_look_at (f i1019_Covers_look_at) (fd i1019_Covers_look_at)
  a_Covers_look_at : Binds K (fd i1019_Covers_look_at) ["self", "place"] []
  F_Covers_mark : Fun K "mark" "Covers.mark" s_Covers_mark (f i756_Covers_mark) (fd i756_Covers_mark)
  a_Covers_mark : Binds K (fd i756_Covers_mark) ["self", "index"] []
  F_Covers_uses : Fun K "uses" "Covers.uses" s_Covers_uses (f i757_Covers_uses) (fd i757_Covers_uses)
  a_Covers_uses : Binds K (fd i757_Covers_uses) ["self"] []
  F_fewest_spans : Fun K "fewest_spans" "fewest_spans" s_fewest_spans (f i630_fewest_spans) (fd i630_fewest_spans)
  g_fewest_spans : mg "fewest_spans" = some (.ref (f i630_fewest_spans))
  a_fewest_spans : Binds K (fd i630_fewest_spans) ["row"] []
  F_set_count : Fun K "set_count" "set_count" s_set_count (f i629_set_count) (fd i629_set_count)
  g_set_count : mg "set_count" = some (.ref (f i629_set_count))
  a_set_count : Binds K (fd i629_set_count) ["row"] []
  F_in_some_set : Fun K "in_some_set" "in_some_set" s_in_some_set (f i631_in_some_set) (fd i631_in_some_set)
  g_in_some_set : mg "in_some_set" = some (.ref (f i631_in_some_set))
  a_in_some_set : Binds K (fd i631_in_some_set) ["row"] []
  F_in_each_set : Fun K "in_each_set" "in_each_set" s_in_each_set (f i632_in_each_set) (fd i632_in_each_set)
  g_in_each_set : mg "in_each_set" = some (.ref (f i632_in_each_set))
  a_in_each_set : Binds K (fd i632_in_each_set) ["row"] []
  F__law_hand : Fun K "_law_hand" "_law_hand" s__law_hand (f i13_law_hand) (fd i13_law_hand)
  g__law_hand : mg "_law_hand" = some (.ref (f i13_law_hand))
  a__law_hand : Binds K (fd i13_law_hand) ["_law_script", "_law_k"] []
  F__law_take : Fun K "_law_take" "_law_take" s__law_take (f i2_law_take) (fd i2_law_take)
  g__law_take : mg "_law_take" = some (.ref (f i2_law_take))
  a__law_take : Binds K (fd i2_law_take) ["_law_hand_here", "_law_many"] []
  F__law_of : Fun K "_law_of" "_law_of" s__law_of (f i3_law_of) (fd i3_law_of)
  g__law_of : mg "_law_of" = some (.ref (f i3_law_of))
  a__law_of : Binds K (fd i3_law_of) ["_law_hand_here", "_law_some"] []
  F__law_row : Fun K "_law_row" "_law_row" s__law_row (f i288_law_row) (fd i288_law_row)
  g__law_row : mg "_law_row" = some (.ref (f i288_law_row))
  a__law_row : Binds K (fd i288_law_row) ["_law_hand_here", "_law_most"] []
  F__law_marks : Fun K "_law_marks" "_law_marks" s__law_marks (f i305_law_marks) (fd i305_law_marks)
  g__law_marks : mg "_law_marks" = some (.ref (f i305_law_marks))
  a__law_marks : Binds K (fd i305_law_marks) ["_law_row_here"] []
  F__law_has : Fun K "_law_has" "_law_has" s__law_has (f i295_law_has) (fd i295_law_has)
  g__law_has : mg "_law_has" = some (.ref (f i295_law_has))
  a__law_has : Binds K (fd i295_law_has) ["_law_span", "_law_unit"] []
  F__law_open : Fun K "_law_open" "_law_open" s__law_open (f i307_law_open) (fd i307_law_open)
  g__law_open : mg "_law_open" = some (.ref (f i307_law_open))
  a__law_open : Binds K (fd i307_law_open) ["_law_marks_here", "_law_some"] []
  F__law_index_sets : Fun K "_law_index_sets" "_law_index_sets" s__law_index_sets (f i306_law_index_sets) (fd i306_law_index_sets)
  g__law_index_sets : mg "_law_index_sets" = some (.ref (f i306_law_index_sets))
  a__law_index_sets : Binds K (fd i306_law_index_sets) ["_law_many"] []
  F__law_row_right : Fun K "_law_row_right" "_law_row_right" s__law_row_right (f i633_law_row_right) (fd i633_law_row_right)
  g__law_row_right : mg "_law_row_right" = some (.ref (f i633_law_row_right))
  a__law_row_right : Binds K (fd i633_law_row_right) ["_law_row_here"] []
  F__law_right : Fun K "_law_right" "_law_right" s__law_right (f i634_law_right) (fd i634_law_right)
  g__law_right : mg "_law_right" = some (.ref (f i634_law_right))
  a__law_right : Binds K (fd i634_law_right) ["_law_hand_here"] []
  F_law : Fun K "law" "law" s_law (f i1026_law) (fd i1026_law)
  g_law : mg "law" = some (.ref (f i1026_law))
  a_law : Binds K (fd i1026_law) ["_law_script"] []
  kc_Covers : Cls K (κ 105)
  kf_Covers_row : NoAttr K (κ 105) "row"
  kf_Covers_blocks : NoAttr K (κ 105) "blocks"
  kf_Covers_later : NoAttr K (κ 105) "later"
  kf_Covers_start : NoAttr K (κ 105) "start"
  kf_Covers_places : NoAttr K (κ 105) "places"
  kf_Covers_fewest : NoAttr K (κ 105) "fewest"
  kf_Covers_ways : NoAttr K (κ 105) "ways"
  kf_Covers_best_marks : NoAttr K (κ 105) "best_marks"
  kf_Covers_first_spans : NoAttr K (κ 105) "first_spans"
  km_Covers_busy_from : Meth K (κ 105) "busy_from" (f i625_Covers_busy_from)
  km_Covers_look_at : Meth K (κ 105) "look_at" (f i1019_Covers_look_at)
  km_Covers_mark : Meth K (κ 105) "mark" (f i756_Covers_mark)
  km_Covers_uses : Meth K (κ 105) "uses" (f i757_Covers_uses)
  kg_Covers : mg "Covers" = some (.ref (κ 105))
  kk_Covers : Mk K (κ 105) (f i626_Covers___init)
  b_sorted : mg "sorted" = none
  b_max : mg "max" = none
  b_enumerate : mg "enumerate" = none
  b_min : mg "min" = none
  b_sum : mg "sum" = none
  b_len : mg "len" = none
  b_tuple : mg "tuple" = none
  b_range : mg "range" = none
  b_abs : mg "abs" = none
  b_int : mg "int" = none
  b_set : mg "set" = none
  b_any : mg "any" = none
  b_repr : mg "repr" = none
  b_list : mg "list" = none
  b_all : mg "all" = none
section
variable {κ : Kap} {P : Program} {w : World} {K : PySem.W.Frag} {mg : Str → Option Value} {base : Heap} {f : Nat → Addr} {fd : Nat → FuncData} {cL pL : Nat → Addr} {T : Nat → Fn} {k : Nat}
theorem ok_blocks_of (M : Md K mg κ w f fd cL pL) (TB : ∀ i ∈ ([i306_law_index_sets] : List Nat), LamX.TabB base mg (cL i) (pL i)) (sm : ∃ o, base.get? sysModules = some o) (IH : ∀ i ∈ ids, FnD κ P w K mg base (3 * k + 3) (f i) (fd i) (psT i) (T i)) : FnD κ P w K mg base (3 * k + 5 + 1) (f i293_blocks_of) (fd i293_blocks_of) ["spans"] (fnR 4 1 (m293_blocks_of T)) :=
  FnD.of M.F_blocks_of sc_blocks_of sm fun cdv A outer s H E cl => (DSs.cons (DS.set (i := 1) cl.nd rfl (by first | exact Or.inl rfl | exact Or.inr rfl) (DN.new (DN.lst cl DA.nil))) (DSs.cons (DS.fr PassesOwn.leaving cl.calm (DI.any (DN.dat (DN.callB cl (cn_sortPr cl) (by rfl) M.b_sorted rfl (DA.cons (DE.var 0) DA.nil)))) (DG.tup cl.calm (DGs.cons (DG.name (i := 2) cl.nd rfl (by first | exact Or.inl rfl | exact Or.inr rfl)) (DGs.cons (DG.name (i := 3) cl.nd rfl (by first | exact Or.inl rfl | exact Or.inr rfl)) DGs.nil)) (gl1 (gl1 gl0))) (DSs.one (DS.ifs (DW.t (DW.and (DT.cmp (op_gNe cl) (DE.var 1) (DN.dat (DN.lst cl DA.nil))) (DW.and1 (DT.cmp op_gLe (DE.var 2) (DE.ix ix_gIx (DE.ix ix_gIx (DE.var 1) (DE.neg DE.int)) DE.int))))) (DSs.one (DS.sub (DE.var 1) (DE.neg DE.int) (DE.tup (DA.cons (DE.ix ix_gIx (DE.ix ix_gIx (DE.var 1) (DE.neg DE.int)) DE.int) (DA.cons (DE.callB (ca_max cl) (by rfl) M.b_max rfl (DA.cons (DE.var 3) (DA.cons (DE.ix ix_gIx (DE.ix ix_gIx (DE.var 1) (DE.neg DE.int)) DE.int) DA.nil))) DA.nil))))) (DSs.one (DS.expr (DE.app (DE.var 1) (DE.tup (DA.cons (DE.var 2) (DA.cons (DE.var 3) DA.nil))))))))) (DSs.one (DS.ret (DE.var 1)))))
theorem ok_Covers___init__ (M : Md K mg κ w f fd cL pL) (TB : ∀ i ∈ ([i306_law_index_sets] : List Nat), LamX.TabB base mg (cL i) (pL i)) (sm : ∃ o, base.get? sysModules = some o) (IH : ∀ i ∈ ids, FnD κ P w K mg base (3 * k + 3) (f i) (fd i) (psT i) (T i)) : FnD κ P w K mg base (3 * k + 5 + 1) (f i626_Covers___init) (fd i626_Covers___init) ["self", "row"] (fnR 5 2 (m626_Covers___init T)) :=
  FnD.of M.F_Covers___init__ sc_Covers___init__ sm fun cdv A outer s H E cl => (DSs.cons (DS.fldP [105] (by intro c hc; simp only [List.mem_cons, List.not_mem_nil, or_false] at hc; subst hc; exact ⟨M.kc_Covers, M.kf_Covers_row⟩) (DE.var 0) (DE.var 1)) (DSs.cons (DS.fldP [105] (by intro c hc; simp only [List.mem_cons, List.not_mem_nil, or_false] at hc; subst hc; exact ⟨M.kc_Covers, M.kf_Covers_blocks⟩) (DE.var 0) (DE.call cl ((IH i293_blocks_of (by decide)).mono (by omega)) (by rfl) M.g_blocks_of M.F_blocks_of.kp M.a_blocks_of (DA.cons (DE.var 1) DA.nil))) (DSs.cons (DS.fldP [105] (by intro c hc; simp only [List.mem_cons, List.not_mem_nil, or_false] at hc; subst hc; exact ⟨M.kc_Covers, M.kf_Covers_later⟩) (DE.var 0) (DN.dat (DN.lcc (own := [("begin", 3), ("end", 4)]) cl (DI.any (DE.var 1)) (blkOk_by (by rfl)) (fun _ h => h) (fun s H D d fp cl1 => (DG.tup cl1.calm (DGs.cons (DG.name (i := 3) cl1.nd rfl (by first | exact Or.inl rfl | exact Or.inr rfl)) (DGs.cons (DG.name (i := 4) cl1.nd rfl (by first | exact Or.inl rfl | exact Or.inr rfl)) DGs.nil)) (gl1 (gl1 gl0)))) (fun s H D d fp cl1 => lc_all) (fun s H D d fp cl1 => (DE.meth cl1 [105] (fun c => T i625_Covers_busy_from) (by intro c hc; simp only [List.mem_cons, List.not_mem_nil, or_false] at hc; subst hc; exact ⟨⟨_, _, _, M.kc_Covers, M.km_Covers_busy_from, ((IH i625_Covers_busy_from (by decide)).mono (by omega)), M.a_Covers_busy_from⟩⟩) (DE.var 0) (DA.cons (DE.var 4) DA.nil)))))) (DSs.cons (DS.fldP [105] (by intro c hc; simp only [List.mem_cons, List.not_mem_nil, or_false] at hc; subst hc; exact ⟨M.kc_Covers, M.kf_Covers_start⟩) (DE.var 0) (DE.ix ix_gIx (DE.ix ix_gIx (DE.fld [105] (by intro c hc; simp only [List.mem_cons, List.not_mem_nil, or_false] at hc; subst hc; exact ⟨M.kc_Covers, M.kf_Covers_blocks⟩) (DE.var 0)) DE.int) DE.int)) (DSs.cons (DS.fldP [105] (by intro c hc; simp only [List.mem_cons, List.not_mem_nil, or_false] at hc; subst hc; exact ⟨M.kc_Covers, M.kf_Covers_places⟩) (DE.var 0) (DN.dat (DN.sortNt cl (by rfl) M.b_sorted (DNt.sc1 (own := [("place", 2)]) cl (DI.any (DN.dat (DN.cat cl (DN.dat (DN.lst cl (DA.cons (DE.fld [105] (by intro c hc; simp only [List.mem_cons, List.not_mem_nil, or_false] at hc; subst hc; exact ⟨M.kc_Covers, M.kf_Covers_start⟩) (DE.var 0)) DA.nil))) (DE.fld [105] (by intro c hc; simp only [List.mem_cons, List.not_mem_nil, or_false] at hc; subst hc; exact ⟨M.kc_Covers, M.kf_Covers_later⟩) (DE.var 0))))) (blkOk_by (by rfl)) (fun _ h => h) (fun s H D d fp cl1 => (DG.name (i := 2) cl1.nd rfl (by first | exact Or.inl rfl | exact Or.inr rfl))) (fun s H D d fp cl1 => (lc_if (DT.cmp op_gIsNot (DE.var 2) DE.non))) (fun s H D d fp cl1 => (DE.var 2)))))) (DSs.cons (DS.fldP [105] (by intro c hc; simp only [List.mem_cons, List.not_mem_nil, or_false] at hc; subst hc; exact ⟨M.kc_Covers, M.kf_Covers_fewest⟩) (DE.var 0) (DE.lnew1 M.hw DE.non DE.int)) (DSs.cons (DS.fldP [105] (by intro c hc; simp only [List.mem_cons, List.not_mem_nil, or_false] at hc; subst hc; exact ⟨M.kc_Covers, M.kf_Covers_ways⟩) (DE.var 0) (DE.lnew1 M.hw DE.non DE.int)) (DSs.cons (DS.fldP [105] (by intro c hc; simp only [List.mem_cons, List.not_mem_nil, or_false] at hc; subst hc; exact ⟨M.kc_Covers, M.kf_Covers_best_marks⟩) (DE.var 0) (DE.lnew1 M.hw DE.non DE.int)) (DSs.cons (DS.fldP [105] (by intro c hc; simp only [List.mem_cons, List.not_mem_nil, or_false] at hc; subst hc; exact ⟨M.kc_Covers, M.kf_Covers_first_spans⟩) (DE.var 0) (DE.lnew M.hw)) (DSs.one (DS.fr PassesOwn.leaving cl.calm (DI.any (DN.dat (DN.revL cl (DE.fld [105] (by intro c hc; simp only [List.mem_cons, List.not_mem_nil, or_false] at hc; subst hc; exact ⟨M.kc_Covers, M.kf_Covers_places⟩) (DE.var 0))))) (DG.name (i := 2) cl.nd rfl (by first | exact Or.inl rfl | exact Or.inr rfl)) (DSs.one (DS.expr (DE.meth cl [105] (fun c => T i1019_Covers_look_at) (by intro c hc; simp only [List.mem_cons, List.not_mem_nil, or_false] at hc; subst hc; exact ⟨⟨_, _, _, M.kc_Covers, M.km_Covers_look_at, ((IH i1019_Covers_look_at (by decide)).mono (by omega)), M.a_Covers_look_at⟩⟩) (DE.var 0) (DA.cons (DE.var 2) DA.nil)))))))))))))))
theorem ok_Covers_busy_from (M : Md K mg κ w f fd cL pL) (TB : ∀ i ∈ ([i306_law_index_sets] : List Nat), LamX.TabB base mg (cL i) (pL i)) (sm : ∃ o, base.get? sysModules = some o) (IH : ∀ i ∈ ids, FnD κ P w K mg base (3 * k + 3) (f i) (fd i) (psT i) (T i)) : FnD κ P w K mg base (3 * k + 5 + 1) (f i625_Covers_busy_from) (fd i625_Covers_busy_from) ["self", "place"] (fnR 4 2 (m625_Covers_busy_from T)) :=
  FnD.of M.F_Covers_busy_from sc_Covers_busy_from sm fun cdv A outer s H E cl => (DSs.cons (DS.fr PassesOwn.leaving cl.calm (DI.any (DE.fld [105] (by intro c hc; simp only [List.mem_cons, List.not_mem_nil, or_false] at hc; subst hc; exact ⟨M.kc_Covers, M.kf_Covers_blocks⟩) (DE.var 0))) (DG.tup cl.calm (DGs.cons (DG.name (i := 2) cl.nd rfl (by first | exact Or.inl rfl | exact Or.inr rfl)) (DGs.cons (DG.name (i := 3) cl.nd rfl (by first | exact Or.inl rfl | exact Or.inr rfl)) DGs.nil)) (gl1 (gl1 gl0))) (DSs.one (DS.ifs (DT.cmp op_gLt (DE.var 1) (DE.var 3)) (DSs.one (DS.ret (DE.callB (ca_max cl) (by rfl) M.b_max rfl (DA.cons (DE.var 2) (DA.cons (DE.var 1) DA.nil))))) DSs.nil))) (DSs.one (DS.ret DE.non)))
theorem ok_Covers_look_at (M : Md K mg κ w f fd cL pL) (TB : ∀ i ∈ ([i306_law_index_sets] : List Nat), LamX.TabB base mg (cL i) (pL i)) (sm : ∃ o, base.get? sysModules = some o) (IH : ∀ i ∈ ids, FnD κ P w K mg base (3 * k + 3) (f i) (fd i) (psT i) (T i)) : FnD κ P w K mg base (3 * k + 5 + 1) (f i1019_Covers_look_at) (fd i1019_Covers_look_at) ["self", "place"] (fnR 8 2 (m1019_Covers_look_at T)) :=
  FnD.of M.F_Covers_look_at sc_Covers_look_at sm fun cdv A outer s H E cl => (DSs.cons (DS.setLcD (i := 2) (own := [("index", 5), ("begin", 6), ("end", 7)]) cl rfl rfl rfl (DI.enumU (by rfl) M.b_enumerate (DA.cons (DE.fld [105] (by intro c hc; simp only [List.mem_cons, List.not_mem_nil, or_false] at hc; subst hc; exact ⟨M.kc_Covers, M.kf_Covers_row⟩) (DE.var 0)) DA.nil)) (blkOk_by (by rfl)) (fun _ h => h) (fun s H D d fp cl1 => (DG.tup cl1.calm (DGs.cons (DG.name (i := 5) cl1.nd rfl (by first | exact Or.inl rfl | exact Or.inr rfl)) (DGs.cons (DG.tup cl1.calm (DGs.cons (DG.name (i := 6) cl1.nd rfl (by first | exact Or.inl rfl | exact Or.inr rfl)) (DGs.cons (DG.name (i := 7) cl1.nd rfl (by first | exact Or.inl rfl | exact Or.inr rfl)) DGs.nil)) (gl1 (gl1 gl0))) DGs.nil)) (gl1 (gl1 gl0)))) (fun s H D d fp cl1 => (lc_if (DT.chain op_gLe op_gLt (DE.var 6) (DE.var 1) (DE.var 7)))) (fun s H D d fp cl1 => (DE.var 5))) (DSs.cons (DS.set (i := 3) cl.nd rfl (by first | exact Or.inl rfl | exact Or.inr rfl) (DE.op op_gAdd DE.int (DE.callB (ca_minL cl) (by rfl) M.b_min rfl (DA.cons (DN.dat (DN.lcc (own := [("index", 5)]) cl (DI.any (DE.var 2)) (blkOk_by (by rfl)) (fun _ h => h) (fun s H D d fp cl1 => (DG.name (i := 5) cl1.nd rfl (by first | exact Or.inl rfl | exact Or.inr rfl))) (fun s H D d fp cl1 => lc_all) (fun s H D d fp cl1 => (DE.lix M.hw (DE.fld [105] (by intro c hc; simp only [List.mem_cons, List.not_mem_nil, or_false] at hc; subst hc; exact ⟨M.kc_Covers, M.kf_Covers_fewest⟩) (DE.var 0)) (DE.ix ix_gIx (DE.fld [105] (by intro c hc; simp only [List.mem_cons, List.not_mem_nil, or_false] at hc; subst hc; exact ⟨M.kc_Covers, M.kf_Covers_later⟩) (DE.var 0)) (DE.var 5)))))) DA.nil)))) (DSs.cons (DS.lput M.hw (DE.fld [105] (by intro c hc; simp only [List.mem_cons, List.not_mem_nil, or_false] at hc; subst hc; exact ⟨M.kc_Covers, M.kf_Covers_first_spans⟩) (DE.var 0)) (DE.var 1) (DN.dat (DN.lcc (own := [("index", 5)]) cl (DI.any (DE.var 2)) (blkOk_by (by rfl)) (fun _ h => h) (fun s H D d fp cl1 => (DG.name (i := 5) cl1.nd rfl (by first | exact Or.inl rfl | exact Or.inr rfl))) (fun s H D d fp cl1 => (lc_if (DT.cmp (op_gEq cl1) (DE.lix M.hw (DE.fld [105] (by intro c hc; simp only [List.mem_cons, List.not_mem_nil, or_false] at hc; subst hc; exact ⟨M.kc_Covers, M.kf_Covers_fewest⟩) (DE.var 0)) (DE.ix ix_gIx (DE.fld [105] (by intro c hc; simp only [List.mem_cons, List.not_mem_nil, or_false] at hc; subst hc; exact ⟨M.kc_Covers, M.kf_Covers_later⟩) (DE.var 0)) (DE.var 5))) (DE.op op_gSub (DE.var 3) DE.int)))) (fun s H D d fp cl1 => (DE.var 5))))) (DSs.cons (DS.lput M.hw (DE.fld [105] (by intro c hc; simp only [List.mem_cons, List.not_mem_nil, or_false] at hc; subst hc; exact ⟨M.kc_Covers, M.kf_Covers_fewest⟩) (DE.var 0)) (DE.var 1) (DE.var 3)) (DSs.cons (DS.lput M.hw (DE.fld [105] (by intro c hc; simp only [List.mem_cons, List.not_mem_nil, or_false] at hc; subst hc; exact ⟨M.kc_Covers, M.kf_Covers_ways⟩) (DE.var 0)) (DE.var 1) (DE.callB (ca_sum cl) (by rfl) M.b_sum rfl (DA.cons (DN.dat (DN.lcc (own := [("index", 5)]) cl (DI.any (DE.lix M.hw (DE.fld [105] (by intro c hc; simp only [List.mem_cons, List.not_mem_nil, or_false] at hc; subst hc; exact ⟨M.kc_Covers, M.kf_Covers_first_spans⟩) (DE.var 0)) (DE.var 1))) (blkOk_by (by rfl)) (fun _ h => h) (fun s H D d fp cl1 => (DG.name (i := 5) cl1.nd rfl (by first | exact Or.inl rfl | exact Or.inr rfl))) (fun s H D d fp cl1 => lc_all) (fun s H D d fp cl1 => (DE.lix M.hw (DE.fld [105] (by intro c hc; simp only [List.mem_cons, List.not_mem_nil, or_false] at hc; subst hc; exact ⟨M.kc_Covers, M.kf_Covers_ways⟩) (DE.var 0)) (DE.ix ix_gIx (DE.fld [105] (by intro c hc; simp only [List.mem_cons, List.not_mem_nil, or_false] at hc; subst hc; exact ⟨M.kc_Covers, M.kf_Covers_later⟩) (DE.var 0)) (DE.var 5)))))) DA.nil))) (DSs.cons (DS.setLcD (i := 4) (own := [("index", 5)]) cl rfl rfl rfl (DI.any (DE.lix M.hw (DE.fld [105] (by intro c hc; simp only [List.mem_cons, List.not_mem_nil, or_false] at hc; subst hc; exact ⟨M.kc_Covers, M.kf_Covers_first_spans⟩) (DE.var 0)) (DE.var 1))) (blkOk_by (by rfl)) (fun _ h => h) (fun s H D d fp cl1 => (DG.name (i := 5) cl1.nd rfl (by first | exact Or.inl rfl | exact Or.inr rfl))) (fun s H D d fp cl1 => lc_all) (fun s H D d fp cl1 => (DE.op op_gAdd (DE.lix M.hw (DE.fld [105] (by intro c hc; simp only [List.mem_cons, List.not_mem_nil, or_false] at hc; subst hc; exact ⟨M.kc_Covers, M.kf_Covers_best_marks⟩) (DE.var 0)) (DE.ix ix_gIx (DE.fld [105] (by intro c hc; simp only [List.mem_cons, List.not_mem_nil, or_false] at hc; subst hc; exact ⟨M.kc_Covers, M.kf_Covers_later⟩) (DE.var 0)) (DE.var 5))) (DE.meth cl1 [105] (fun c => T i756_Covers_mark) (by intro c hc; simp only [List.mem_cons, List.not_mem_nil, or_false] at hc; subst hc; exact ⟨⟨_, _, _, M.kc_Covers, M.km_Covers_mark, ((IH i756_Covers_mark (by decide)).mono (by omega)), M.a_Covers_mark⟩⟩) (DE.var 0) (DA.cons (DE.var 5) DA.nil))))) (DSs.one (DS.lput M.hw (DE.fld [105] (by intro c hc; simp only [List.mem_cons, List.not_mem_nil, or_false] at hc; subst hc; exact ⟨M.kc_Covers, M.kf_Covers_best_marks⟩) (DE.var 0)) (DE.var 1) (DE.callB (ca_maxL cl) (by rfl) M.b_max rfl (DA.cons (DE.var 4) DA.nil))))))))))
theorem ok_Covers_mark (M : Md K mg κ w f fd cL pL) (TB : ∀ i ∈ ([i306_law_index_sets] : List Nat), LamX.TabB base mg (cL i) (pL i)) (sm : ∃ o, base.get? sysModules = some o) (IH : ∀ i ∈ ids, FnD κ P w K mg base (3 * k + 3) (f i) (fd i) (psT i) (T i)) : FnD κ P w K mg base (3 * k + 5 + 1) (f i756_Covers_mark) (fd i756_Covers_mark) ["self", "index"] (fnR 2 2 (m756_Covers_mark T)) :=
  FnD.of M.F_Covers_mark sc_Covers_mark sm fun cdv A outer s H E cl => (DSs.one (DS.ret (DE.op op_gShl DE.int (DE.op op_gSub (DE.op op_gSub (DE.callB ca_len (by rfl) M.b_len rfl (DA.cons (DE.fld [105] (by intro c hc; simp only [List.mem_cons, List.not_mem_nil, or_false] at hc; subst hc; exact ⟨M.kc_Covers, M.kf_Covers_row⟩) (DE.var 0)) DA.nil)) DE.int) (DE.var 1)))))
theorem ok_Covers_uses (M : Md K mg κ w f fd cL pL) (TB : ∀ i ∈ ([i306_law_index_sets] : List Nat), LamX.TabB base mg (cL i) (pL i)) (sm : ∃ o, base.get? sysModules = some o) (IH : ∀ i ∈ ids, FnD κ P w K mg base (3 * k + 3) (f i) (fd i) (psT i) (T i)) : FnD κ P w K mg base (3 * k + 5 + 1) (f i757_Covers_uses) (fd i757_Covers_uses) ["self"] (fnR 6 1 (m757_Covers_uses T)) :=
  FnD.of M.F_Covers_uses sc_Covers_uses sm fun cdv A outer s H E cl => (DSs.cons (by first | exact (DS.par2 (i := 1) (j := 2) cl.calm cl.nd rfl rfl (by decide) rfl rfl (DA.cons (DE.lnew1 M.hw (DE.fld [105] (by intro c hc; simp only [List.mem_cons, List.not_mem_nil, or_false] at hc; subst hc; exact ⟨M.kc_Covers, M.kf_Covers_start⟩) (DE.var 0)) DE.int) (DA.cons (DN.new (DN.rep cl (DN.dat (DN.lst cl (DA.cons DE.int DA.nil))) (DE.callB ca_len (by rfl) M.b_len rfl (DA.cons (DE.fld [105] (by intro c hc; simp only [List.mem_cons, List.not_mem_nil, or_false] at hc; subst hc; exact ⟨M.kc_Covers, M.kf_Covers_row⟩) (DE.var 0)) DA.nil)))) DA.nil)) rfl) | exact (DS.parG cl.calm (DA.cons (DE.lnew1 M.hw (DE.fld [105] (by intro c hc; simp only [List.mem_cons, List.not_mem_nil, or_false] at hc; subst hc; exact ⟨M.kc_Covers, M.kf_Covers_start⟩) (DE.var 0)) DE.int) (DA.cons (DN.new (DN.rep cl (DN.dat (DN.lst cl (DA.cons DE.int DA.nil))) (DE.callB ca_len (by rfl) M.b_len rfl (DA.cons (DE.fld [105] (by intro c hc; simp only [List.mem_cons, List.not_mem_nil, or_false] at hc; subst hc; exact ⟨M.kc_Covers, M.kf_Covers_row⟩) (DE.var 0)) DA.nil)))) DA.nil)) (DGs.cons (DG.name (i := 1) cl.nd rfl (by first | exact Or.inl rfl | exact Or.inr rfl)) (DGs.cons (DG.name (i := 2) cl.nd rfl (by first | exact Or.inl rfl | exact Or.inr rfl)) DGs.nil)) (gl1 (gl1 gl0)))) (DSs.cons (DS.fr PassesOwn.leaving cl.calm (DI.any (DE.fld [105] (by intro c hc; simp only [List.mem_cons, List.not_mem_nil, or_false] at hc; subst hc; exact ⟨M.kc_Covers, M.kf_Covers_places⟩) (DE.var 0))) (DG.name (i := 3) cl.nd rfl (by first | exact Or.inl rfl | exact Or.inr rfl)) (DSs.one (DS.fr PassesOwn.leaving cl.calm (DI.any (DE.ifx (DT.cmp (op_gInL M.hw) (DE.var 3) (DE.var 1)) (DE.lix M.hw (DE.fld [105] (by intro c hc; simp only [List.mem_cons, List.not_mem_nil, or_false] at hc; subst hc; exact ⟨M.kc_Covers, M.kf_Covers_first_spans⟩) (DE.var 0)) (DE.var 3)) (DN.dat (DN.lst cl DA.nil)))) (DG.name (i := 4) cl.nd rfl (by first | exact Or.inl rfl | exact Or.inr rfl)) (DSs.cons (DS.set (i := 5) cl.nd rfl (by first | exact Or.inl rfl | exact Or.inr rfl) (DE.ix ix_gIx (DE.fld [105] (by intro c hc; simp only [List.mem_cons, List.not_mem_nil, or_false] at hc; subst hc; exact ⟨M.kc_Covers, M.kf_Covers_later⟩) (DE.var 0)) (DE.var 4))) (DSs.cons (DS.lput M.hw (DE.var 1) (DE.var 5) (DE.op op_gAdd (DE.lget M.hw (DE.var 1) (DE.var 5) DE.int) (DE.lix M.hw (DE.var 1) (DE.var 3)))) (DSs.one (DS.subAdd (DE.var 2) (DE.var 4) (DE.op op_gMul (DE.lix M.hw (DE.var 1) (DE.var 3)) (DE.lix M.hw (DE.fld [105] (by intro c hc; simp only [List.mem_cons, List.not_mem_nil, or_false] at hc; subst hc; exact ⟨M.kc_Covers, M.kf_Covers_ways⟩) (DE.var 0)) (DE.var 5)))))))))) (DSs.one (DS.ret (DE.var 2)))))
theorem ok_fewest_spans (M : Md K mg κ w f fd cL pL) (TB : ∀ i ∈ ([i306_law_index_sets] : List Nat), LamX.TabB base mg (cL i) (pL i)) (sm : ∃ o, base.get? sysModules = some o) (IH : ∀ i ∈ ids, FnD κ P w K mg base (3 * k + 3) (f i) (fd i) (psT i) (T i)) : FnD κ P w K mg base (3 * k + 5 + 1) (f i630_fewest_spans) (fd i630_fewest_spans) ["row"] (fnR 4 1 (m630_fewest_spans T)) :=
  FnD.of M.F_fewest_spans sc_fewest_spans sm fun cdv A outer s H E cl => (DSs.cons (DS.set (i := 1) cl.nd rfl (by first | exact Or.inl rfl | exact Or.inr rfl) (DE.mki M.kk_Covers cl ((IH i626_Covers___init (by decide)).mono (by omega)) (by rfl) M.kg_Covers M.a_Covers___init__ (DA.cons (DE.var 0) DA.nil))) (DSs.cons (DS.set (i := 2) cl.nd rfl (by first | exact Or.inl rfl | exact Or.inr rfl) (DE.lix M.hw (DE.fld [105] (by intro c hc; simp only [List.mem_cons, List.not_mem_nil, or_false] at hc; subst hc; exact ⟨M.kc_Covers, M.kf_Covers_best_marks⟩) (DE.var 1)) (DE.fld [105] (by intro c hc; simp only [List.mem_cons, List.not_mem_nil, or_false] at hc; subst hc; exact ⟨M.kc_Covers, M.kf_Covers_start⟩) (DE.var 1)))) (DSs.one (DS.ret (DE.callTy ca_tuple (by rfl) M.b_tuple rfl (DA.cons (DN.dat (DN.lcc (own := [("index", 3)]) cl (DI.rng1 (by rfl) M.b_range (DA.cons (DE.callB ca_len (by rfl) M.b_len rfl (DA.cons (DE.var 0) DA.nil)) DA.nil)) (blkOk_by (by rfl)) (fun _ h => h) (fun s H D d fp cl1 => (DG.name (i := 3) cl1.nd rfl (by first | exact Or.inl rfl | exact Or.inr rfl))) (fun s H D d fp cl1 => (lc_if (DT.cmp (op_gNe cl1) (DE.op op_gAnd (DE.var 2) (DE.meth cl1 [105] (fun c => T i756_Covers_mark) (by intro c hc; simp only [List.mem_cons, List.not_mem_nil, or_false] at hc; subst hc; exact ⟨⟨_, _, _, M.kc_Covers, M.km_Covers_mark, ((IH i756_Covers_mark (by decide)).mono (by omega)), M.a_Covers_mark⟩⟩) (DE.var 1) (DA.cons (DE.var 3) DA.nil))) DE.int))) (fun s H D d fp cl1 => (DE.var 3)))) DA.nil))))))
theorem ok_set_count (M : Md K mg κ w f fd cL pL) (TB : ∀ i ∈ ([i306_law_index_sets] : List Nat), LamX.TabB base mg (cL i) (pL i)) (sm : ∃ o, base.get? sysModules = some o) (IH : ∀ i ∈ ids, FnD κ P w K mg base (3 * k + 3) (f i) (fd i) (psT i) (T i)) : FnD κ P w K mg base (3 * k + 5 + 1) (f i629_set_count) (fd i629_set_count) ["row"] (fnR 2 1 (m629_set_count T)) :=
  FnD.of M.F_set_count sc_set_count sm fun cdv A outer s H E cl => (DSs.cons (DS.set (i := 1) cl.nd rfl (by first | exact Or.inl rfl | exact Or.inr rfl) (DE.mki M.kk_Covers cl ((IH i626_Covers___init (by decide)).mono (by omega)) (by rfl) M.kg_Covers M.a_Covers___init__ (DA.cons (DE.var 0) DA.nil))) (DSs.one (DS.ret (DE.lix M.hw (DE.fld [105] (by intro c hc; simp only [List.mem_cons, List.not_mem_nil, or_false] at hc; subst hc; exact ⟨M.kc_Covers, M.kf_Covers_ways⟩) (DE.var 1)) (DE.fld [105] (by intro c hc; simp only [List.mem_cons, List.not_mem_nil, or_false] at hc; subst hc; exact ⟨M.kc_Covers, M.kf_Covers_start⟩) (DE.var 1))))))
theorem ok_in_some_set (M : Md K mg κ w f fd cL pL) (TB : ∀ i ∈ ([i306_law_index_sets] : List Nat), LamX.TabB base mg (cL i) (pL i)) (sm : ∃ o, base.get? sysModules = some o) (IH : ∀ i ∈ ids, FnD κ P w K mg base (3 * k + 3) (f i) (fd i) (psT i) (T i)) : FnD κ P w K mg base (3 * k + 5 + 1) (f i631_in_some_set) (fd i631_in_some_set) ["row"] (fnR 3 1 (m631_in_some_set T)) :=
  FnD.of M.F_in_some_set sc_in_some_set sm fun cdv A outer s H E cl => (DSs.one (DS.ret (DE.callTy ca_tuple (by rfl) M.b_tuple rfl (DA.cons (DN.dat (DN.lcc (own := [("index", 1), ("many", 2)]) cl (DI.enumU (by rfl) M.b_enumerate (DA.cons (DE.frz cl (DE.meth0 cl [105] (fun c => T i757_Covers_uses) (by intro c hc; simp only [List.mem_cons, List.not_mem_nil, or_false] at hc; subst hc; exact ⟨⟨_, _, _, M.kc_Covers, M.km_Covers_uses, ((IH i757_Covers_uses (by decide)).mono (by omega)), M.a_Covers_uses⟩⟩) (DE.mki M.kk_Covers cl ((IH i626_Covers___init (by decide)).mono (by omega)) (by rfl) M.kg_Covers M.a_Covers___init__ (DA.cons (DE.var 0) DA.nil)))) DA.nil)) (blkOk_by (by rfl)) (fun _ h => h) (fun s H D d fp cl1 => (DG.tup cl1.calm (DGs.cons (DG.name (i := 1) cl1.nd rfl (by first | exact Or.inl rfl | exact Or.inr rfl)) (DGs.cons (DG.name (i := 2) cl1.nd rfl (by first | exact Or.inl rfl | exact Or.inr rfl)) DGs.nil)) (gl1 (gl1 gl0)))) (fun s H D d fp cl1 => (lc_if (DT.cmp op_gGt (DE.var 2) DE.int))) (fun s H D d fp cl1 => (DE.var 1)))) DA.nil))))
theorem ok_in_each_set (M : Md K mg κ w f fd cL pL) (TB : ∀ i ∈ ([i306_law_index_sets] : List Nat), LamX.TabB base mg (cL i) (pL i)) (sm : ∃ o, base.get? sysModules = some o) (IH : ∀ i ∈ ids, FnD κ P w K mg base (3 * k + 3) (f i) (fd i) (psT i) (T i)) : FnD κ P w K mg base (3 * k + 5 + 1) (f i632_in_each_set) (fd i632_in_each_set) ["row"] (fnR 4 1 (m632_in_each_set T)) :=
  FnD.of M.F_in_each_set sc_in_each_set sm fun cdv A outer s H E cl => (DSs.cons (DS.set (i := 1) cl.nd rfl (by first | exact Or.inl rfl | exact Or.inr rfl) (DE.call cl ((IH i629_set_count (by decide)).mono (by omega)) (by rfl) M.g_set_count M.F_set_count.kp M.a_set_count (DA.cons (DE.var 0) DA.nil))) (DSs.one (DS.ret (DE.callTy ca_tuple (by rfl) M.b_tuple rfl (DA.cons (DN.dat (DN.lcc (own := [("index", 2), ("many", 3)]) cl (DI.enumU (by rfl) M.b_enumerate (DA.cons (DE.frz cl (DE.meth0 cl [105] (fun c => T i757_Covers_uses) (by intro c hc; simp only [List.mem_cons, List.not_mem_nil, or_false] at hc; subst hc; exact ⟨⟨_, _, _, M.kc_Covers, M.km_Covers_uses, ((IH i757_Covers_uses (by decide)).mono (by omega)), M.a_Covers_uses⟩⟩) (DE.mki M.kk_Covers cl ((IH i626_Covers___init (by decide)).mono (by omega)) (by rfl) M.kg_Covers M.a_Covers___init__ (DA.cons (DE.var 0) DA.nil)))) DA.nil)) (blkOk_by (by rfl)) (fun _ h => h) (fun s H D d fp cl1 => (DG.tup cl1.calm (DGs.cons (DG.name (i := 2) cl1.nd rfl (by first | exact Or.inl rfl | exact Or.inr rfl)) (DGs.cons (DG.name (i := 3) cl1.nd rfl (by first | exact Or.inl rfl | exact Or.inr rfl)) DGs.nil)) (gl1 (gl1 gl0)))) (fun s H D d fp cl1 => (lc_if (DT.cmp (op_gEq cl1) (DE.var 3) (DE.var 1)))) (fun s H D d fp cl1 => (DE.var 2)))) DA.nil)))))
theorem ok__law_hand (M : Md K mg κ w f fd cL pL) (TB : ∀ i ∈ ([i306_law_index_sets] : List Nat), LamX.TabB base mg (cL i) (pL i)) (sm : ∃ o, base.get? sysModules = some o) (IH : ∀ i ∈ ids, FnD κ P w K mg base (3 * k + 3) (f i) (fd i) (psT i) (T i)) : FnD κ P w K mg base (3 * k + 5 + 1) (f i13_law_hand) (fd i13_law_hand) ["_law_script", "_law_k"] (fnR 4 2 (m13_law_hand T)) :=
  FnD.of M.F__law_hand sc__law_hand sm fun cdv A outer s H E cl => (DSs.cons (DS.set (i := 2) cl.nd rfl (by first | exact Or.inl rfl | exact Or.inr rfl) (DE.ifx (DT.cmp op_gLt (DE.var 1) (DE.callB ca_len (by rfl) M.b_len rfl (DA.cons (DE.var 0) DA.nil))) (DE.ix ix_gIx (DE.var 0) (DE.var 1)) DE.int)) (DSs.cons (DS.set (i := 3) cl.nd rfl (by first | exact Or.inl rfl | exact Or.inr rfl) (DE.op op_gMul (DE.op op_gMod (DE.callB ca_abs (by rfl) M.b_abs rfl (DA.cons (DE.var 2) DA.nil)) (DE.op op_gMul (DE.op op_gMul (DE.op op_gPow DE.int DE.int) (DE.op op_gPow DE.int DE.int)) (DE.op op_gPow DE.int DE.int))) (DE.callTy ca_int (by rfl) M.b_int rfl (DA.cons (DE.cmp op_gGe (DE.callB ca_abs (by rfl) M.b_abs rfl (DA.cons (DE.var 2) DA.nil)) (DE.op op_gPow DE.int DE.int)) DA.nil)))) (DSs.one (DS.ret (DN.new (DN.lst cl (DA.cons (DE.var 3) (DA.cons (DE.op op_gMod (DE.op op_gMul (DE.op op_gAdd (DE.op op_gAdd (DE.op op_gMod (DE.var 2) DE.int) (DE.op op_gMul DE.int (DE.var 1))) DE.int) DE.int) DE.int) (DA.cons DE.int DA.nil)))))))))
theorem ok__law_take (M : Md K mg κ w f fd cL pL) (TB : ∀ i ∈ ([i306_law_index_sets] : List Nat), LamX.TabB base mg (cL i) (pL i)) (sm : ∃ o, base.get? sysModules = some o) (IH : ∀ i ∈ ids, FnD κ P w K mg base (3 * k + 3) (f i) (fd i) (psT i) (T i)) : FnD κ P w K mg base (3 * k + 5 + 1) (f i2_law_take) (fd i2_law_take) ["_law_hand_here", "_law_many"] (fnR 5 2 (m2_law_take T)) :=
  FnD.of M.F__law_take sc__law_take sm fun cdv A outer s H E cl => (DSs.cons (DS.ifs (DT.cmp op_gGt (DE.ix ix_gIx (DE.var 0) DE.int) DE.int) (DSs.cons (DS.set (i := 2) cl.nd rfl (by first | exact Or.inl rfl | exact Or.inr rfl) (DE.op op_gMod (DE.ix ix_gIx (DE.var 0) DE.int) (DE.var 1))) (DSs.cons (DS.sub (DE.var 0) DE.int (DE.op op_gDiv (DE.ix ix_gIx (DE.var 0) DE.int) (DE.var 1))) (DSs.one (DS.ret (DE.var 2))))) DSs.nil) (DSs.cons (DS.sub (DE.var 0) DE.int (DE.op op_gAdd (DE.ix ix_gIx (DE.var 0) DE.int) DE.int)) (DSs.cons (DS.set (i := 3) cl.nd rfl (by first | exact Or.inl rfl | exact Or.inr rfl) (DE.ix ix_gIx (DN.dat (DN.lst cl (DA.cons DE.int (DA.cons DE.int (DA.cons DE.int (DA.cons DE.int (DA.cons DE.int DA.nil))))))) (DE.op op_gMod (DE.ix ix_gIx (DE.var 0) DE.int) DE.int))) (DSs.cons (DS.set (i := 4) cl.nd rfl (by first | exact Or.inl rfl | exact Or.inr rfl) (DE.op op_gMod (DE.op op_gPow (DE.op op_gAdd (DE.ix ix_gIx (DE.var 0) DE.int) (DE.op op_gMul DE.int (DE.ix ix_gIx (DE.var 0) DE.int))) DE.int) (DE.var 3))) (DSs.one (DS.ret (DE.op op_gMod (DE.op op_gDiv (DE.op op_gMod (DE.op op_gMul (DE.var 4) (DE.op op_gAdd (DE.op op_gMod (DE.var 4) DE.int) (DE.ix ix_gIx (DE.var 0) DE.int))) (DE.var 3)) DE.int) (DE.var 1))))))))
theorem ok__law_of (M : Md K mg κ w f fd cL pL) (TB : ∀ i ∈ ([i306_law_index_sets] : List Nat), LamX.TabB base mg (cL i) (pL i)) (sm : ∃ o, base.get? sysModules = some o) (IH : ∀ i ∈ ids, FnD κ P w K mg base (3 * k + 3) (f i) (fd i) (psT i) (T i)) : FnD κ P w K mg base (3 * k + 5 + 1) (f i3_law_of) (fd i3_law_of) ["_law_hand_here", "_law_some"] (fnR 2 2 (m3_law_of T)) :=
  FnD.of M.F__law_of sc__law_of sm fun cdv A outer s H E cl => (DSs.one (DS.ret (DE.ix ix_gIx (DE.var 1) (DE.call cl ((IH i2_law_take (by decide)).mono (by omega)) (by rfl) M.g__law_take M.F__law_take.kp M.a__law_take (DA.cons (DE.var 0) (DA.cons (DE.callB ca_len (by rfl) M.b_len rfl (DA.cons (DE.var 1) DA.nil)) DA.nil))))))
theorem ok__law_row (M : Md K mg κ w f fd cL pL) (TB : ∀ i ∈ ([i306_law_index_sets] : List Nat), LamX.TabB base mg (cL i) (pL i)) (sm : ∃ o, base.get? sysModules = some o) (IH : ∀ i ∈ ids, FnD κ P w K mg base (3 * k + 3) (f i) (fd i) (psT i) (T i)) : FnD κ P w K mg base (3 * k + 5 + 1) (f i288_law_row) (fd i288_law_row) ["_law_hand_here", "_law_most"] (fnR 8 2 (m288_law_row T)) :=
  FnD.of M.F__law_row sc__law_row sm fun cdv A outer s H E cl => (DSs.cons (by first | exact (DS.par2 (i := 2) (j := 3) cl.calm cl.nd rfl rfl (by decide) rfl rfl (DA.cons (DE.call cl ((IH i3_law_of (by decide)).mono (by omega)) (by rfl) M.g__law_of M.F__law_of.kp M.a__law_of (DA.cons (DE.var 0) (DA.cons (DN.dat (DN.lst cl (DA.cons DE.int (DA.cons DE.int (DA.cons DE.int (DA.cons DE.int (DA.cons DE.int (DA.cons (DE.op op_gPow DE.int DE.int) DA.nil)))))))) DA.nil))) (DA.cons (DN.new (DN.lst cl DA.nil)) DA.nil)) rfl) | exact (DS.parG cl.calm (DA.cons (DE.call cl ((IH i3_law_of (by decide)).mono (by omega)) (by rfl) M.g__law_of M.F__law_of.kp M.a__law_of (DA.cons (DE.var 0) (DA.cons (DN.dat (DN.lst cl (DA.cons DE.int (DA.cons DE.int (DA.cons DE.int (DA.cons DE.int (DA.cons DE.int (DA.cons (DE.op op_gPow DE.int DE.int) DA.nil)))))))) DA.nil))) (DA.cons (DN.new (DN.lst cl DA.nil)) DA.nil)) (DGs.cons (DG.name (i := 2) cl.nd rfl (by first | exact Or.inl rfl | exact Or.inr rfl)) (DGs.cons (DG.name (i := 3) cl.nd rfl (by first | exact Or.inl rfl | exact Or.inr rfl)) DGs.nil)) (gl1 (gl1 gl0)))) (DSs.cons (DS.set (i := 4) cl.nd rfl (by first | exact Or.inl rfl | exact Or.inr rfl) (DE.call cl ((IH i3_law_of (by decide)).mono (by omega)) (by rfl) M.g__law_of M.F__law_of.kp M.a__law_of (DA.cons (DE.var 0) (DA.cons (DN.dat (DN.lst cl (DA.cons DE.int (DA.cons DE.int (DA.cons DE.int (DA.cons DE.int (DA.cons (DE.var 2) DA.nil))))))) DA.nil)))) (DSs.cons (DS.fr PassesOwn.leaving cl.calm (DI.rng1 (by rfl) M.b_range (DA.cons (DE.op op_gAdd DE.int (DE.call cl ((IH i2_law_take (by decide)).mono (by omega)) (by rfl) M.g__law_take M.F__law_take.kp M.a__law_take (DA.cons (DE.var 0) (DA.cons (DE.var 1) DA.nil)))) DA.nil)) (DG.name (i := 5) cl.nd rfl (by first | exact Or.inl rfl | exact Or.inr rfl)) (DSs.cons (DS.set (i := 6) cl.nd rfl (by first | exact Or.inl rfl | exact Or.inr rfl) (DE.call cl ((IH i2_law_take (by decide)).mono (by omega)) (by rfl) M.g__law_take M.F__law_take.kp M.a__law_take (DA.cons (DE.var 0) (DA.cons (DE.var 2) DA.nil)))) (DSs.cons (DS.set (i := 7) cl.nd rfl (by first | exact Or.inl rfl | exact Or.inr rfl) (DE.op op_gAdd (DE.op op_gAdd (DE.var 6) DE.int) (DE.call cl ((IH i2_law_take (by decide)).mono (by omega)) (by rfl) M.g__law_take M.F__law_take.kp M.a__law_take (DA.cons (DE.var 0) (DA.cons (DE.callB (ca_min cl) (by rfl) M.b_min rfl (DA.cons (DE.var 4) (DA.cons (DE.op op_gSub (DE.var 2) (DE.var 6)) DA.nil))) DA.nil))))) (DSs.one (DS.expr (DE.app (DE.var 3) (DE.ifx (DW.t (DW.and (DT.cmp (op_gNe cl) (DE.var 3) (DN.dat (DN.lst cl DA.nil))) (DW.and1 (DT.cmp (op_gEq cl) (DE.call cl ((IH i2_law_take (by decide)).mono (by omega)) (by rfl) M.g__law_take M.F__law_take.kp M.a__law_take (DA.cons (DE.var 0) (DA.cons DE.int DA.nil))) DE.int)))) (DE.call cl ((IH i3_law_of (by decide)).mono (by omega)) (by rfl) M.g__law_of M.F__law_of.kp M.a__law_of (DA.cons (DE.var 0) (DA.cons (DE.var 3) DA.nil))) (DE.tup (DA.cons (DE.var 6) (DA.cons (DE.var 7) DA.nil)))))))))) (DSs.one (DS.ret (DE.callTy ca_tuple (by rfl) M.b_tuple rfl (DA.cons (DE.var 3) DA.nil)))))))
theorem ok__law_marks (M : Md K mg κ w f fd cL pL) (TB : ∀ i ∈ ([i306_law_index_sets] : List Nat), LamX.TabB base mg (cL i) (pL i)) (sm : ∃ o, base.get? sysModules = some o) (IH : ∀ i ∈ ids, FnD κ P w K mg base (3 * k + 3) (f i) (fd i) (psT i) (T i)) : FnD κ P w K mg base (3 * k + 5 + 1) (f i305_law_marks) (fd i305_law_marks) ["_law_row_here"] (fnR 5 1 (m305_law_marks T)) :=
  FnD.of M.F__law_marks sc__law_marks sm fun cdv A outer s H E cl => (DSs.cons (DS.set (i := 1) cl.nd rfl (by first | exact Or.inl rfl | exact Or.inr rfl) (DN.dat (DN.sortSet cl (by rfl) M.b_sorted (by rfl) M.b_set (DN.dat (DN.cat cl (DN.dat (DN.lcc (own := [("_law_begin", 2), ("_law_end", 3)]) cl (DI.any (DE.var 0)) (blkOk_by (by rfl)) (fun _ h => h) (fun s H D d fp cl1 => (DG.tup cl1.calm (DGs.cons (DG.name (i := 2) cl1.nd rfl (by first | exact Or.inl rfl | exact Or.inr rfl)) (DGs.cons (DG.name (i := 3) cl1.nd rfl (by first | exact Or.inl rfl | exact Or.inr rfl)) DGs.nil)) (gl1 (gl1 gl0)))) (fun s H D d fp cl1 => lc_all) (fun s H D d fp cl1 => (DE.var 2)))) (DN.dat (DN.lcc (own := [("_law_begin", 2), ("_law_end", 3)]) cl (DI.any (DE.var 0)) (blkOk_by (by rfl)) (fun _ h => h) (fun s H D d fp cl1 => (DG.tup cl1.calm (DGs.cons (DG.name (i := 2) cl1.nd rfl (by first | exact Or.inl rfl | exact Or.inr rfl)) (DGs.cons (DG.name (i := 3) cl1.nd rfl (by first | exact Or.inl rfl | exact Or.inr rfl)) DGs.nil)) (gl1 (gl1 gl0)))) (fun s H D d fp cl1 => lc_all) (fun s H D d fp cl1 => (DE.var 3))))))))) (DSs.one (DS.ret (DN.dat (DN.lcc (own := [("_law_cut", 4)]) cl (DI.any (DE.var 1)) (blkOk_by (by rfl)) (fun _ h => h) (fun s H D d fp cl1 => (DG.name (i := 4) cl1.nd rfl (by first | exact Or.inl rfl | exact Or.inr rfl))) (fun s H D d fp cl1 => (lc_if (DT.truth (DE.callB (ca_any cl1) (by rfl) M.b_any rfl (DA.cons (DN.dat (DN.lcc (own := [("_law_begin", 2), ("_law_end", 3)]) cl1 (DI.any (DE.var 0)) (blkOk_by (by rfl)) (fun _ h => h) (fun s H D d fp cl2 => (DG.tup cl2.calm (DGs.cons (DG.name (i := 2) cl2.nd rfl (by first | exact Or.inl rfl | exact Or.inr rfl)) (DGs.cons (DG.name (i := 3) cl2.nd rfl (by first | exact Or.inl rfl | exact Or.inr rfl)) DGs.nil)) (gl1 (gl1 gl0)))) (fun s H D d fp cl2 => lc_all) (fun s H D d fp cl2 => (DE.chain op_gLe op_gLt (DE.var 2) (DE.var 4) (DE.var 3))))) DA.nil))))) (fun s H D d fp cl1 => (DE.var 4)))))))
theorem ok__law_has (M : Md K mg κ w f fd cL pL) (TB : ∀ i ∈ ([i306_law_index_sets] : List Nat), LamX.TabB base mg (cL i) (pL i)) (sm : ∃ o, base.get? sysModules = some o) (IH : ∀ i ∈ ids, FnD κ P w K mg base (3 * k + 3) (f i) (fd i) (psT i) (T i)) : FnD κ P w K mg base (3 * k + 5 + 1) (f i295_law_has) (fd i295_law_has) ["_law_span", "_law_unit"] (fnR 2 2 (m295_law_has T)) :=
  FnD.of M.F__law_has sc__law_has sm fun cdv A outer s H E cl => (DSs.one (DS.ret (DE.chain op_gLe op_gLt (DE.ix ix_gIx (DE.var 0) DE.int) (DE.var 1) (DE.ix ix_gIx (DE.var 0) DE.int))))
theorem ok__law_open (M : Md K mg κ w f fd cL pL) (TB : ∀ i ∈ ([i306_law_index_sets] : List Nat), LamX.TabB base mg (cL i) (pL i)) (sm : ∃ o, base.get? sysModules = some o) (IH : ∀ i ∈ ids, FnD κ P w K mg base (3 * k + 3) (f i) (fd i) (psT i) (T i)) : FnD κ P w K mg base (3 * k + 5 + 1) (f i307_law_open) (fd i307_law_open) ["_law_marks_here", "_law_some"] (fnR 4 2 (m307_law_open T)) :=
  FnD.of M.F__law_open sc__law_open sm fun cdv A outer s H E cl => (DSs.one (DS.ret (DN.dat (DN.lcc (own := [("_law_mark", 2)]) cl (DI.any (DE.var 0)) (blkOk_by (by rfl)) (fun _ h => h) (fun s H D d fp cl1 => (DG.name (i := 2) cl1.nd rfl (by first | exact Or.inl rfl | exact Or.inr rfl))) (fun s H D d fp cl1 => (lc_if (DT.not (DT.truth (DE.callB (ca_any cl1) (by rfl) M.b_any rfl (DA.cons (DN.dat (DN.lcc (own := [("_law_span", 3)]) cl1 (DI.any (DE.var 1)) (blkOk_by (by rfl)) (fun _ h => h) (fun s H D d fp cl2 => (DG.name (i := 3) cl2.nd rfl (by first | exact Or.inl rfl | exact Or.inr rfl))) (fun s H D d fp cl2 => lc_all) (fun s H D d fp cl2 => (DE.call cl2 ((IH i295_law_has (by decide)).mono (by omega)) (by rfl) M.g__law_has M.F__law_has.kp M.a__law_has (DA.cons (DE.var 3) (DA.cons (DE.var 2) DA.nil)))))) DA.nil)))))) (fun s H D d fp cl1 => (DE.var 2))))))
theorem ok__law_index_sets (M : Md K mg κ w f fd cL pL) (TB : ∀ i ∈ ([i306_law_index_sets] : List Nat), LamX.TabB base mg (cL i) (pL i)) (sm : ∃ o, base.get? sysModules = some o) (IH : ∀ i ∈ ids, FnD κ P w K mg base (3 * k + 3) (f i) (fd i) (psT i) (T i)) : FnD κ P w K mg base (3 * k + 5 + 1) (f i306_law_index_sets) (fd i306_law_index_sets) ["_law_many"] (fnR 4 1 (m306_law_index_sets T)) :=
  FnD.ofC M.F__law_index_sets sc__law_index_sets sm M.co__law_index_sets fun A outer s H E cl => (DSs.cons (DS.set (i := 1) cl.nd rfl (by first | exact Or.inl rfl | exact Or.inr rfl) (DN.dat (DN.lst cl (DA.cons (DE.tup DA.nil) DA.nil)))) (DSs.cons (DS.fr PassesOwn.leaving cl.calm (DI.rng1 (by rfl) M.b_range (DA.cons (DE.var 0) DA.nil)) (DG.name (i := 2) cl.nd rfl (by first | exact Or.inl rfl | exact Or.inr rfl)) (DSs.one (DS.set (i := 1) cl.nd rfl (by first | exact Or.inl rfl | exact Or.inr rfl) (DN.dat (DN.cat cl (DE.var 1) (DN.dat (DN.lcc (own := [("_law_some", 3)]) cl (DI.any (DE.var 1)) (blkOk_by (by rfl)) (fun _ h => h) (fun s H D d fp cl1 => (DG.name (i := 3) cl1.nd rfl (by first | exact Or.inl rfl | exact Or.inr rfl))) (fun s H D d fp cl1 => lc_all) (fun s H D d fp cl1 => (DE.op op_gAdd (DE.var 3) (DE.tup (DA.cons (DE.var 2) DA.nil))))))))))) (DSs.one (DS.ret (DN.dat (DN.sortKI cl (fun _ e => Option.some.inj (e.symm.trans M.hw)) (by rfl) M.b_sorted M.b_len (TB i306_law_index_sets (by decide)) rfl M.hm__law_index_sets M.hu__law_index_sets rfl rfl rfl rfl (by rfl) (by rfl) (by decide) (by decide) (fun _ _ _ _ _ => rfl) rfl (DE.var 1)))))))
theorem ok__law_row_right (M : Md K mg κ w f fd cL pL) (TB : ∀ i ∈ ([i306_law_index_sets] : List Nat), LamX.TabB base mg (cL i) (pL i)) (sm : ∃ o, base.get? sysModules = some o) (IH : ∀ i ∈ ids, FnD κ P w K mg base (3 * k + 3) (f i) (fd i) (psT i) (T i)) : FnD κ P w K mg base (3 * k + 5 + 1) (f i633_law_row_right) (fd i633_law_row_right) ["_law_row_here"] (fnR 8 1 (m633_law_row_right T)) :=
  FnD.of M.F__law_row_right sc__law_row_right sm fun cdv A outer s H E cl => (DSs.cons (by first | exact (DS.par3 (i := 1) (j := 2) (l := 3) cl.calm cl.nd rfl rfl rfl (by decide) (by decide) (by decide) rfl rfl rfl (DA.cons (DE.call cl ((IH i305_law_marks (by decide)).mono (by omega)) (by rfl) M.g__law_marks M.F__law_marks.kp M.a__law_marks (DA.cons (DE.var 0) DA.nil)) (DA.cons (DE.callB (ca_repr cl) (by rfl) M.b_repr rfl (DA.cons (DE.var 0) DA.nil)) (DA.cons (DN.new (DN.lst cl DA.nil)) DA.nil))) rfl) | exact (DS.parG cl.calm (DA.cons (DE.call cl ((IH i305_law_marks (by decide)).mono (by omega)) (by rfl) M.g__law_marks M.F__law_marks.kp M.a__law_marks (DA.cons (DE.var 0) DA.nil)) (DA.cons (DE.callB (ca_repr cl) (by rfl) M.b_repr rfl (DA.cons (DE.var 0) DA.nil)) (DA.cons (DN.new (DN.lst cl DA.nil)) DA.nil))) (DGs.cons (DG.name (i := 1) cl.nd rfl (by first | exact Or.inl rfl | exact Or.inr rfl)) (DGs.cons (DG.name (i := 2) cl.nd rfl (by first | exact Or.inl rfl | exact Or.inr rfl)) (DGs.cons (DG.name (i := 3) cl.nd rfl (by first | exact Or.inl rfl | exact Or.inr rfl)) DGs.nil))) (gl1 (gl1 (gl1 gl0))))) (DSs.cons (DS.fr PassesOwn.leaving cl.calm (DI.any (DE.call cl ((IH i306_law_index_sets (by decide)).mono (by omega)) (by rfl) M.g__law_index_sets M.F__law_index_sets.kp M.a__law_index_sets (DA.cons (DE.callB ca_len (by rfl) M.b_len rfl (DA.cons (DE.var 0) DA.nil)) DA.nil))) (DG.name (i := 4) cl.nd rfl (by first | exact Or.inl rfl | exact Or.inr rfl)) (DSs.cons (DS.ifs (DW.t (DW.and (DT.cmp (op_gNe cl) (DE.var 3) (DN.dat (DN.lst cl DA.nil))) (DW.and1 (DT.cmp op_gGt (DE.callB ca_len (by rfl) M.b_len rfl (DA.cons (DE.var 4) DA.nil)) (DE.callB ca_len (by rfl) M.b_len rfl (DA.cons (DE.ix ix_gIx (DE.var 3) DE.int) DA.nil)))))) (DSs.one DS.brk) DSs.nil) (DSs.one (DS.ifs (DT.cmp (op_gEq cl) (DE.call cl ((IH i307_law_open (by decide)).mono (by omega)) (by rfl) M.g__law_open M.F__law_open.kp M.a__law_open (DA.cons (DE.var 1) (DA.cons (DN.dat (DN.lcc (own := [("_law_index", 7)]) cl (DI.any (DE.var 4)) (blkOk_by (by rfl)) (fun _ h => h) (fun s H D d fp cl1 => (DG.name (i := 7) cl1.nd rfl (by first | exact Or.inl rfl | exact Or.inr rfl))) (fun s H D d fp cl1 => lc_all) (fun s H D d fp cl1 => (DE.ix ix_gIx (DE.var 0) (DE.var 7))))) DA.nil))) (DN.dat (DN.lst cl DA.nil))) (DSs.one (DS.expr (DE.app (DE.var 3) (DE.var 4)))) DSs.nil)))) (DSs.cons (DS.ifs (DW.t (DW.or (DT.cmp (op_gNe cl) (DE.callB (ca_repr cl) (by rfl) M.b_repr rfl (DA.cons (DE.call cl ((IH i630_fewest_spans (by decide)).mono (by omega)) (by rfl) M.g_fewest_spans M.F_fewest_spans.kp M.a_fewest_spans (DA.cons (DE.var 0) DA.nil)) DA.nil)) (DE.callB (ca_repr cl) (by rfl) M.b_repr rfl (DA.cons (DE.ix ix_gIx (DE.var 3) DE.int) DA.nil))) (DW.or1 (DT.cmp (op_gNe cl) (DE.callB (ca_repr cl) (by rfl) M.b_repr rfl (DA.cons (DE.call cl ((IH i629_set_count (by decide)).mono (by omega)) (by rfl) M.g_set_count M.F_set_count.kp M.a_set_count (DA.cons (DE.var 0) DA.nil)) DA.nil)) (DE.callB (ca_repr cl) (by rfl) M.b_repr rfl (DA.cons (DE.callB ca_len (by rfl) M.b_len rfl (DA.cons (DE.var 3) DA.nil)) DA.nil)))))) (DSs.one (DS.ret DE.bl)) DSs.nil) (DSs.cons (DS.set (i := 5) cl.nd rfl (by first | exact Or.inl rfl | exact Or.inr rfl) (DN.dat (DN.lrg cl (by rfl) M.b_list (by rfl) M.b_range (DE.callB ca_len (by rfl) M.b_len rfl (DA.cons (DE.var 0) DA.nil))))) (DSs.cons (DS.set (i := 6) cl.nd rfl (by first | exact Or.inl rfl | exact Or.inr rfl) (DE.callTy ca_tuple (by rfl) M.b_tuple rfl (DA.cons (DN.dat (DN.lcc (own := [("_law_index", 7)]) cl (DI.any (DE.var 5)) (blkOk_by (by rfl)) (fun _ h => h) (fun s H D d fp cl1 => (DG.name (i := 7) cl1.nd rfl (by first | exact Or.inl rfl | exact Or.inr rfl))) (fun s H D d fp cl1 => (lc_if (DT.truth (DE.callB (ca_any cl1) (by rfl) M.b_any rfl (DA.cons (DN.dat (DN.lcc (own := [("_law_some", 4)]) cl1 (DI.any (DE.var 3)) (blkOk_by (by rfl)) (fun _ h => h) (fun s H D d fp cl2 => (DG.name (i := 4) cl2.nd rfl (by first | exact Or.inl rfl | exact Or.inr rfl))) (fun s H D d fp cl2 => lc_all) (fun s H D d fp cl2 => (DE.cmp (op_gIn cl2) (DE.var 7) (DE.var 4))))) DA.nil))))) (fun s H D d fp cl1 => (DE.var 7)))) DA.nil))) (DSs.cons (DS.ifs (DT.cmp (op_gNe cl) (DE.callB (ca_repr cl) (by rfl) M.b_repr rfl (DA.cons (DE.call cl ((IH i631_in_some_set (by decide)).mono (by omega)) (by rfl) M.g_in_some_set M.F_in_some_set.kp M.a_in_some_set (DA.cons (DE.var 0) DA.nil)) DA.nil)) (DE.callB (ca_repr cl) (by rfl) M.b_repr rfl (DA.cons (DE.var 6) DA.nil))) (DSs.one (DS.ret DE.bl)) DSs.nil) (DSs.cons (DS.set (i := 6) cl.nd rfl (by first | exact Or.inl rfl | exact Or.inr rfl) (DE.callTy ca_tuple (by rfl) M.b_tuple rfl (DA.cons (DN.dat (DN.lcc (own := [("_law_index", 7)]) cl (DI.any (DE.var 5)) (blkOk_by (by rfl)) (fun _ h => h) (fun s H D d fp cl1 => (DG.name (i := 7) cl1.nd rfl (by first | exact Or.inl rfl | exact Or.inr rfl))) (fun s H D d fp cl1 => (lc_if (DT.truth (DE.callB (ca_all cl1) (by rfl) M.b_all rfl (DA.cons (DN.dat (DN.lcc (own := [("_law_some", 4)]) cl1 (DI.any (DE.var 3)) (blkOk_by (by rfl)) (fun _ h => h) (fun s H D d fp cl2 => (DG.name (i := 4) cl2.nd rfl (by first | exact Or.inl rfl | exact Or.inr rfl))) (fun s H D d fp cl2 => lc_all) (fun s H D d fp cl2 => (DE.cmp (op_gIn cl2) (DE.var 7) (DE.var 4))))) DA.nil))))) (fun s H D d fp cl1 => (DE.var 7)))) DA.nil))) (DSs.one (DS.ret (DE.and (DE.cmp (op_gEq cl) (DE.callB (ca_repr cl) (by rfl) M.b_repr rfl (DA.cons (DE.call cl ((IH i632_in_each_set (by decide)).mono (by omega)) (by rfl) M.g_in_each_set M.F_in_each_set.kp M.a_in_each_set (DA.cons (DE.var 0) DA.nil)) DA.nil)) (DE.callB (ca_repr cl) (by rfl) M.b_repr rfl (DA.cons (DE.var 6) DA.nil))) (DE.one (DE.cmp (op_gEq cl) (DE.callB (ca_repr cl) (by rfl) M.b_repr rfl (DA.cons (DE.var 0) DA.nil)) (DE.var 2)))))))))))))
theorem ok__law_right (M : Md K mg κ w f fd cL pL) (TB : ∀ i ∈ ([i306_law_index_sets] : List Nat), LamX.TabB base mg (cL i) (pL i)) (sm : ∃ o, base.get? sysModules = some o) (IH : ∀ i ∈ ids, FnD κ P w K mg base (3 * k + 3) (f i) (fd i) (psT i) (T i)) : FnD κ P w K mg base (3 * k + 5 + 1) (f i634_law_right) (fd i634_law_right) ["_law_hand_here"] (fnR 2 1 (m634_law_right T)) :=
  FnD.of M.F__law_right sc__law_right sm fun cdv A outer s H E cl => (DSs.one (DS.ret (DE.callB (ca_all cl) (by rfl) M.b_all rfl (DA.cons (DN.dat (DN.lcc (own := [("_law_turn", 1)]) cl (DI.rng1 (by rfl) M.b_range (DA.cons DE.int DA.nil)) (blkOk_by (by rfl)) (fun _ h => h) (fun s H D d fp cl1 => (DG.name (i := 1) cl1.nd rfl (by first | exact Or.inl rfl | exact Or.inr rfl))) (fun s H D d fp cl1 => lc_all) (fun s H D d fp cl1 => (DE.call cl1 ((IH i633_law_row_right (by decide)).mono (by omega)) (by rfl) M.g__law_row_right M.F__law_row_right.kp M.a__law_row_right (DA.cons (DE.call cl1 ((IH i288_law_row (by decide)).mono (by omega)) (by rfl) M.g__law_row M.F__law_row.kp M.a__law_row (DA.cons (DE.var 0) (DA.cons DE.int DA.nil))) DA.nil))))) DA.nil))))
theorem ok_law (M : Md K mg κ w f fd cL pL) (TB : ∀ i ∈ ([i306_law_index_sets] : List Nat), LamX.TabB base mg (cL i) (pL i)) (sm : ∃ o, base.get? sysModules = some o) (IH : ∀ i ∈ ids, FnD κ P w K mg base (3 * k + 3) (f i) (fd i) (psT i) (T i)) : FnD κ P w K mg base (3 * k + 5 + 1) (f i1026_law) (fd i1026_law) ["_law_script"] (fnR 2 1 (m1026_law T)) :=
  FnD.of M.F_law sc_law sm fun cdv A outer s H E cl => (DSs.one (DS.ret (DE.callB (ca_all cl) (by rfl) M.b_all rfl (DA.cons (DN.dat (DN.lcc (own := [("_law_k", 1)]) cl (DI.rng1 (by rfl) M.b_range (DA.cons (DE.callB (ca_max cl) (by rfl) M.b_max rfl (DA.cons DE.int (DA.cons (DE.callB (ca_min cl) (by rfl) M.b_min rfl (DA.cons DE.int (DA.cons (DE.callB ca_len (by rfl) M.b_len rfl (DA.cons (DE.var 0) DA.nil)) DA.nil))) DA.nil))) DA.nil)) (blkOk_by (by rfl)) (fun _ h => h) (fun s H D d fp cl1 => (DG.name (i := 1) cl1.nd rfl (by first | exact Or.inl rfl | exact Or.inr rfl))) (fun s H D d fp cl1 => lc_all) (fun s H D d fp cl1 => (DE.call cl1 ((IH i634_law_right (by decide)).mono (by omega)) (by rfl) M.g__law_right M.F__law_right.kp M.a__law_right (DA.cons (DE.call cl1 ((IH i13_law_hand (by decide)).mono (by omega)) (by rfl) M.g__law_hand M.F__law_hand.kp M.a__law_hand (DA.cons (DE.var 0) (DA.cons (DE.var 1) DA.nil))) DA.nil))))) DA.nil))))
end
theorem all_ok {κ : Kap} {P : Program} {w : World} {K : PySem.W.Frag} {mg : Str → Option Value} {base : Heap} {f : Nat → Addr} {fd : Nat → FuncData} {cL pL : Nat → Addr} (M : Md K mg κ w f fd cL pL) (TB : ∀ i ∈ ([i306_law_index_sets] : List Nat), LamX.TabB base mg (cL i) (pL i)) (sm : ∃ o, base.get? sysModules = some o) : ∀ (k i : Nat), i ∈ ids → FnD κ P w K mg base (3 * k + 3) (f i) (fd i) (psT i) (T k i)
  | 0, i, _ => FnD.bad
  | k + 1, i, hi => by
    have IH := all_ok (P := P) (w := w) (base := base) M TB sm k
    revert i
    exact List.forall_mem_cons.mpr ⟨ok_blocks_of M TB sm IH, List.forall_mem_cons.mpr ⟨ok_Covers___init__ M TB sm IH, List.forall_mem_cons.mpr ⟨ok_Covers_busy_from M TB sm IH, List.forall_mem_cons.mpr ⟨ok_Covers_look_at M TB sm IH, List.forall_mem_cons.mpr ⟨ok_Covers_mark M TB sm IH, List.forall_mem_cons.mpr ⟨ok_Covers_uses M TB sm IH, List.forall_mem_cons.mpr ⟨ok_fewest_spans M TB sm IH, List.forall_mem_cons.mpr ⟨ok_set_count M TB sm IH, List.forall_mem_cons.mpr ⟨ok_in_some_set M TB sm IH, List.forall_mem_cons.mpr ⟨ok_in_each_set M TB sm IH, List.forall_mem_cons.mpr ⟨ok__law_hand M TB sm IH, List.forall_mem_cons.mpr ⟨ok__law_take M TB sm IH, List.forall_mem_cons.mpr ⟨ok__law_of M TB sm IH, List.forall_mem_cons.mpr ⟨ok__law_row M TB sm IH, List.forall_mem_cons.mpr ⟨ok__law_marks M TB sm IH, List.forall_mem_cons.mpr ⟨ok__law_has M TB sm IH, List.forall_mem_cons.mpr ⟨ok__law_open M TB sm IH, List.forall_mem_cons.mpr ⟨ok__law_index_sets M TB sm IH, List.forall_mem_cons.mpr ⟨ok__law_row_right M TB sm IH, List.forall_mem_cons.mpr ⟨ok__law_right M TB sm IH, List.forall_mem_cons.mpr ⟨ok_law M TB sm IH, fun _ h => nomatch h⟩⟩⟩⟩⟩⟩⟩⟩⟩⟩⟩⟩⟩⟩⟩⟩⟩⟩⟩⟩⟩
set_option maxHeartbeats 8000000 in
theorem all_mk {w : World} {K : PySem.W.Frag} {h : Heap} {mg : Str → Option Value} {fa : Addr} (X : K.In h) (G : h.Ns mainGlobals mg) (hfa : mg "law" = some (.ref fa)) {P : Program}
    (LT : ∀ ns : List Int, ns.length ≤ 63 → (∀ i ∈ ns, Builtin.Int.intBits i ≤ 1048576) → ∃ μ, T 57 i1026_law [.scr ns] [] = .ok (.bl true) μ)
    {f0 : Addr} {od0 an0 : Option Addr} {sl0 : Array (Option Value)} {oc0 kV0 dc0 pm0 cd0 ct0 : Value}
    {f1 : Addr} {od1 an1 : Option Addr} {sl1 : Array (Option Value)} {oc1 kV1 dc1 pm1 cd1 ct1 : Value}
    {f2 : Addr} {od2 an2 : Option Addr} {sl2 : Array (Option Value)} {oc2 kV2 dc2 pm2 cd2 ct2 : Value}
    {f3 : Addr} {od3 an3 : Option Addr} {sl3 : Array (Option Value)} {oc3 kV3 dc3 pm3 cd3 ct3 : Value}
    {f4 : Addr} {od4 an4 : Option Addr} {sl4 : Array (Option Value)} {oc4 kV4 dc4 pm4 cd4 ct4 : Value}
    {f5 : Addr} {od5 an5 : Option Addr} {sl5 : Array (Option Value)} {oc5 kV5 dc5 pm5 cd5 ct5 : Value}
    {f6 : Addr} {od6 an6 : Option Addr} {sl6 : Array (Option Value)} {oc6 kV6 dc6 pm6 cd6 ct6 : Value}
    {f7 : Addr} {od7 an7 : Option Addr} {sl7 : Array (Option Value)} {oc7 kV7 dc7 pm7 cd7 ct7 : Value}
    {f8 : Addr} {od8 an8 : Option Addr} {sl8 : Array (Option Value)} {oc8 kV8 dc8 pm8 cd8 ct8 : Value}
    {f9 : Addr} {od9 an9 : Option Addr} {sl9 : Array (Option Value)} {oc9 kV9 dc9 pm9 cd9 ct9 : Value}
    {f10 : Addr} {od10 an10 : Option Addr} {sl10 : Array (Option Value)} {oc10 kV10 dc10 pm10 cd10 ct10 : Value}
    {f11 : Addr} {od11 an11 : Option Addr} {sl11 : Array (Option Value)} {oc11 kV11 dc11 pm11 cd11 ct11 : Value}
    {f12 : Addr} {od12 an12 : Option Addr} {sl12 : Array (Option Value)} {oc12 kV12 dc12 pm12 cd12 ct12 : Value}
    {f13 : Addr} {od13 an13 : Option Addr} {sl13 : Array (Option Value)} {oc13 kV13 dc13 pm13 cd13 ct13 : Value}
    {f14 : Addr} {od14 an14 : Option Addr} {sl14 : Array (Option Value)} {oc14 kV14 dc14 pm14 cd14 ct14 : Value}
    {f15 : Addr} {od15 an15 : Option Addr} {sl15 : Array (Option Value)} {oc15 kV15 dc15 pm15 cd15 ct15 : Value}
    {f16 : Addr} {od16 an16 : Option Addr} {sl16 : Array (Option Value)} {oc16 kV16 dc16 pm16 cd16 ct16 : Value}
    {f17 : Addr} {od17 an17 : Option Addr} {sl17 : Array (Option Value)} {oc17 kV17 dc17 pm17 ct17 : Value}
    {f18 : Addr} {od18 an18 : Option Addr} {sl18 : Array (Option Value)} {oc18 kV18 dc18 pm18 cd18 ct18 : Value}
    {f19 : Addr} {od19 an19 : Option Addr} {sl19 : Array (Option Value)} {oc19 kV19 dc19 pm19 cd19 ct19 : Value}
    {f20 : Addr} {od20 an20 : Option Addr} {sl20 : Array (Option Value)} {oc20 kV20 dc20 pm20 cd20 ct20 : Value}
    (OT : ∀ dn ∈ (["_law_index_sets"] : List Str), ∀ fa', mg dn = some (.ref fa') → LamX.OwnTab K fa' h)
    (a0 : PySem.W.nsIn K mainGlobals "blocks_of" = some (some (.ref f0))) (l0 : K.lookup f0 = some ⟨oc0, od0, .func (PySem.W.fnOf "blocks_of" "blocks_of" (defArgs s_blocks_of) (defBody s_blocks_of) (defScope s_blocks_of) .none kV0 dc0 pm0 an0 cd0 ct0), sl0⟩) (d0 : PySem.W.codeIn K cd0 "blocks_of" = true) (k0 : PySem.W.keepIn K (.ref f0) = true)
    (l1 : K.lookup f1 = some ⟨oc1, od1, .func (PySem.W.fnOf "__init__" "Covers.__init__" (defArgs s_Covers___init__) (defBody s_Covers___init__) (defScope s_Covers___init__) .none kV1 dc1 pm1 an1 cd1 ct1), sl1⟩) (d1 : PySem.W.codeIn K cd1 "Covers.__init__" = true) (k1 : PySem.W.keepIn K (.ref f1) = true)
    (l2 : K.lookup f2 = some ⟨oc2, od2, .func (PySem.W.fnOf "busy_from" "Covers.busy_from" (defArgs s_Covers_busy_from) (defBody s_Covers_busy_from) (defScope s_Covers_busy_from) .none kV2 dc2 pm2 an2 cd2 ct2), sl2⟩) (d2 : PySem.W.codeIn K cd2 "Covers.busy_from" = true) (k2 : PySem.W.keepIn K (.ref f2) = true)
    (l3 : K.lookup f3 = some ⟨oc3, od3, .func (PySem.W.fnOf "look_at" "Covers.look_at" (defArgs s_Covers_look_at) (defBody s_Covers_look_at) (defScope s_Covers_look_at) .none kV3 dc3 pm3 an3 cd3 ct3), sl3⟩) (d3 : PySem.W.codeIn K cd3 "Covers.look_at" = true) (k3 : PySem.W.keepIn K (.ref f3) = true)
    (l4 : K.lookup f4 = some ⟨oc4, od4, .func (PySem.W.fnOf "mark" "Covers.mark" (defArgs s_Covers_mark) (defBody s_Covers_mark) (defScope s_Covers_mark) .none kV4 dc4 pm4 an4 cd4 ct4), sl4⟩) (d4 : PySem.W.codeIn K cd4 "Covers.mark" = true) (k4 : PySem.W.keepIn K (.ref f4) = true)
    (l5 : K.lookup f5 = some ⟨oc5, od5, .func (PySem.W.fnOf "uses" "Covers.uses" (defArgs s_Covers_uses) (defBody s_Covers_uses) (defScope s_Covers_uses) .none kV5 dc5 pm5 an5 cd5 ct5), sl5⟩) (d5 : PySem.W.codeIn K cd5 "Covers.uses" = true) (k5 : PySem.W.keepIn K (.ref f5) = true)
    (a6 : PySem.W.nsIn K mainGlobals "fewest_spans" = some (some (.ref f6))) (l6 : K.lookup f6 = some ⟨oc6, od6, .func (PySem.W.fnOf "fewest_spans" "fewest_spans" (defArgs s_fewest_spans) (defBody s_fewest_spans) (defScope s_fewest_spans) .none kV6 dc6 pm6 an6 cd6 ct6), sl6⟩) (d6 : PySem.W.codeIn K cd6 "fewest_spans" = true) (k6 : PySem.W.keepIn K (.ref f6) = true)
    (a7 : PySem.W.nsIn K mainGlobals "set_count" = some (some (.ref f7))) (l7 : K.lookup f7 = some ⟨oc7, od7, .func (PySem.W.fnOf "set_count" "set_count" (defArgs s_set_count) (defBody s_set_count) (defScope s_set_count) .none kV7 dc7 pm7 an7 cd7 ct7), sl7⟩) (d7 : PySem.W.codeIn K cd7 "set_count" = true) (k7 : PySem.W.keepIn K (.ref f7) = true)
    (a8 : PySem.W.nsIn K mainGlobals "in_some_set" = some (some (.ref f8))) (l8 : K.lookup f8 = some ⟨oc8, od8, .func (PySem.W.fnOf "in_some_set" "in_some_set" (defArgs s_in_some_set) (defBody s_in_some_set) (defScope s_in_some_set) .none kV8 dc8 pm8 an8 cd8 ct8), sl8⟩) (d8 : PySem.W.codeIn K cd8 "in_some_set" = true) (k8 : PySem.W.keepIn K (.ref f8) = true)
    (a9 : PySem.W.nsIn K mainGlobals "in_each_set" = some (some (.ref f9))) (l9 : K.lookup f9 = some ⟨oc9, od9, .func (PySem.W.fnOf "in_each_set" "in_each_set" (defArgs s_in_each_set) (defBody s_in_each_set) (defScope s_in_each_set) .none kV9 dc9 pm9 an9 cd9 ct9), sl9⟩) (d9 : PySem.W.codeIn K cd9 "in_each_set" = true) (k9 : PySem.W.keepIn K (.ref f9) = true)
    (a10 : PySem.W.nsIn K mainGlobals "_law_hand" = some (some (.ref f10))) (l10 : K.lookup f10 = some ⟨oc10, od10, .func (PySem.W.fnOf "_law_hand" "_law_hand" (defArgs s__law_hand) (defBody s__law_hand) (defScope s__law_hand) .none kV10 dc10 pm10 an10 cd10 ct10), sl10⟩) (d10 : PySem.W.codeIn K cd10 "_law_hand" = true) (k10 : PySem.W.keepIn K (.ref f10) = true)
    (a11 : PySem.W.nsIn K mainGlobals "_law_take" = some (some (.ref f11))) (l11 : K.lookup f11 = some ⟨oc11, od11, .func (PySem.W.fnOf "_law_take" "_law_take" (defArgs s__law_take) (defBody s__law_take) (defScope s__law_take) .none kV11 dc11 pm11 an11 cd11 ct11), sl11⟩) (d11 : PySem.W.codeIn K cd11 "_law_take" = true) (k11 : PySem.W.keepIn K (.ref f11) = true)
    (a12 : PySem.W.nsIn K mainGlobals "_law_of" = some (some (.ref f12))) (l12 : K.lookup f12 = some ⟨oc12, od12, .func (PySem.W.fnOf "_law_of" "_law_of" (defArgs s__law_of) (defBody s__law_of) (defScope s__law_of) .none kV12 dc12 pm12 an12 cd12 ct12), sl12⟩) (d12 : PySem.W.codeIn K cd12 "_law_of" = true) (k12 : PySem.W.keepIn K (.ref f12) = true)
    (a13 : PySem.W.nsIn K mainGlobals "_law_row" = some (some (.ref f13))) (l13 : K.lookup f13 = some ⟨oc13, od13, .func (PySem.W.fnOf "_law_row" "_law_row" (defArgs s__law_row) (defBody s__law_row) (defScope s__law_row) .none kV13 dc13 pm13 an13 cd13 ct13), sl13⟩) (d13 : PySem.W.codeIn K cd13 "_law_row" = true) (k13 : PySem.W.keepIn K (.ref f13) = true)
    (a14 : PySem.W.nsIn K mainGlobals "_law_marks" = some (some (.ref f14))) (l14 : K.lookup f14 = some ⟨oc14, od14, .func (PySem.W.fnOf "_law_marks" "_law_marks" (defArgs s__law_marks) (defBody s__law_marks) (defScope s__law_marks) .none kV14 dc14 pm14 an14 cd14 ct14), sl14⟩) (d14 : PySem.W.codeIn K cd14 "_law_marks" = true) (k14 : PySem.W.keepIn K (.ref f14) = true)
    (a15 : PySem.W.nsIn K mainGlobals "_law_has" = some (some (.ref f15))) (l15 : K.lookup f15 = some ⟨oc15, od15, .func (PySem.W.fnOf "_law_has" "_law_has" (defArgs s__law_has) (defBody s__law_has) (defScope s__law_has) .none kV15 dc15 pm15 an15 cd15 ct15), sl15⟩) (d15 : PySem.W.codeIn K cd15 "_law_has" = true) (k15 : PySem.W.keepIn K (.ref f15) = true)
    (a16 : PySem.W.nsIn K mainGlobals "_law_open" = some (some (.ref f16))) (l16 : K.lookup f16 = some ⟨oc16, od16, .func (PySem.W.fnOf "_law_open" "_law_open" (defArgs s__law_open) (defBody s__law_open) (defScope s__law_open) .none kV16 dc16 pm16 an16 cd16 ct16), sl16⟩) (d16 : PySem.W.codeIn K cd16 "_law_open" = true) (k16 : PySem.W.keepIn K (.ref f16) = true)
    {cL17 pL17 : Addr} {eL17 : Value} {dL17 : Option Addr} {vL17 : Array Value} {sL17 : Array (Option Value)}
    (a17 : PySem.W.nsIn K mainGlobals "_law_index_sets" = some (some (.ref f17))) (l17 : K.lookup f17 = some ⟨oc17, od17, .func (PySem.W.fnOf "_law_index_sets" "_law_index_sets" (defArgs s__law_index_sets) (defBody s__law_index_sets) (defScope s__law_index_sets) .none kV17 dc17 pm17 an17 (.ref cL17) ct17), sl17⟩) (d17 : PySem.W.codeIn K (.ref cL17) "_law_index_sets" = true) (k17 : PySem.W.keepIn K (.ref f17) = true)
    (kc17 : K.lookup cL17 = some ⟨eL17, dL17, .fields vL17, sL17⟩) (kv17 : vL17[11]? = some (.ref pL17)) (kn17 : K.lookup pL17 = none) (kh17 : PySem.W.codeHdIn K cL17 pL17 = true)
    (a18 : PySem.W.nsIn K mainGlobals "_law_row_right" = some (some (.ref f18))) (l18 : K.lookup f18 = some ⟨oc18, od18, .func (PySem.W.fnOf "_law_row_right" "_law_row_right" (defArgs s__law_row_right) (defBody s__law_row_right) (defScope s__law_row_right) .none kV18 dc18 pm18 an18 cd18 ct18), sl18⟩) (d18 : PySem.W.codeIn K cd18 "_law_row_right" = true) (k18 : PySem.W.keepIn K (.ref f18) = true)
    (a19 : PySem.W.nsIn K mainGlobals "_law_right" = some (some (.ref f19))) (l19 : K.lookup f19 = some ⟨oc19, od19, .func (PySem.W.fnOf "_law_right" "_law_right" (defArgs s__law_right) (defBody s__law_right) (defScope s__law_right) .none kV19 dc19 pm19 an19 cd19 ct19), sl19⟩) (d19 : PySem.W.codeIn K cd19 "_law_right" = true) (k19 : PySem.W.keepIn K (.ref f19) = true)
    (a20 : PySem.W.nsIn K mainGlobals "law" = some (some (.ref f20))) (l20 : K.lookup f20 = some ⟨oc20, od20, .func (PySem.W.fnOf "law" "law" (defArgs s_law) (defBody s_law) (defScope s_law) .none kV20 dc20 pm20 an20 cd20 ct20), sl20⟩) (d20 : PySem.W.codeIn K cd20 "law" = true) (k20 : PySem.W.keepIn K (.ref f20) = true)
    {X105 : Addr} (oa105 : PySem.W.nsIn K mainGlobals "Covers" = some (some (.ref X105))) (ob105 : PySem.W.plainGet K X105 Str.empty = true) (oc_105 : PySem.W.hasDictIn K X105 = true) (od_105 : PySem.W.plainOver K X105 = true) (oe105 : PySem.W.findIn K (.ref X105) "__setattr__" = some (some (.builtin "object.__setattr__")))
    (of0 : PySem.W.findIn K (.ref X105) "row" = some none)
    (of1 : PySem.W.findIn K (.ref X105) "blocks" = some none)
    (of2 : PySem.W.findIn K (.ref X105) "later" = some none)
    (of3 : PySem.W.findIn K (.ref X105) "start" = some none)
    (of4 : PySem.W.findIn K (.ref X105) "places" = some none)
    (of5 : PySem.W.findIn K (.ref X105) "fewest" = some none)
    (of6 : PySem.W.findIn K (.ref X105) "ways" = some none)
    (of7 : PySem.W.findIn K (.ref X105) "best_marks" = some none)
    (of8 : PySem.W.findIn K (.ref X105) "first_spans" = some none)
    (om0 : PySem.W.findIn K (.ref X105) "busy_from" = some (some (.ref f2))) (on0 : PySem.W.isFn K (.ref f2) = true)
    (om1 : PySem.W.findIn K (.ref X105) "look_at" = some (some (.ref f3))) (on1 : PySem.W.isFn K (.ref f3) = true)
    (om2 : PySem.W.findIn K (.ref X105) "mark" = some (some (.ref f4))) (on2 : PySem.W.isFn K (.ref f4) = true)
    (om3 : PySem.W.findIn K (.ref X105) "uses" = some (some (.ref f5))) (on3 : PySem.W.isFn K (.ref f5) = true)
    (op0 : PySem.W.makesIn K X105 = true) (oq0 : PySem.W.findIn K (.ref X105) "__init__" = some (some (.ref f1))) (or0 : PySem.W.isFn K (.ref f1) = true) (os0 : PySem.W.keepIn K (.ref X105) = true)
    (ndp : [pL17].Nodup)
    (z_sorted : PySem.W.nsIn K mainGlobals "sorted" = some none)
    (z_max : PySem.W.nsIn K mainGlobals "max" = some none)
    (z_enumerate : PySem.W.nsIn K mainGlobals "enumerate" = some none)
    (z_min : PySem.W.nsIn K mainGlobals "min" = some none)
    (z_sum : PySem.W.nsIn K mainGlobals "sum" = some none)
    (z_len : PySem.W.nsIn K mainGlobals "len" = some none)
    (z_tuple : PySem.W.nsIn K mainGlobals "tuple" = some none)
    (z_range : PySem.W.nsIn K mainGlobals "range" = some none)
    (z_abs : PySem.W.nsIn K mainGlobals "abs" = some none)
    (z_int : PySem.W.nsIn K mainGlobals "int" = some none)
    (z_set : PySem.W.nsIn K mainGlobals "set" = some none)
    (z_any : PySem.W.nsIn K mainGlobals "any" = some none)
    (z_repr : PySem.W.nsIn K mainGlobals "repr" = some none)
    (z_list : PySem.W.nsIn K mainGlobals "list" = some none)
    (z_all : PySem.W.nsIn K mainGlobals "all" = some none)
    : ∃ (fd : FuncData) (κ : Kap) (cs : List (Addr × Addr)) (r : Fn), (∀ p ∈ cs, h.get? p.2 = some { cls := .none, data := .fields #[] }) ∧ (∀ p ∈ cs, K.lookup p.2 = none) ∧ (∀ p ∈ cs, PySem.W.CodeHd h p.1 p.2) ∧ (∀ p ∈ κ.T, p.1 ∈ cs.map (·.2)) ∧
      (∀ (s : Shared) (u : Value), BindsTo s fd ⟨[u], []⟩ [("_law_script", u)]) ∧ (∀ ns : List Int, ns.length ≤ 63 → (∀ i ∈ ns, Builtin.Int.intBits i ≤ 1048576) → ∃ μ, r [.scr ns] [] = .ok (.bl true) μ) ∧
      ∀ base : Heap, K.In base → base.Ns mainGlobals mg → (∃ o, base.get? sysModules = some o) → (∀ p ∈ cs, LamX.TabB base mg p.1 p.2) → FnD κ P w K mg base 174 fa fd ["_law_script"] r := by
  have e := hfa.symm.trans (PySem.W.mg_of X G a20)
  cases e
  have F0 := fun_mk (st := s_blocks_of) l0 d0 k0
  have F1 := fun_mk (st := s_Covers___init__) l1 d1 k1
  have F2 := fun_mk (st := s_Covers_busy_from) l2 d2 k2
  have F3 := fun_mk (st := s_Covers_look_at) l3 d3 k3
  have F4 := fun_mk (st := s_Covers_mark) l4 d4 k4
  have F5 := fun_mk (st := s_Covers_uses) l5 d5 k5
  have F6 := fun_mk (st := s_fewest_spans) l6 d6 k6
  have F7 := fun_mk (st := s_set_count) l7 d7 k7
  have F8 := fun_mk (st := s_in_some_set) l8 d8 k8
  have F9 := fun_mk (st := s_in_each_set) l9 d9 k9
  have F10 := fun_mk (st := s__law_hand) l10 d10 k10
  have F11 := fun_mk (st := s__law_take) l11 d11 k11
  have F12 := fun_mk (st := s__law_of) l12 d12 k12
  have F13 := fun_mk (st := s__law_row) l13 d13 k13
  have F14 := fun_mk (st := s__law_marks) l14 d14 k14
  have F15 := fun_mk (st := s__law_has) l15 d15 k15
  have F16 := fun_mk (st := s__law_open) l16 d16 k16
  have F17 := fun_mk (st := s__law_index_sets) l17 d17 k17
  have F18 := fun_mk (st := s__law_row_right) l18 d18 k18
  have F19 := fun_mk (st := s__law_right) l19 d19 k19
  have F20 := fun_mk (st := s_law) l20 d20 k20
  have M : Md K mg (⟨kap [(105, X105)] f0, [(pL17, (PyProof.Rows.envOfC "_law_index_sets" (defScope s__law_index_sets) 0 0 .none).qual ++ ("<lambda>" : Str))], some w⟩ : Kap) w (fun i => match i with | 293 => f0 | 626 => f1 | 625 => f2 | 1019 => f3 | 756 => f4 | 757 => f5 | 630 => f6 | 629 => f7 | 631 => f8 | 632 => f9 | 13 => f10 | 2 => f11 | 3 => f12 | 288 => f13 | 305 => f14 | 295 => f15 | 307 => f16 | 306 => f17 | 633 => f18 | 634 => f19 | 1026 => fa | _ => fa) (fun i => match i with | 293 => PySem.W.fnOf "blocks_of" "blocks_of" (defArgs s_blocks_of) (defBody s_blocks_of) (defScope s_blocks_of) .none kV0 dc0 pm0 an0 cd0 ct0 | 626 => PySem.W.fnOf "__init__" "Covers.__init__" (defArgs s_Covers___init__) (defBody s_Covers___init__) (defScope s_Covers___init__) .none kV1 dc1 pm1 an1 cd1 ct1 | 625 => PySem.W.fnOf "busy_from" "Covers.busy_from" (defArgs s_Covers_busy_from) (defBody s_Covers_busy_from) (defScope s_Covers_busy_from) .none kV2 dc2 pm2 an2 cd2 ct2 | 1019 => PySem.W.fnOf "look_at" "Covers.look_at" (defArgs s_Covers_look_at) (defBody s_Covers_look_at) (defScope s_Covers_look_at) .none kV3 dc3 pm3 an3 cd3 ct3 | 756 => PySem.W.fnOf "mark" "Covers.mark" (defArgs s_Covers_mark) (defBody s_Covers_mark) (defScope s_Covers_mark) .none kV4 dc4 pm4 an4 cd4 ct4 | 757 => PySem.W.fnOf "uses" "Covers.uses" (defArgs s_Covers_uses) (defBody s_Covers_uses) (defScope s_Covers_uses) .none kV5 dc5 pm5 an5 cd5 ct5 | 630 => PySem.W.fnOf "fewest_spans" "fewest_spans" (defArgs s_fewest_spans) (defBody s_fewest_spans) (defScope s_fewest_spans) .none kV6 dc6 pm6 an6 cd6 ct6 | 629 => PySem.W.fnOf "set_count" "set_count" (defArgs s_set_count) (defBody s_set_count) (defScope s_set_count) .none kV7 dc7 pm7 an7 cd7 ct7 | 631 => PySem.W.fnOf "in_some_set" "in_some_set" (defArgs s_in_some_set) (defBody s_in_some_set) (defScope s_in_some_set) .none kV8 dc8 pm8 an8 cd8 ct8 | 632 => PySem.W.fnOf "in_each_set" "in_each_set" (defArgs s_in_each_set) (defBody s_in_each_set) (defScope s_in_each_set) .none kV9 dc9 pm9 an9 cd9 ct9 | 13 => PySem.W.fnOf "_law_hand" "_law_hand" (defArgs s__law_hand) (defBody s__law_hand) (defScope s__law_hand) .none kV10 dc10 pm10 an10 cd10 ct10 | 2 => PySem.W.fnOf "_law_take" "_law_take" (defArgs s__law_take) (defBody s__law_take) (defScope s__law_take) .none kV11 dc11 pm11 an11 cd11 ct11 | 3 => PySem.W.fnOf "_law_of" "_law_of" (defArgs s__law_of) (defBody s__law_of) (defScope s__law_of) .none kV12 dc12 pm12 an12 cd12 ct12 | 288 => PySem.W.fnOf "_law_row" "_law_row" (defArgs s__law_row) (defBody s__law_row) (defScope s__law_row) .none kV13 dc13 pm13 an13 cd13 ct13 | 305 => PySem.W.fnOf "_law_marks" "_law_marks" (defArgs s__law_marks) (defBody s__law_marks) (defScope s__law_marks) .none kV14 dc14 pm14 an14 cd14 ct14 | 295 => PySem.W.fnOf "_law_has" "_law_has" (defArgs s__law_has) (defBody s__law_has) (defScope s__law_has) .none kV15 dc15 pm15 an15 cd15 ct15 | 307 => PySem.W.fnOf "_law_open" "_law_open" (defArgs s__law_open) (defBody s__law_open) (defScope s__law_open) .none kV16 dc16 pm16 an16 cd16 ct16 | 306 => PySem.W.fnOf "_law_index_sets" "_law_index_sets" (defArgs s__law_index_sets) (defBody s__law_index_sets) (defScope s__law_index_sets) .none kV17 dc17 pm17 an17 (.ref cL17) ct17 | 633 => PySem.W.fnOf "_law_row_right" "_law_row_right" (defArgs s__law_row_right) (defBody s__law_row_right) (defScope s__law_row_right) .none kV18 dc18 pm18 an18 cd18 ct18 | 634 => PySem.W.fnOf "_law_right" "_law_right" (defArgs s__law_right) (defBody s__law_right) (defScope s__law_right) .none kV19 dc19 pm19 an19 cd19 ct19 | 1026 => PySem.W.fnOf "law" "law" (defArgs s_law) (defBody s_law) (defScope s_law) .none kV20 dc20 pm20 an20 cd20 ct20 | _ => PySem.W.fnOf "law" "law" (defArgs s_law) (defBody s_law) (defScope s_law) .none kV20 dc20 pm20 an20 cd20 ct20) (fun i => match i with | 306 => cL17 | _ => 0) (fun i => match i with | 306 => pL17 | _ => 0) := { hw := rfl, kc_Covers := ⟨ob105, oc_105, od_105, oe105⟩, kf_Covers_row := of0, kf_Covers_blocks := of1, kf_Covers_later := of2, kf_Covers_start := of3, kf_Covers_places := of4, kf_Covers_fewest := of5, kf_Covers_ways := of6, kf_Covers_best_marks := of7, kf_Covers_first_spans := of8, km_Covers_busy_from := ⟨om0, on0, k2⟩, km_Covers_look_at := ⟨om1, on1, k3⟩, km_Covers_mark := ⟨om2, on2, k4⟩, km_Covers_uses := ⟨om3, on3, k5⟩, kg_Covers := PySem.W.mg_of X G oa105, kk_Covers := ⟨op0, oq0, or0, os0⟩, co__law_index_sets := rfl, hm__law_index_sets := (.head _), hu__law_index_sets := tab_hu (L := [(pL17, (PyProof.Rows.envOfC "_law_index_sets" (defScope s__law_index_sets) 0 0 .none).qual ++ ("<lambda>" : Str))]) ndp (.head _), F_blocks_of := F0, g_blocks_of := PySem.W.mg_of X G a0, a_blocks_of := F0.binds fun _ _ _ _ _ _ us hl => match us, hl with | [_], _ => rfl, F_Covers___init__ := F1, a_Covers___init__ := F1.binds fun _ _ _ _ _ _ us hl => match us, hl with | [_, _], _ => rfl, F_Covers_busy_from := F2, a_Covers_busy_from := F2.binds fun _ _ _ _ _ _ us hl => match us, hl with | [_, _], _ => rfl, F_Covers_look_at := F3, a_Covers_look_at := F3.binds fun _ _ _ _ _ _ us hl => match us, hl with | [_, _], _ => rfl, F_Covers_mark := F4, a_Covers_mark := F4.binds fun _ _ _ _ _ _ us hl => match us, hl with | [_, _], _ => rfl, F_Covers_uses := F5, a_Covers_uses := F5.binds fun _ _ _ _ _ _ us hl => match us, hl with | [_], _ => rfl, F_fewest_spans := F6, g_fewest_spans := PySem.W.mg_of X G a6, a_fewest_spans := F6.binds fun _ _ _ _ _ _ us hl => match us, hl with | [_], _ => rfl, F_set_count := F7, g_set_count := PySem.W.mg_of X G a7, a_set_count := F7.binds fun _ _ _ _ _ _ us hl => match us, hl with | [_], _ => rfl, F_in_some_set := F8, g_in_some_set := PySem.W.mg_of X G a8, a_in_some_set := F8.binds fun _ _ _ _ _ _ us hl => match us, hl with | [_], _ => rfl, F_in_each_set := F9, g_in_each_set := PySem.W.mg_of X G a9, a_in_each_set := F9.binds fun _ _ _ _ _ _ us hl => match us, hl with | [_], _ => rfl, F__law_hand := F10, g__law_hand := PySem.W.mg_of X G a10, a__law_hand := F10.binds fun _ _ _ _ _ _ us hl => match us, hl with | [_, _], _ => rfl, F__law_take := F11, g__law_take := PySem.W.mg_of X G a11, a__law_take := F11.binds fun _ _ _ _ _ _ us hl => match us, hl with | [_, _], _ => rfl, F__law_of := F12, g__law_of := PySem.W.mg_of X G a12, a__law_of := F12.binds fun _ _ _ _ _ _ us hl => match us, hl with | [_, _], _ => rfl, F__law_row := F13, g__law_row := PySem.W.mg_of X G a13, a__law_row := F13.binds fun _ _ _ _ _ _ us hl => match us, hl with | [_, _], _ => rfl, F__law_marks := F14, g__law_marks := PySem.W.mg_of X G a14, a__law_marks := F14.binds fun _ _ _ _ _ _ us hl => match us, hl with | [_], _ => rfl, F__law_has := F15, g__law_has := PySem.W.mg_of X G a15, a__law_has := F15.binds fun _ _ _ _ _ _ us hl => match us, hl with | [_, _], _ => rfl, F__law_open := F16, g__law_open := PySem.W.mg_of X G a16, a__law_open := F16.binds fun _ _ _ _ _ _ us hl => match us, hl with | [_, _], _ => rfl, F__law_index_sets := F17, g__law_index_sets := PySem.W.mg_of X G a17, a__law_index_sets := F17.binds fun _ _ _ _ _ _ us hl => match us, hl with | [_], _ => rfl, F__law_row_right := F18, g__law_row_right := PySem.W.mg_of X G a18, a__law_row_right := F18.binds fun _ _ _ _ _ _ us hl => match us, hl with | [_], _ => rfl, F__law_right := F19, g__law_right := PySem.W.mg_of X G a19, a__law_right := F19.binds fun _ _ _ _ _ _ us hl => match us, hl with | [_], _ => rfl, F_law := F20, g_law := PySem.W.mg_of X G a20, a_law := F20.binds fun _ _ _ _ _ _ us hl => match us, hl with | [_], _ => rfl, b_sorted := PySem.W.mg_none_of X G z_sorted, b_max := PySem.W.mg_none_of X G z_max, b_enumerate := PySem.W.mg_none_of X G z_enumerate, b_min := PySem.W.mg_none_of X G z_min, b_sum := PySem.W.mg_none_of X G z_sum, b_len := PySem.W.mg_none_of X G z_len, b_tuple := PySem.W.mg_none_of X G z_tuple, b_range := PySem.W.mg_none_of X G z_range, b_abs := PySem.W.mg_none_of X G z_abs, b_int := PySem.W.mg_none_of X G z_int, b_set := PySem.W.mg_none_of X G z_set, b_any := PySem.W.mg_none_of X G z_any, b_repr := PySem.W.mg_none_of X G z_repr, b_list := PySem.W.mg_none_of X G z_list, b_all := PySem.W.mg_none_of X G z_all }
  exact ⟨_, (⟨kap [(105, X105)] f0, [(pL17, (PyProof.Rows.envOfC "_law_index_sets" (defScope s__law_index_sets) 0 0 .none).qual ++ ("<lambda>" : Str))], some w⟩ : Kap), [(cL17, pL17)], T 57 i1026_law, List.forall_mem_cons.mpr ⟨tab_of (OT _ (.head _) _ (PySem.W.mg_of X G a17)) l17 rfl kc17 kv17, fun _ h => nomatch h⟩, List.forall_mem_cons.mpr ⟨kn17, fun _ h => nomatch h⟩, List.forall_mem_cons.mpr ⟨PySem.W.codeHd_of_K X kh17, fun _ h => nomatch h⟩, List.forall_mem_cons.mpr ⟨(.head _), fun _ h => nomatch h⟩, fun s u => .of_eq rfl, LT, fun base _ _ sm TB => all_ok M (List.forall_mem_cons.mpr ⟨TB _ (.head _), fun _ h => nomatch h⟩) sm 57 i1026_law (by decide)⟩
end Lr.Own
namespace Lr.Own
open PySem PySem.Spec L2 Lr
theorem pred_of {k m : Nat} (h : m + 1 ≤ k) : ∃ j, k = j + 1 ∧ m ≤ j := ⟨k - 1, by omega, by omega⟩
theorem TK (k : Nat) (h : 1 ≤ k) : TakeOk (T k i2_law_take) := by
  obtain ⟨j, rfl, h⟩ := pred_of h
  exact fun n many h1 h2 => take_draws (T j) h1 h2
theorem TF (k : Nat) (h : 2 ≤ k) : OfOk (T k i3_law_of) := by
  obtain ⟨j, rfl, h⟩ := pred_of h
  exact of_ok (T j) (TK j (by omega))
theorem TF2 (k : Nat) (h : 2 ≤ k) : OfOk2 (T k i3_law_of) := by
  obtain ⟨j, rfl, h⟩ := pred_of h
  exact of_ok2 (T j) (TK j (by omega))
theorem law_true (ns : List Int) (h : ns.length ≤ 63) (hb : ∀ i ∈ ns, Builtin.Int.intBits i ≤ 1048576) : ∃ μ, T 57 i1026_law [.scr ns] [] = .ok (.bl true) μ := by
  have hmk : ∀ k, MarkOk (T (k + 1) i756_Covers_mark) := fun k => mark_ok (T k)
  have hlk : ∀ k, LookOk (T (k + 2) i1019_Covers_look_at) := fun k => look_ok (T (k + 1)) (hmk k)
  have hin : ∀ k, InitOk (T (k + 3) i626_Covers___init) := fun k => init_ok (T (k + 2)) (blocks_ok (T (k + 1))) (busy_ok (T (k + 1))) (hlk k)
  have hus : ∀ k, UsesOk (T (k + 1) i757_Covers_uses) := fun k => uses_ok (T k)
  have hcn : ∀ k, CountOk (T (k + 4) i629_set_count) := fun k => count_ok (T (k + 3)) (hin k)
  have hrr : RowRight (T 55 i633_law_row_right) := rowright_ok (T 54) (lmarks_ok (T 53)) (idx_ok (T 53)) (lopen_ok (T 53) (has_ok (T 52))) (few_ok (T 53) (hin 50) (hmk 52)) (hcn 50) (insome_ok (T 53) (hin 50) (hus 52)) (ineach_ok (T 53) (hin 50) (hus 52) (hcn 49))
  have hrow : LRow9 (T 55 i288_law_row) := lrow_ok (T 54) (TK 54 (by decide)) (TF 54 (by decide)) (TF2 54 (by decide))
  have z := (law59_ok (T 56) (hand_ok (T 55)) (right59_ok (T 55) hrr hrow) ns).elim
  obtain ⟨v, μ, e, rfl⟩ := z
  exact ⟨μ, e⟩
end Lr.Own
open PySem PySem.W PyProof.Rows
set_option maxHeartbeats 0 in
theorem PySem.Challenge.cw_leanrefs_k59_fewest_spans_by_all_sets_holds : PySem.Challenge.rw_leanrefs_k59_fewest_spans_by_all_sets.Holds := by
  w_on; o_law; k_head; (case hw => w_witness2)
  k_fill
  refine Lr.law_walkN ["_law_index_sets"] (l := PySem.Challenge.rw_leanrefs_k59_fewest_spans_by_all_sets) (n := 63) (k := 174) (x := "_law_script") rfl (by decide) rfl ⟨rfl, by decide, by decide⟩ (by decide +kernel) (by decide +kernel) (fun w h Y => by first | exact PySem.W.kIn_of Y | exact PySem.W.km_in_of Y) ?F
  case F =>
    intro w mg fa h Y9 KX G hmg OT
    refine' Lr.Own.all_mk KX G hmg Lr.Own.law_true OT ?a0 ?l0 ?d0 ?k0 ?l1 ?d1 ?k1 ?l2 ?d2 ?k2 ?l3 ?d3 ?k3 ?l4 ?d4 ?k4 ?l5 ?d5 ?k5 ?a6 ?l6 ?d6 ?k6 ?a7 ?l7 ?d7 ?k7 ?a8 ?l8 ?d8 ?k8 ?a9 ?l9 ?d9 ?k9 ?a10 ?l10 ?d10 ?k10 ?a11 ?l11 ?d11 ?k11 ?a12 ?l12 ?d12 ?k12 ?a13 ?l13 ?d13 ?k13 ?a14 ?l14 ?d14 ?k14 ?a15 ?l15 ?d15 ?k15 ?a16 ?l16 ?d16 ?k16 ?a17 ?l17 ?d17 ?k17 ?kc17 ?kv17 ?kn17 ?kh17 ?a18 ?l18 ?d18 ?k18 ?a19 ?l19 ?d19 ?k19 ?a20 ?l20 ?d20 ?k20 ?oa105 ?ob105 ?oc_105 ?od_105 ?oe105 ?of0 ?of1 ?of2 ?of3 ?of4 ?of5 ?of6 ?of7 ?of8 ?om0 ?on0 ?om1 ?on1 ?om2 ?on2 ?om3 ?on3 ?op0 ?oq0 ?or0 ?os0 ?ndp ?z_sorted ?z_max ?z_enumerate ?z_min ?z_sum ?z_len ?z_tuple ?z_range ?z_abs ?z_int ?z_set ?z_any ?z_repr ?z_list ?z_all
    (case a0 => k_is); (case a6 => k_is); (case a7 => k_is); (case a8 => k_is); (case a9 => k_is); (case a10 => k_is); (case a11 => k_is); (case a12 => k_is); (case a13 => k_is); (case a14 => k_is); (case a15 => k_is); (case a16 => k_is); (case a17 => k_is); (case a18 => k_is); (case a19 => k_is); (case a20 => k_is); (case oa105 => k_is); (case om0 => k_is); (case om1 => k_is); (case om2 => k_is); (case om3 => k_is); (case oq0 => k_is); (case l0 => k_is); (case d0 => k_is); (case k0 => k_is); (case l1 => k_is); (case d1 => k_is); (case k1 => k_is); (case l2 => k_is); (case d2 => k_is); (case k2 => k_is); (case l3 => k_is); (case d3 => k_is); (case k3 => k_is); (case l4 => k_is); (case d4 => k_is); (case k4 => k_is); (case l5 => k_is); (case d5 => k_is); (case k5 => k_is); (case l6 => k_is); (case d6 => k_is); (case k6 => k_is); (case l7 => k_is); (case d7 => k_is); (case k7 => k_is); (case l8 => k_is); (case d8 => k_is); (case k8 => k_is); (case l9 => k_is); (case d9 => k_is); (case k9 => k_is); (case l10 => k_is); (case d10 => k_is); (case k10 => k_is); (case l11 => k_is); (case d11 => k_is); (case k11 => k_is); (case l12 => k_is); (case d12 => k_is); (case k12 => k_is); (case l13 => k_is); (case d13 => k_is); (case k13 => k_is); (case l14 => k_is); (case d14 => k_is); (case k14 => k_is); (case l15 => k_is); (case d15 => k_is); (case k15 => k_is); (case l16 => k_is); (case d16 => k_is); (case k16 => k_is); (case l17 => k_is); (case d17 => k_is); (case k17 => k_is); (case kc17 => k_is); (case kv17 => rfl); (case kn17 => kernel_rfl); (case kh17 => kernel_rfl); (case l18 => k_is); (case d18 => k_is); (case k18 => k_is); (case l19 => k_is); (case d19 => k_is); (case k19 => k_is); (case l20 => k_is); (case d20 => k_is); (case k20 => k_is); (case ob105 => k_is); (case oc_105 => k_is); (case od_105 => k_is); (case oe105 => k_is); (case of0 => k_is); (case of1 => k_is); (case of2 => k_is); (case of3 => k_is); (case of4 => k_is); (case of5 => k_is); (case of6 => k_is); (case of7 => k_is); (case of8 => k_is); (case on0 => k_is); (case on1 => k_is); (case on2 => k_is); (case on3 => k_is); (case op0 => k_is); (case or0 => k_is); (case os0 => k_is); (case ndp => decide +kernel); (case z_sorted => k_is); (case z_max => k_is); (case z_enumerate => k_is); (case z_min => k_is); (case z_sum => k_is); (case z_len => k_is); (case z_tuple => k_is); (case z_range => k_is); (case z_abs => k_is); (case z_int => k_is); (case z_set => k_is); (case z_any => k_is); (case z_repr => k_is); (case z_list => k_is); (case z_all => k_is)
