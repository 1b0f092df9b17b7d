import PyProof.Rows.All
import Wide.All
import OpenK.AllK
import Wide.FinOn
import HandS.ForMost
import HandS.ForExc
import HandS.Wide
import HandS.TupAny
import HandS.TupMul
import HandS.Zip
import HandS.IsInst
import HandS.ExcInit
import HandS.Lambda
import HandS.CallSlots
import HandS.Flow
import HandS.TupLe
import KE.KDictKeyed
import KE.GoesEnum
import KE.KRevSl
import KE.KDictDisplayH
import HandS.Style
import HandS.Dict
import PyProof.Rows.NestShow
import HandS.OwnEq
import HandS.ExcIs
import HandS.ExcField
import HandS.Small
import HandS.TryMany
import HandS.More
import HandS.EndTab
import PySem.Challenge.RW_tellsless_k11_plans_judged
set_option Elab.async false
set_option linter.all false
set_option maxRecDepth 100000
set_option maxHeartbeats 4000000
set_option autoImplicit false
/-! Tl: plain data, and what a def of the text tells over it. -/
namespace Tl
open PySem L2

/-! ### data -/
inductive D where
  | non | bl (b : Bool) | int (i : Int) | str (s : Str)
  | tup (xs : List D) | lst (xs : List D) | scr (xs : List Int) | dct | ref (n : Nat)
  /-- a def of the text; a lambda that was handed in -/
  | fn (n : Nat) | thk (f c : Addr) (q : Str) (vs : List V) (ds : List D)
/-- what may change -/
inductive SO where
  | lst (xs : List D)
  | ins (c : Nat) (fs : List (Str × D))
  | dic (kvs : List (D × D))
abbrev Store := List SO
inductive Rs (α : Type) where
  | ok (a : α)
  | exc (c : Nat) (fs : List (Str × D))
abbrev M (α : Type) := Store → Option (Rs α × Store)
namespace M
def ret {α : Type} (a : α) : M α := fun S => some (.ok a, S)
def stuck {α : Type} : M α := fun _ => none
def bind {α β : Type} (x : M α) (f : α → M β) : M β := fun S =>
  match x S with
  | none => none
  | some (.ok a, S') => f a S'
  | some (.exc c fs, S') => some (.exc c fs, S')
end M
abbrev Env := List (Option D)
abbrev Ev := Env → M D
abbrev Evs := Env → M (List D)

/-! ### values and data -/
/-- tables of code objects; where the defs stand that are values -/
structure Tk where
  l : List (Addr × Str)
  f : List Addr
/-- where stands what may change; what is being made meanwhile -/
structure Mm where
  l : List Addr
  z : List Addr
  t : Tk

/-- a list that is only read -/
def LR (μ : Mm) (H : Hp) (a : Addr) (vs : List V) : Prop :=
  H a = some (.lst vs) ∧ a ∉ μ.l ∧ a ∉ μ.z
/-- the script -/
def SR (K : PySem.W.Frag) (μ : Mm) (H : Hp) (a : Addr) (vs : List V) : Prop := LR μ H a vs ∨ (∃ o, H a = some (.frz o (.lst vs))) ∨ ∀ G : Hp, SqL K G a vs
mutual
def VR0 (K : PySem.W.Frag) (μ : Mm) (H : Hp) : D → V → Prop
  | .non => fun v => v = .non
  | .bl b => fun v => v = .bl b
  | .int i => fun v => v = .int i
  | .str s => fun v => v = .str s
  | .tup ds => fun v => ∃ a vs, v = .ref a ∧ SqT K H a vs ∧ VRs0 K μ H ds vs
  | .lst ds => fun v => ∃ a vs, v = .ref a ∧ LR μ H a vs ∧ VRs0 K μ H ds vs
  | .scr ns => fun v => ∃ a, v = .ref a ∧ SR K μ H a (ns.map V.int)
  | .dct => fun v => ∃ a, v = .ref a ∧ a ∉ μ.l ∧ a ∉ μ.z ∧ ((∃ kvs, H a = some (.dK kvs)) ∨ ∃ kvs, H a = some (.dT kvs))
  | .ref n => fun v => ∃ a, μ.l[n]? = some a ∧ v = .ref a
  | .fn n => fun v => ∃ a, μ.t.f[n]? = some a ∧ v = .ref a
  | .thk f c q vs ds => fun v => v = .ref f ∧ H c = some (LamX.CodeO c q) ∧ VRs0 K μ H ds vs
def VRs0 (K : PySem.W.Frag) (μ : Mm) (H : Hp) : List D → List V → Prop
  | [] => fun vs => vs = []
  | d :: ds => fun vs => ∃ v r, vs = v :: r ∧ VR0 K μ H d v ∧ VRs0 K μ H ds r
end
@[irreducible] def VR (K : PySem.W.Frag) (μ : Mm) (H : Hp) (d : D) (v : V) : Prop := VR0 K μ H d v
@[irreducible] def VRs (K : PySem.W.Frag) (μ : Mm) (H : Hp) (ds : List D) (vs : List V) : Prop := VRs0 K μ H ds vs
/-- a dict whose keys are nested tuples -/
def DicO (P : Program) (w : World) (a : Addr) (xs : List (NestedKey × Addr × Value)) : HO := .ext fun h => (a == sysModules) = false ∧ xs.length ≤ sizeLine ∧ ∃ (o : Obj) (es : Array DictEntry) (ep : Nat), h.get? a = some o ∧ o.ExactDict ∧ o.data = .dict es ep ∧ es.toList = xs.map (entryOfKey (nestedKind P w)) ∧ (xs.map (·.1)).Nodup
/-- a thing that may change -/
def Chg (o : HO) : Prop := (∃ xs, o = .lst xs) ∨ (∃ C dx fs, o = .ins C dx fs) ∨ ∃ P w a xs, o = DicO P w a xs
theorem Chg.iLst {xs : List V} : Chg (.lst xs) := .inl ⟨_, rfl⟩
theorem Chg.iIns {C dx : Addr} {fs : List (Str × V)} : Chg (.ins C dx fs) := .inr (.inl ⟨_, _, _, rfl⟩)
theorem Chg.iDic {P : Program} {w : World} {a : Addr} {xs : List (NestedKey × Addr × Value)} : Chg (DicO P w a xs) := .inr (.inr ⟨_, _, _, _, rfl⟩)
theorem dicO_ne_code {P : Program} {w : World} {a c : Addr} {xs : List (NestedKey × Addr × Value)} {q : Str} : DicO P w a xs ≠ LamX.CodeO c q := by
  intro e
  unfold DicO LamX.CodeO at e
  injection e with e
  let ob : Obj := { cls := .none, data := .fields #[.none, .str q 0] }
  let h : Heap := { objs := Array.replicate (a + c + 1) ob }
  have hg : ∀ b, b < a + c + 1 → h.get? b = some ob := fun b hb => by
    have e1 : h.objs[b]? = some ob := by
      show (Array.replicate (a + c + 1) ob)[b]? = some ob
      rw [Array.getElem?_replicate]; exact if_pos hb
    unfold Heap.get?
    rw [e1]
  have hc := congrFun e h
  have r : ∃ (oc : Obj) (vs : Array Value) (t : Tok), h.get? c = some oc ∧ oc.data = .fields vs ∧ vs[1]? = some (.str q t) := ⟨ob, _, 0, hg c (Nat.lt_succ_of_le (Nat.le_add_left _ _)), rfl, rfl⟩
  rw [← hc] at r
  obtain ⟨_, _, o, es, ep, h1, _, h2, _⟩ := r
  rw [hg a (Nat.lt_succ_of_le (Nat.le_add_right _ _))] at h1
  cases h1
  cases h2
theorem Chg.nt {o : HO} (h : Chg o) : ∀ ps, o ≠ .tbl ps := fun ps z => by
  subst z
  rcases h with ⟨_, z⟩ | ⟨_, _, _, z⟩ | ⟨_, _, _, _, z⟩
  · cases z
  · cases z
  · unfold DicO at z; cases z
theorem Chg.tup {xs : List V} (h : Chg (.tup xs)) : False := by
  rcases h with ⟨_, z⟩ | ⟨_, _, _, z⟩ | ⟨_, _, _, _, z⟩
  · cases z
  · cases z
  · unfold DicO at z; cases z
theorem Chg.frz {o : Obj} {u : HO} (h : Chg (.frz o u)) : False := by
  rcases h with ⟨_, z⟩ | ⟨_, _, _, z⟩ | ⟨_, _, _, _, z⟩
  · cases z
  · cases z
  · unfold DicO at z; cases z
theorem Chg.xd {fs : List (Str × V)} (h : Chg (.xd fs)) : False := by
  rcases h with ⟨_, z⟩ | ⟨_, _, _, z⟩ | ⟨_, _, _, _, z⟩
  · cases z
  · cases z
  · unfold DicO at z; cases z
theorem Chg.own {x : Addr} (h : Chg (.own x)) : False := by
  rcases h with ⟨_, z⟩ | ⟨_, _, _, z⟩ | ⟨_, _, _, _, z⟩
  · cases z
  · cases z
  · unfold DicO at z; cases z
theorem Chg.code {c : Addr} {q : Str} (h : Chg (LamX.CodeO c q)) : False := by
  rcases h with ⟨_, z⟩ | ⟨_, _, _, z⟩ | ⟨_, _, _, _, z⟩
  · unfold LamX.CodeO at z; cases z
  · unfold LamX.CodeO at z; cases z
  · exact dicO_ne_code z.symm
/-- what stands at the addresses of what may change -/
structure Mu (μ : Mm) (H : Hp) : Prop where
  k : ∀ a ∈ μ.l, ∃ o, H a = some o ∧ Chg o
  h : ∀ a ∈ μ.z, ∃ o, H a = some o ∧ Chg o
/-- not a table of code objects -/
def NT (o : HO) : Prop := ∀ ps, o ≠ .tbl ps
/-- nothing, or a table -/
def Fre (H : Hp) (a : Addr) : Prop := ∀ o, H a = some o → ¬ NT o
theorem Fre.of {H : Hp} {a : Addr} (h : H a = none) : Fre H a := fun o e => by rw [h] at e; cases e
/-- the tables stay tables of their names -/
def KT (t : Tk) (H H' : Hp) : Prop := LamX.Tabs t.l H → LamX.Tabs t.l H'
theorem KT.refl (t : Tk) (H : Hp) : KT t H H := fun h => h
theorem KT.trans {t : Tk} {H H1 H2 : Hp} (a : KT t H H1) (b : KT t H1 H2) : KT t H H2 := fun h => b (a h)
theorem code_ext (c : Addr) (q : Str) : ∃ φ, LamX.CodeO c q = .ext φ := ⟨_, rfl⟩
theorem KT.upd {t : Tk} {H : Hp} {p : Addr} {o : HO} (hp : ∀ u, H p = some u → Chg u) : KT t H (upd H p o) := by
  have n1 : ∀ a ps, H a = some (.tbl ps) → a ≠ p := fun a ps h e => by
    rw [e] at h
    exact (hp _ h).nt ps rfl
  refine fun h r hr => ?_
  obtain ⟨P, q⟩ := r
  obtain ⟨ps, h1, h2, h3⟩ := h _ hr
  refine ⟨ps, by rw [upd_ne (n1 P ps h1)]; exact h1, h2, fun pos cv hc => ?_⟩
  obtain ⟨c, e1, e2⟩ := h3 pos cv hc
  have n2 : c ≠ p := fun e => by
    rw [e] at e2
    exact (hp _ e2).code
  exact ⟨c, e1, by rw [upd_ne n2]; exact e2⟩
theorem KT.new {t : Tk} {H : Hp} {p : Addr} {o : HO} (hp : H p = none) : KT t H (L2.upd H p o) := .upd fun u h => by rw [hp] at h; cases h
structure Ext (μ : Mm) (H : Hp) (μ' : Mm) (H' : Hp) : Prop where
  app : ∃ ν, μ'.l = μ.l ++ ν ∧ ∀ a ∈ ν, Fre H a
  z : μ'.z = μ.z
  keep : ∀ a o, H a = some o → a ∉ μ.l → NT o → H' a = some o
  tt : μ'.t = μ.t
  kt : KT μ.t H H'
  mu : Mu μ' H'
/-- as Ext, what is being made may be other -/
structure Evo (μ : Mm) (H : Hp) (μ' : Mm) (H' : Hp) : Prop where
  app : ∃ ν, μ'.l = μ.l ++ ν ∧ ∀ a ∈ ν, Fre H a
  z : ∀ a ∈ μ'.z, a ∈ μ.z ∨ Fre H a
  keep : ∀ a o, H a = some o → a ∉ μ.l → a ∉ μ.z → NT o → H' a = some o
  tt : μ'.t = μ.t
  kt : KT μ.t H H'
  no : ∀ a, Fre H' a → Fre H a
  mu : Mu μ' H'
theorem Ext.refl {μ : Mm} {H : Hp} (m : Mu μ H) : Ext μ H μ H := ⟨⟨[], by simp, by simp⟩, rfl, fun _ _ e _ _ => e, rfl, .refl _ H, m⟩
theorem Mu.no {μ : Mm} {H : Hp} (m : Mu μ H) {a : Addr} (ha : a ∈ μ.l) (h : H a = none) : False := by
  obtain ⟨o, w, _⟩ := m.k a ha
  rw [w] at h; cases h
theorem nt_lst {xs : List V} : NT (.lst xs) := fun _ z => nomatch z
theorem nt_ins {C dx : Addr} {fs : List (Str × V)} : NT (.ins C dx fs) := fun _ z => nomatch z
theorem Mu.noF {μ : Mm} {H : Hp} (m : Mu μ H) {a : Addr} (ha : a ∈ μ.l) (h : Fre H a) : False := by
  obtain ⟨o, w, c⟩ := m.k a ha
  exact h _ w c.nt
theorem Ext.no {μ μ' : Mm} {H H' : Hp} (e : Ext μ H μ' H') (a : Addr) (h : Fre H' a) : Fre H a := fun o q nt => by
  by_cases hm : a ∈ μ.l
  · obtain ⟨ν, e1, _⟩ := e.app
    exact e.mu.noF (by rw [e1]; exact List.mem_append_left _ hm) h
  · exact h o (e.keep a o q hm nt) nt
theorem Ext.evo {μ μ' : Mm} {H H' : Hp} (e : Ext μ H μ' H') : Evo μ H μ' H' := ⟨e.app, fun a h => .inl (by rw [← e.z]; exact h), fun a o h n _ => e.keep a o h n, e.tt, e.kt, e.no, e.mu⟩
theorem Ext.trans {μ μ1 μ2 : Mm} {H H1 H2 : Hp} (a : Ext μ H μ1 H1) (b : Ext μ1 H1 μ2 H2) : Ext μ H μ2 H2 := by
  obtain ⟨ν1, e1, f1⟩ := a.app
  obtain ⟨ν2, e2, f2⟩ := b.app
  refine ⟨⟨ν1 ++ ν2, by rw [e2, e1, List.append_assoc], fun x hx => ?_⟩, b.z.trans a.z, fun x o hx hn ht => ?_, b.tt.trans a.tt, a.kt.trans (a.tt ▸ b.kt), b.mu⟩
  · rcases List.mem_append.mp hx with h | h
    · exact f1 x h
    · exact a.no x (f2 x h)
  · refine b.keep x o (a.keep x o hx hn ht) (fun hm => ?_) ht
    rw [e1] at hm
    rcases List.mem_append.mp hm with h | h
    · exact hn h
    · exact f1 x h o hx ht
theorem Evo.sub {μ μ' : Mm} {H H' : Hp} (e : Evo μ H μ' H') {n : Nat} {a : Addr} (h : μ.l[n]? = some a) : μ'.l[n]? = some a := by
  obtain ⟨ν, q, _⟩ := e.app
  rw [q, List.getElem?_append_left (List.getElem?_eq_some_iff.mp h).1]; exact h
theorem Evo.out {μ μ' : Mm} {H H' : Hp} (e : Evo μ H μ' H') {a : Addr} {o : HO} (h : H a = some o) (n : a ∉ μ.l) (nt : NT o := by exact fun _ z => nomatch z) : a ∉ μ'.l := fun hm => by
  obtain ⟨ν, q, f⟩ := e.app
  rw [q] at hm
  rcases List.mem_append.mp hm with z | z
  · exact n z
  · exact f a z o h nt
theorem Evo.outZ {μ μ' : Mm} {H H' : Hp} (e : Evo μ H μ' H') {a : Addr} {o : HO} (h : H a = some o) (n : a ∉ μ.z) (nt : NT o := by exact fun _ z => nomatch z) : a ∉ μ'.z := fun hm => by
  rcases e.z a hm with z | z
  · exact n z
  · exact z o h nt
theorem Evo.trans {μ μ1 μ2 : Mm} {H H1 H2 : Hp} (a : Evo μ H μ1 H1) (b : Evo μ1 H1 μ2 H2) : Evo μ H μ2 H2 := by
  obtain ⟨ν1, e1, f1⟩ := a.app
  obtain ⟨ν2, e2, f2⟩ := b.app
  refine ⟨⟨ν1 ++ ν2, by rw [e2, e1, List.append_assoc], fun x hx => ?_⟩, fun x hx => ?_, fun x o hx hn hz ht => ?_, b.tt.trans a.tt, a.kt.trans (a.tt ▸ b.kt), fun x h => a.no x (b.no x h), b.mu⟩
  · rcases List.mem_append.mp hx with h | h
    · exact f1 x h
    · exact a.no x (f2 x h)
  · rcases b.z x hx with h | h
    · exact a.z x h
    · exact .inr (a.no x h)
  · refine b.keep x o (a.keep x o hx hn hz ht) (fun hm => ?_) (fun hm => ?_) ht
    · rw [e1] at hm
      rcases List.mem_append.mp hm with h | h
      · exact hn h
      · exact f1 x h o hx ht
    · rcases a.z x hm with h | h
      · exact hz h
      · exact h o hx ht
theorem Evo.refl {μ : Mm} {H : Hp} (m : Mu μ H) : Evo μ H μ H := (Ext.refl m).evo
theorem Ext.sub {μ μ' : Mm} {H H' : Hp} (e : Ext μ H μ' H') {n : Nat} {a : Addr} (h : μ.l[n]? = some a) : μ'.l[n]? = some a := e.evo.sub h
theorem Ext.out {μ μ' : Mm} {H H' : Hp} (e : Ext μ H μ' H') {a : Addr} {o : HO} (h : H a = some o) (n : a ∉ μ.l) (nt : NT o := by exact fun _ z => nomatch z) : a ∉ μ'.l := e.evo.out h n nt
theorem Mu.tup {μ : Mm} {H : Hp} (m : Mu μ H) {a : Addr} {xs : List V} (h : H a = some (.tup xs)) : a ∉ μ.l := fun hm => by
  obtain ⟨o, w, c⟩ := m.k a hm
  rw [w] at h; cases h; exact c.tup
theorem Mu.code {μ : Mm} {H : Hp} (m : Mu μ H) {a c : Addr} {q : Str} (h : H a = some (LamX.CodeO c q)) : a ∉ μ.l ∧ a ∉ μ.z := ⟨fun hm => by
  obtain ⟨o, w, c⟩ := m.k a hm
  rw [w] at h; cases h; exact c.code, fun hm => by
  obtain ⟨o, w, c⟩ := m.h a hm
  rw [w] at h; cases h; exact c.code⟩
theorem Mu.frz {μ : Mm} {H : Hp} (m : Mu μ H) {a : Addr} {o : Obj} {u : HO} (h : H a = some (.frz o u)) : a ∉ μ.l := fun hm => by
  obtain ⟨o, w, c⟩ := m.k a hm
  rw [w] at h; cases h; exact c.frz
theorem Mu.tupZ {μ : Mm} {H : Hp} (m : Mu μ H) {a : Addr} {xs : List V} (h : H a = some (.tup xs)) : a ∉ μ.z := fun hm => by
  obtain ⟨o, w, c⟩ := m.h a hm
  rw [w] at h; cases h; exact c.tup
theorem Mu.frzZ {μ : Mm} {H : Hp} (m : Mu μ H) {a : Addr} {o : Obj} {u : HO} (h : H a = some (.frz o u)) : a ∉ μ.z := fun hm => by
  obtain ⟨o, w, c⟩ := m.h a hm
  rw [w] at h; cases h; exact c.frz
theorem Mu.not {μ : Mm} {H : Hp} (m : Mu μ H) {p : Addr} (hp : H p = none) : p ∉ μ.l ∧ p ∉ μ.z := ⟨fun hm => m.no hm hp, fun hm => by
  obtain ⟨o, w, _⟩ := m.h p hm
  rw [w] at hp; cases hp⟩
section
variable {K : PySem.W.Frag} {μ μ' : Mm} {H H' : Hp}
theorem sqT_mono (m : Mu μ H) (e : Evo μ H μ' H') {a : Addr} {vs : List V} (h : SqT K H a vs) : SqT K H' a vs := by
  rcases h with (h | ⟨o, h⟩) | h
  · exact .inl (.inl (e.keep _ _ h (m.tup h) (m.tupZ h) (fun _ z => nomatch z)))
  · exact .inl (.inr ⟨o, e.keep _ _ h (m.frz h) (m.frzZ h) (fun _ z => nomatch z)⟩)
  · exact .inr h
theorem LR.mono (m : Mu μ H) (e : Evo μ H μ' H') {a : Addr} {vs : List V} (h : LR μ H a vs) : LR μ' H' a vs := ⟨e.keep _ _ h.1 h.2.1 h.2.2 (fun _ z => nomatch z), e.out h.1 h.2.1, e.outZ h.1 h.2.2⟩
theorem LR.sq {a : Addr} {vs : List V} (h : LR μ H a vs) : SqL K H a vs := .inl (.inl h.1)
theorem SR.mono (m : Mu μ H) (e : Evo μ H μ' H') {a : Addr} {vs : List V} (h : SR K μ H a vs) : SR K μ' H' a vs := by
  rcases h with h | ⟨o, h⟩ | h
  · exact .inl (h.mono m e)
  · exact .inr (.inl ⟨o, e.keep _ _ h (m.frz h) (m.frzZ h) (fun _ z => nomatch z)⟩)
  · exact .inr (.inr h)
theorem SR.sq {a : Addr} {vs : List V} (h : SR K μ H a vs) : SqL K H a vs := by
  rcases h with h | ⟨o, h⟩ | h
  · exact h.sq
  · exact .inl (.inr ⟨o, h⟩)
  · exact h H
theorem SR.of {t : Tk} {a : Addr} {vs : List V} (h : SqL K H a vs) : SR K ⟨[], [], t⟩ H a vs := by
  rcases h with (h | ⟨o, h⟩) | h
  · exact .inl ⟨h, by simp, by simp⟩
  · exact .inr (.inl ⟨o, h⟩)
  · exact .inr (.inr fun G => .inr h)
mutual
theorem VR0.mono (m : Mu μ H) (e : Evo μ H μ' H') : ∀ {d : D} {v : V}, VR0 K μ H d v → VR0 K μ' H' d v
  | .non, _, h => h
  | .bl _, _, h => h
  | .int _, _, h => h
  | .str _, _, h => h
  | .tup ds, v, h => by
    unfold VR0 at h ⊢
    obtain ⟨a, vs, r, t, q⟩ := h
    exact ⟨a, vs, r, sqT_mono m e t, VRs0.mono m e q⟩
  | .lst ds, v, h => by
    unfold VR0 at h ⊢
    obtain ⟨a, vs, r, t, q⟩ := h
    exact ⟨a, vs, r, t.mono m e, VRs0.mono m e q⟩
  | .scr ns, v, h => by
    unfold VR0 at h ⊢
    obtain ⟨a, r, q⟩ := h
    exact ⟨a, r, q.mono m e⟩
  | .dct, v, h => by
    unfold VR0 at h ⊢
    obtain ⟨a, r, n, nz, q⟩ := h
    rcases q with ⟨kvs, q⟩ | ⟨kvs, q⟩
    · exact ⟨a, r, e.out q n, e.outZ q nz, .inl ⟨kvs, e.keep _ _ q n nz (fun _ z => nomatch z)⟩⟩
    · exact ⟨a, r, e.out q n, e.outZ q nz, .inr ⟨kvs, e.keep _ _ q n nz (fun _ z => nomatch z)⟩⟩
  | .ref n, v, h => by
    unfold VR0 at h ⊢
    obtain ⟨a, t, q⟩ := h
    exact ⟨a, e.sub t, q⟩
  | .fn n, v, h => by
    unfold VR0 at h ⊢
    rw [e.tt]; exact h
  | .thk f c q vs ds, v, h => by
    unfold VR0 at h ⊢
    obtain ⟨h1, h2, h3⟩ := h
    exact ⟨h1, e.keep _ _ h2 (m.code h2).1 (m.code h2).2 LamX.codeO_ne, VRs0.mono m e h3⟩
theorem VRs0.mono (m : Mu μ H) (e : Evo μ H μ' H') : ∀ {ds : List D} {vs : List V}, VRs0 K μ H ds vs → VRs0 K μ' H' ds vs
  | [], _, h => by unfold VRs0 at h ⊢; exact h
  | d :: ds, vs, h => by
    unfold VRs0 at h ⊢
    obtain ⟨v, r, q, h1, h2⟩ := h
    exact ⟨v, r, q, VR0.mono m e h1, VRs0.mono m e h2⟩
end
theorem VR.monoE (m : Mu μ H) (e : Evo μ H μ' H') {d : D} {v : V} (h : VR K μ H d v) : VR K μ' H' d v := by
  unfold VR at h ⊢; exact VR0.mono m e h
theorem VRs.monoE (m : Mu μ H) (e : Evo μ H μ' H') {ds : List D} {vs : List V} (h : VRs K μ H ds vs) : VRs K μ' H' ds vs := by
  unfold VRs at h ⊢; exact VRs0.mono m e h
theorem VR.mono (m : Mu μ H) (e : Ext μ H μ' H') {d : D} {v : V} (h : VR K μ H d v) : VR K μ' H' d v := h.monoE m e.evo
theorem VRs.mono (m : Mu μ H) (e : Ext μ H μ' H') {ds : List D} {vs : List V} (h : VRs K μ H ds vs) : VRs K μ' H' ds vs := h.monoE m e.evo
/-! the thing that is being made -/
mutual
theorem VR0.hid {D0 : Addr} {xs ys : List V} (hz : D0 ∈ μ.z) (h0 : H D0 = some (.lst xs)) : ∀ {d : D} {v : V}, VR0 K μ H d v → VR0 K μ (upd H D0 (.lst ys)) d v
  | .non, _, h => h
  | .bl _, _, h => h
  | .int _, _, h => h
  | .str _, _, h => h
  | .tup ds, v, h => by
    unfold VR0 at h ⊢
    obtain ⟨a, vs, r, t, q⟩ := h
    refine ⟨a, vs, r, ?_, VRs0.hid hz h0 q⟩
    rcases t with (t | ⟨o, t⟩) | t
    · exact .inl (.inl (by rw [upd_ne (ne_of t h0 (by intro z; cases z))]; exact t))
    · exact .inl (.inr ⟨o, by rw [upd_ne (ne_of t h0 (by intro z; cases z))]; exact t⟩)
    · exact .inr t
  | .lst ds, v, h => by
    unfold VR0 at h ⊢
    obtain ⟨a, vs, r, t, q⟩ := h
    exact ⟨a, vs, r, ⟨by rw [upd_ne (fun e => t.2.2 (by rw [e]; exact hz))]; exact t.1, t.2⟩, VRs0.hid hz h0 q⟩
  | .scr ns, v, h => by
    unfold VR0 at h ⊢
    obtain ⟨a, r, q⟩ := h
    refine ⟨a, r, ?_⟩
    rcases q with t | ⟨o, t⟩ | t
    · exact .inl ⟨by rw [upd_ne (fun e => t.2.2 (by rw [e]; exact hz))]; exact t.1, t.2⟩
    · exact .inr (.inl ⟨o, by rw [upd_ne (ne_of t h0 (by intro z; cases z))]; exact t⟩)
    · exact .inr (.inr t)
  | .dct, v, h => by
    unfold VR0 at h ⊢
    obtain ⟨a, r, n, nz, q⟩ := h
    have ne : a ≠ D0 := fun e => nz (by rw [e]; exact hz)
    exact ⟨a, r, n, nz, by rw [upd_ne ne]; exact q⟩
  | .ref n, v, h => h
  | .fn n, v, h => h
  | .thk f c q vs ds, v, h => by
    unfold VR0 at h ⊢
    obtain ⟨h1, h2, h3⟩ := h
    refine ⟨h1, ?_, VRs0.hid hz h0 h3⟩
    rw [upd_ne (ne_of h2 h0 (by intro z; unfold LamX.CodeO at z; cases z))]; exact h2
theorem VRs0.hid {D0 : Addr} {xs ys : List V} (hz : D0 ∈ μ.z) (h0 : H D0 = some (.lst xs)) : ∀ {ds : List D} {vs : List V}, VRs0 K μ H ds vs → VRs0 K μ (upd H D0 (.lst ys)) ds vs
  | [], _, h => by unfold VRs0 at h ⊢; exact h
  | d :: ds, vs, h => by
    unfold VRs0 at h ⊢
    obtain ⟨v, r, q, h1, h2⟩ := h
    exact ⟨v, r, q, VR0.hid hz h0 h1, VRs0.hid hz h0 h2⟩
end
theorem VR.hid {D0 : Addr} {xs ys : List V} (hz : D0 ∈ μ.z) (h0 : H D0 = some (.lst xs)) {d : D} {v : V} (h : VR K μ H d v) : VR K μ (upd H D0 (.lst ys)) d v := by
  unfold VR at h ⊢; exact VR0.hid hz h0 h
theorem VRs.hid {D0 : Addr} {xs ys : List V} (hz : D0 ∈ μ.z) (h0 : H D0 = some (.lst xs)) {ds : List D} {vs : List V} (h : VRs K μ H ds vs) : VRs K μ (upd H D0 (.lst ys)) ds vs := by
  unfold VRs at h ⊢; exact VRs0.hid hz h0 h
end

section
variable {K : PySem.W.Frag} {μ : Mm} {H : Hp}
theorem VR.iTup {ds : List D} {a : Addr} {vs : List V} (t : SqT K H a vs) (h : VRs K μ H ds vs) : VR K μ H (.tup ds) (.ref a) := by
  unfold VR VR0; unfold VRs at h; exact ⟨a, vs, rfl, t, h⟩
theorem VR.iLst {ds : List D} {a : Addr} {vs : List V} (t : LR μ H a vs) (h : VRs K μ H ds vs) : VR K μ H (.lst ds) (.ref a) := by
  unfold VR VR0; unfold VRs at h; exact ⟨a, vs, rfl, t, h⟩
theorem VR.iScr {ns : List Int} {a : Addr} (t : SR K μ H a (ns.map V.int)) : VR K μ H (.scr ns) (.ref a) := by
  unfold VR VR0; exact ⟨a, rfl, t⟩
theorem VR.iDct {a : Addr} (n : a ∉ μ.l ∧ a ∉ μ.z) (t : (∃ kvs, H a = some (.dK kvs)) ∨ ∃ kvs, H a = some (.dT kvs)) : VR K μ H .dct (.ref a) := by
  unfold VR VR0; exact ⟨a, rfl, n.1, n.2, t⟩
theorem VR.iRef {n : Nat} {a : Addr} (h : μ.l[n]? = some a) : VR K μ H (.ref n) (.ref a) := by
  unfold VR VR0; exact ⟨a, h, rfl⟩
theorem VR.iFn {n : Nat} {a : Addr} (h : μ.t.f[n]? = some a) : VR K μ H (.fn n) (.ref a) := by
  unfold VR VR0; exact ⟨a, h, rfl⟩
theorem VR.iThk {f c : Addr} {q : Str} {vs : List V} {ds : List D} (h : H c = some (LamX.CodeO c q)) (g : VRs K μ H ds vs) : VR K μ H (.thk f c q vs ds) (.ref f) := by
  unfold VR VR0; unfold VRs at g; exact ⟨rfl, h, g⟩
theorem VR.fn {n : Nat} {v : V} (h : VR K μ H (.fn n) v) : ∃ a, μ.t.f[n]? = some a ∧ v = .ref a := by unfold VR VR0 at h; exact h
theorem VR.thk {f c : Addr} {q : Str} {vs : List V} {ds : List D} {v : V} (h : VR K μ H (.thk f c q vs ds) v) : v = .ref f ∧ H c = some (LamX.CodeO c q) ∧ VRs K μ H ds vs := by unfold VR VR0 at h; unfold VRs; exact h
theorem VR.iInt {i : Int} : VR K μ H (.int i) (.int i) := by unfold VR VR0; rfl
theorem VR.iBl {i : Bool} : VR K μ H (.bl i) (.bl i) := by unfold VR VR0; rfl
theorem VR.iStr {i : Str} : VR K μ H (.str i) (.str i) := by unfold VR VR0; rfl
theorem VR.iNon : VR K μ H .non .non := by unfold VR VR0; rfl
theorem VRs.iNil : VRs K μ H [] [] := by unfold VRs VRs0; rfl
theorem VRs.iCons {d : D} {ds : List D} {v : V} {vs : List V} (h1 : VR K μ H d v) (h2 : VRs K μ H ds vs) : VRs K μ H (d :: ds) (v :: vs) := by
  unfold VRs VRs0; unfold VRs at h2; unfold VR at h1; exact ⟨v, vs, rfl, h1, h2⟩
theorem VR.tup {ds : List D} {v : V} (h : VR K μ H (.tup ds) v) : ∃ a vs, v = .ref a ∧ SqT K H a vs ∧ VRs K μ H ds vs := by unfold VR VR0 at h; unfold VRs; exact h
theorem VR.lst {ds : List D} {v : V} (h : VR K μ H (.lst ds) v) : ∃ a vs, v = .ref a ∧ LR μ H a vs ∧ VRs K μ H ds vs := by unfold VR VR0 at h; unfold VRs; exact h
theorem VR.scr {ns : List Int} {v : V} (h : VR K μ H (.scr ns) v) : ∃ a, v = .ref a ∧ SR K μ H a (ns.map V.int) := by unfold VR VR0 at h; exact h
theorem VR.dct {v : V} (h : VR K μ H .dct v) : ∃ a, v = .ref a ∧ a ∉ μ.l ∧ a ∉ μ.z ∧ ((∃ kvs, H a = some (.dK kvs)) ∨ ∃ kvs, H a = some (.dT kvs)) := by unfold VR VR0 at h; exact h
theorem VR.ref {n : Nat} {v : V} (h : VR K μ H (.ref n) v) : ∃ a, μ.l[n]? = some a ∧ v = .ref a := by unfold VR VR0 at h; exact h
theorem VR.int {i : Int} {v : V} (h : VR K μ H (.int i) v) : v = .int i := by unfold VR VR0 at h; exact h
theorem VR.bl {i : Bool} {v : V} (h : VR K μ H (.bl i) v) : v = .bl i := by unfold VR VR0 at h; exact h
theorem VR.str {i : Str} {v : V} (h : VR K μ H (.str i) v) : v = .str i := by unfold VR VR0 at h; exact h
theorem VR.non {v : V} (h : VR K μ H .non v) : v = .non := by unfold VR VR0 at h; exact h
theorem VRs.nil {vs : List V} (h : VRs K μ H [] vs) : vs = [] := by unfold VRs VRs0 at h; exact h
theorem VRs.cons {d : D} {ds : List D} {vs : List V} (h : VRs K μ H (d :: ds) vs) : ∃ v r, vs = v :: r ∧ VR K μ H d v ∧ VRs K μ H ds r := by
  unfold VRs VRs0 at h; unfold VR; unfold VRs; exact h
theorem VRs.len : ∀ {ds : List D} {vs : List V}, VRs K μ H ds vs → ds.length = vs.length
  | [], _, h => by rw [h.nil]; rfl
  | _ :: _, _, h => by
    obtain ⟨v, r, rfl, _, h2⟩ := h.cons
    rw [List.length_cons, List.length_cons, VRs.len h2]
theorem VRs.get : ∀ {ds : List D} {vs : List V} {i : Nat} {d : D}, VRs K μ H ds vs → ds[i]? = some d → ∃ v, vs[i]? = some v ∧ VR K μ H d v
  | [], _, _, _, _, e => by simp at e
  | d :: ds, _, 0, d', h, e => by
    obtain ⟨v, r, rfl, h1, _⟩ := h.cons
    simp at e; subst e
    exact ⟨v, by simp, h1⟩
  | d :: ds, _, i + 1, d', h, e => by
    obtain ⟨v, r, rfl, _, h2⟩ := h.cons
    simpa using VRs.get (i := i) h2 (by simpa using e)
theorem VRs.app : ∀ {ds es : List D} {vs us : List V}, VRs K μ H ds vs → VRs K μ H es us → VRs K μ H (ds ++ es) (vs ++ us)
  | [], _, _, _, h, g => by rw [h.nil]; exact g
  | d :: ds, _, _, _, h, g => by
    obtain ⟨v, r, rfl, h1, h2⟩ := h.cons
    exact .iCons h1 (VRs.app h2 g)
theorem VRs.take : ∀ {ds : List D} {vs : List V} (n : Nat), VRs K μ H ds vs → VRs K μ H (ds.take n) (vs.take n)
  | _, _, 0, _ => by simp; exact .iNil
  | [], _, _ + 1, h => by rw [h.nil]; simp; exact .iNil
  | d :: ds, _, n + 1, h => by
    obtain ⟨v, r, rfl, h1, h2⟩ := h.cons
    exact .iCons h1 (VRs.take n h2)
theorem VRs.drop : ∀ {ds : List D} {vs : List V} (n : Nat), VRs K μ H ds vs → VRs K μ H (ds.drop n) (vs.drop n)
  | _, _, 0, h => by simpa using h
  | [], _, _ + 1, h => by rw [h.nil]; simp; exact .iNil
  | d :: ds, _, n + 1, h => by
    obtain ⟨v, r, rfl, _, h2⟩ := h.cons
    simpa using VRs.drop n h2
theorem VRs.set {d : D} {v : V} (g : VR K μ H d v) : ∀ {ds : List D} {vs : List V} (n : Nat), VRs K μ H ds vs → VRs K μ H (ds.set n d) (vs.set n v)
  | [], _, _, h => by rw [h.nil]; exact .iNil
  | _ :: _, _, 0, h => by
    obtain ⟨w, r, rfl, _, h2⟩ := h.cons
    exact .iCons g h2
  | _ :: _, _, n + 1, h => by
    obtain ⟨w, r, rfl, h1, h2⟩ := h.cons
    exact .iCons h1 (VRs.set g n h2)
theorem VRs.rev : ∀ {ds : List D} {vs : List V}, VRs K μ H ds vs → VRs K μ H ds.reverse vs.reverse
  | [], _, h => by rw [h.nil]; exact .iNil
  | d :: ds, _, h => by
    obtain ⟨v, r, rfl, h1, h2⟩ := h.cons
    rw [List.reverse_cons, List.reverse_cons]
    exact (VRs.rev h2).app (.iCons h1 .iNil)
theorem VRs.erase : ∀ {ds : List D} {vs : List V} (n : Nat), VRs K μ H ds vs → VRs K μ H (ds.eraseIdx n) (vs.eraseIdx n)
  | [], _, _, h => by rw [h.nil]; exact .iNil
  | _ :: _, _, 0, h => by
    obtain ⟨w, r, rfl, _, h2⟩ := h.cons
    simpa using h2
  | _ :: _, _, n + 1, h => by
    obtain ⟨w, r, rfl, h1, h2⟩ := h.cons
    exact .iCons h1 (VRs.erase n h2)
theorem VRs.ints : ∀ (ns : List Int), VRs K μ H (ns.map D.int) (ns.map V.int)
  | [] => .iNil
  | _ :: ns => .iCons .iInt (VRs.ints ns)
theorem VRs.ints_of : ∀ {ns : List Int} {vs : List V}, VRs K μ H (ns.map D.int) vs → vs = ns.map V.int
  | [], _, h => h.nil
  | n :: ns, _, h => by
    obtain ⟨v, r, rfl, h1, h2⟩ := h.cons
    rw [h1.int, VRs.ints_of h2]
    rfl
end

/-! ### the store -/
/-- fields by name -/
def FR (K : PySem.W.Frag) (μ : Mm) (H : Hp) (fs : List (Str × D)) (vf : List (Str × V)) : Prop :=
  fs.map (·.1) = vf.map (·.1) ∧ VRs K μ H (fs.map (·.2)) (vf.map (·.2))
/-- where the classes stand; the program; the defs that are values -/
structure CA where
  g : Nat → Addr
  P : Program
  w : World
  t : Tk
instance : CoeFun CA (fun _ => Nat → Addr) := ⟨CA.g⟩
mutual
/-- the key that a thing is -/
def nk : D → Option NestedKey
  | .non => some .none
  | .bl b => some (.num (if b = true then 1 else 0))
  | .int i => some (.num i)
  | .str x => some (.text x)
  | .tup ds => (nks ds).map .tup
  | _ => none
def nks : List D → Option (List NestedKey)
  | [] => some []
  | d :: ds => match nk d, nks ds with
    | some k, some ks => some (k :: ks)
    | _, _ => none
end
/-- keys and values of a dict, as they stand -/
def KR (K : PySem.W.Frag) (μ : Mm) (H : Hp) : List (D × D) → List (NestedKey × Addr × Value) → Prop := Paired fun p x => nk p.1 = some x.1 ∧ x.1.depth ≤ 8 ∧ VR K μ H p.1 (.ref x.2.1) ∧ ∃ v, RelV v x.2.2 ∧ VR K μ H p.2 v
theorem KR.imp {K : PySem.W.Frag} {μ μ' : Mm} {H H' : Hp} (f : ∀ d v, VR K μ H d v → VR K μ' H' d v) : ∀ {kvs : List (D × D)} {xs : List (NestedKey × Addr × Value)}, KR K μ H kvs xs → KR K μ' H' kvs xs
  | _, _, .nil => .nil
  | _, _, .cons ⟨h1, h2, h3, v, h4, h5⟩ t => .cons ⟨h1, h2, f _ _ h3, v, h4, f _ _ h5⟩ (KR.imp f t)
def OR (K : PySem.W.Frag) (ca : CA) (μ : Mm) (H : Hp) (a : Addr) : SO → Prop
  | .lst ds => ∃ vs, H a = some (.lst vs) ∧ VRs K μ H ds vs
  | .ins c fs => ∃ dx vf, H a = some (.ins (ca c) dx vf) ∧ FR K μ H fs vf
  | .dic kvs => ∃ xs, H a = some (DicO ca.P ca.w a xs) ∧ KR K μ H kvs xs
structure Rel (K : PySem.W.Frag) (ca : CA) (μ : Mm) (H : Hp) (S : Store) : Prop where
  len : μ.l.length = S.length
  nd : μ.l.Nodup
  ob : ∀ (n : Nat) (a : Addr) (o : SO), μ.l[n]? = some a → S[n]? = some o → OR K ca μ H a o
  hid : ∀ a ∈ μ.z, ∃ o, H a = some o ∧ Chg o
  tb : LamX.Tabs μ.t.l H
  fe : μ.t = ca.t
section
variable {K : PySem.W.Frag} {ca : CA} {μ μ' : Mm} {H H' : Hp} {S S' : Store}
theorem Rel.mu (r : Rel K ca μ H S) : Mu μ H := ⟨fun a ha => by
  obtain ⟨n, hn, e⟩ := List.getElem_of_mem ha
  have h1 : μ.l[n]? = some a := by rw [List.getElem?_eq_getElem hn, e]
  have hs : n < S.length := by rw [← r.len]; exact hn
  have h2 : S[n]? = some S[n] := List.getElem?_eq_getElem hs
  have := r.ob n a _ h1 h2
  cases q : S[n] with
  | lst ds => rw [q] at this; obtain ⟨vs, z, _⟩ := this; exact ⟨_, z, .iLst⟩
  | ins c fs => rw [q] at this; obtain ⟨dx, vf, z, _⟩ := this; exact ⟨_, z, .iIns⟩
  | dic kvs => rw [q] at this; obtain ⟨xs, z, _⟩ := this; exact ⟨_, z, .iDic⟩, r.hid⟩
/-- a lambda made: the tables grow, all else stays -/
theorem Rel.lam (r : Rel K ca μ H S) (e : LamX.ExtN H H') (h : LamX.Tabs μ.t.l H') : Ext μ H μ H' := by
  have st : ∀ a, (∃ o, H a = some o ∧ Chg o) → ∃ o, H' a = some o ∧ Chg o := fun a ⟨o, w, c⟩ => ⟨o, e a _ w c.nt, c⟩
  exact ⟨⟨[], by simp, by simp⟩, rfl, fun a o q _ nt => e a o q nt, rfl, fun _ => h, ⟨fun a ha => st a (r.mu.k a ha), fun a ha => st a (r.mu.h a ha)⟩⟩
theorem Rel.refl (r : Rel K ca μ H S) : Ext μ H μ H := Ext.refl r.mu
theorem OR.mono (m : Mu μ H) (e : Ext μ H μ' H') {a : Addr} (hs : H' a = H a) : ∀ {o : SO}, OR K ca μ H a o → OR K ca μ' H' a o
  | .lst ds, ⟨vs, h, q⟩ => ⟨vs, hs.trans h, q.mono m e⟩
  | .ins c fs, ⟨dx, vf, h, q1, q2⟩ => ⟨dx, vf, hs.trans h, q1, q2.mono m e⟩
  | .dic kvs, ⟨xs, h, q⟩ => ⟨xs, hs.trans h, q.imp fun _ _ z => z.mono m e⟩
/-- a new thing that is only read -/
theorem Rel.laid (r : Rel K ca μ H S) {p : Addr} {o : HO} (hp : H p = none) : Ext μ H μ (upd H p o) ∧ Rel K ca μ (upd H p o) S := by
  have ne : ∀ a, a ∈ μ.l → a ≠ p := fun a ha e => r.mu.no ha (by rw [e]; exact hp)
  have hh : ∀ a ∈ μ.z, ∃ u, upd H p o a = some u ∧ Chg u := fun a ha => by
    rw [upd_ne (fun e => (r.mu.not hp).2 (by rw [← e]; exact ha))]
    exact r.hid a ha
  have x : Ext μ H μ (upd H p o) := by
    refine ⟨⟨[], by simp, by simp⟩, rfl, fun a u ha _ _ => ?_, rfl, .new hp, ⟨fun a ha => ?_, hh⟩⟩
    · rw [upd_ne (ne_of_none ha hp)]; exact ha
    · rw [upd_ne (ne a ha)]; exact r.mu.k a ha
  refine ⟨x, r.len, r.nd, fun n a u h1 h2 => (r.ob n a u h1 h2).mono r.mu x ?_, hh, x.kt r.tb, r.fe⟩
  rw [upd_ne (ne a (List.mem_of_getElem? h1))]
theorem OR.monoE (m : Mu μ H) (e : Evo μ H μ' H') {a : Addr} (hs : H' a = H a) : ∀ {o : SO}, OR K ca μ H a o → OR K ca μ' H' a o
  | .lst ds, ⟨vs, h, q⟩ => ⟨vs, hs.trans h, q.monoE m e⟩
  | .ins c fs, ⟨dx, vf, h, q1, q2⟩ => ⟨dx, vf, hs.trans h, q1, q2.monoE m e⟩
  | .dic kvs, ⟨xs, h, q⟩ => ⟨xs, hs.trans h, q.imp fun _ _ z => z.monoE m e⟩
def Mm.hide (μ : Mm) (p : Addr) : Mm := ⟨μ.l, p :: μ.z, μ.t⟩
/-- a list begins to be made -/
theorem Rel.hide (r : Rel K ca μ H S) {p : Addr} {vs : List V} (hp : H p = none) : Evo μ H (μ.hide p) (upd H p (.lst vs)) ∧ Rel K ca (μ.hide p) (upd H p (.lst vs)) S := by
  obtain ⟨x, r2⟩ := r.laid (o := .lst vs) hp
  have hh : ∀ a ∈ (μ.hide p).z, ∃ u, upd H p (.lst vs) a = some u ∧ Chg u := fun a ha => by
    rcases List.mem_cons.mp ha with e | h
    · exact ⟨_, by rw [e]; exact upd_same, .iLst⟩
    · exact r2.hid a h
  have e : Evo μ H (μ.hide p) (upd H p (.lst vs)) := ⟨x.app, fun a ha => by
    rcases List.mem_cons.mp ha with e | h
    · exact .inr (by rw [e]; exact .of hp)
    · exact .inl h, fun a o h n _ => x.keep a o h n, x.tt, x.kt, x.no, ⟨x.mu.k, hh⟩⟩
  refine ⟨e, r.len, r.nd, fun n a o h1 h2 => (r.ob n a o h1 h2).monoE r.mu e ?_, hh, e.kt r.tb, r.fe⟩
  exact upd_ne fun z => r.mu.no (List.mem_of_getElem? h1) (by rw [z]; exact hp)
/-- it grows -/
theorem Rel.grow {p : Addr} (r : Rel K ca μ H S) {xs ys : List V} (hz : p ∈ μ.z) (hl : p ∉ μ.l) (h0 : H p = some (.lst xs)) : Rel K ca μ (upd H p (.lst ys)) S := by
  refine ⟨r.len, r.nd, fun n a o h1 h2 => ?_, fun a ha => ?_, (KT.upd fun u hu => by rw [h0] at hu; cases hu; exact .iLst) r.tb, r.fe⟩
  · have ne : a ≠ p := fun e => hl (by rw [← e]; exact List.mem_of_getElem? h1)
    have := r.ob n a o h1 h2
    cases o with
    | lst ds => obtain ⟨vs, h, q⟩ := this; exact ⟨vs, by rw [upd_ne ne]; exact h, q.hid hz h0⟩
    | ins c fs => obtain ⟨dx, vf, h, q1, q2⟩ := this; exact ⟨dx, vf, by rw [upd_ne ne]; exact h, q1, q2.hid hz h0⟩
    | dic kvs => obtain ⟨xs, h, q⟩ := this; exact ⟨xs, by rw [upd_ne ne]; exact h, q.imp fun _ _ z => z.hid hz h0⟩
  · by_cases e : a = p
    · subst e; exact ⟨_, upd_same, .iLst⟩
    · rw [upd_ne e]; exact r.hid a ha
/-- it is made -/
theorem Rel.show {l z : List Addr} {t : Tk} {p : Addr} (r : Rel K ca ⟨l, p :: z, t⟩ H S) : Evo ⟨l, p :: z, t⟩ H ⟨l, z, t⟩ H ∧ Rel K ca ⟨l, z, t⟩ H S := by
  have e : Evo ⟨l, p :: z, t⟩ H ⟨l, z, t⟩ H := ⟨⟨[], by simp, by simp⟩, fun a h => .inl (List.mem_cons_of_mem _ h), fun _ _ h _ _ _ => h, rfl, .refl _ H, fun _ h => h, ⟨r.mu.k, fun a h => r.hid a (List.mem_cons_of_mem _ h)⟩⟩
  exact ⟨e, r.len, r.nd, fun n a o h1 h2 => (r.ob n a o h1 h2).monoE r.mu e rfl, fun a h => r.hid a (List.mem_cons_of_mem _ h), r.tb, r.fe⟩
def Mm.add (μ : Mm) (p : Addr) : Mm := ⟨μ.l ++ [p], μ.z, μ.t⟩
/-- a new thing that may change -/
theorem Rel.fresh (r : Rel K ca μ H S) {p : Addr} {o : HO} {u : SO} (hp : H p = none) (hk : Chg o)
    (ho : ∀ m : Mu (μ.add p) (upd H p o), Ext μ H (μ.add p) (upd H p o) → OR K ca (μ.add p) (upd H p o) p u) : Ext μ H (μ.add p) (upd H p o) ∧ Rel K ca (μ.add p) (upd H p o) (S ++ [u]) := by
  have ne : ∀ a, a ∈ μ.l → a ≠ p := fun a ha e => r.mu.no ha (by rw [e]; exact hp)
  have hh : ∀ a ∈ μ.z, ∃ u, upd H p o a = some u ∧ Chg u := fun a ha => by
    rw [upd_ne (fun e => (r.mu.not hp).2 (by rw [← e]; exact ha))]
    exact r.hid a ha
  have m : Mu (μ.add p) (upd H p o) := ⟨fun a ha => by
    rcases List.mem_append.mp ha with h | h
    · rw [upd_ne (ne a h)]; exact r.mu.k a h
    · have e : a = p := by simpa using h
      subst e
      rw [upd_same]
      exact ⟨_, rfl, hk⟩, hh⟩
  have x : Ext μ H (μ.add p) (upd H p o) := by
    refine ⟨⟨[p], rfl, fun a ha => ?_⟩, rfl, fun a u ha _ _ => ?_, rfl, .new hp, m⟩
    · have e : a = p := by simpa using ha
      subst e; exact .of hp
    · rw [upd_ne (ne_of_none ha hp)]; exact ha
  refine ⟨x, by simp [Mm.add, r.len], ?_, fun n a u' h1 h2 => ?_, hh, x.kt r.tb, r.fe⟩
  · show (μ.l ++ [p]).Nodup
    rw [List.nodup_append]
    refine ⟨r.nd, by simp, fun a ha b hb => ?_⟩
    have e : b = p := by simpa using hb
    subst e; exact ne a ha
  · have h1 : (μ.l ++ [p])[n]? = some a := h1
    by_cases hn : n < μ.l.length
    · rw [List.getElem?_append_left hn] at h1
      rw [List.getElem?_append_left (by rw [← r.len]; exact hn)] at h2
      refine (r.ob n a u' h1 h2).mono r.mu x ?_
      rw [upd_ne (ne a (List.mem_of_getElem? h1))]
    · have hn' : n = μ.l.length := by
        have := (List.getElem?_eq_some_iff.mp h1).1
        simp at this; omega
      subst hn'
      rw [List.getElem?_append_right (Nat.le_refl _)] at h1
      rw [r.len, List.getElem?_append_right (Nat.le_refl _)] at h2
      simp at h1 h2
      subst h1; subst h2
      exact ho m x
/-- a thing changed -/
theorem Rel.put (r : Rel K ca μ H S) {n : Nat} {a : Addr} {o : HO} {u : SO} (hn : μ.l[n]? = some a) (hk : Chg o)
    (ho : Ext μ H μ (upd H a o) → OR K ca μ (upd H a o) a u) : Ext μ H μ (upd H a o) ∧ Rel K ca μ (upd H a o) (S.set n u) := by
  have ha : a ∈ μ.l := List.mem_of_getElem? hn
  have hh : ∀ b ∈ μ.z, ∃ u, upd H a o b = some u ∧ Chg u := fun b hb => by
    by_cases e : b = a
    · subst e
      rw [upd_same]
      exact ⟨_, rfl, hk⟩
    · rw [upd_ne e]; exact r.hid b hb
  have m : Mu μ (upd H a o) := ⟨fun b hb => by
    by_cases e : b = a
    · subst e
      rw [upd_same]
      exact ⟨_, rfl, hk⟩
    · rw [upd_ne e]; exact r.mu.k b hb, hh⟩
  have x : Ext μ H μ (upd H a o) := ⟨⟨[], by simp, by simp⟩, rfl, fun b u hb hm _ => by
    rw [upd_ne (fun e => hm (by rw [e]; exact ha))]; exact hb, rfl, .upd fun v hv => by
    obtain ⟨o, w, c⟩ := r.mu.k a ha
    rw [w] at hv; cases hv; exact c, m⟩
  refine ⟨x, by simp [r.len], r.nd, fun k b u' h1 h2 => ?_, hh, x.kt r.tb, r.fe⟩
  by_cases e : k = n
  · subst e
    rw [hn] at h1; cases h1
    have hl : k < S.length := by rw [← r.len]; exact (List.getElem?_eq_some_iff.mp hn).1
    rw [List.getElem?_set_self hl] at h2
    cases h2
    exact ho x
  · rw [List.getElem?_set_ne (Ne.symm e)] at h2
    refine (r.ob k b u' h1 h2).mono r.mu x ?_
    refine upd_ne fun z => e ?_
    subst z
    have l1 := (List.getElem?_eq_some_iff.mp h1).1
    exact (List.getElem?_inj l1 r.nd).mp (h1.trans hn.symm)
end

/-! ### the slots -/
def ER (K : PySem.W.Frag) (μ : Mm) (H : Hp) (ρ : Env) (σ : St) : Prop := ρ.length = σ.length ∧ ∀ (i : Nat) (d : D), ρ[i]? = some (some d) → ∃ v, σ[i]? = some (some v) ∧ VR K μ H d v
section
variable {K : PySem.W.Frag} {μ μ' : Mm} {H H' : Hp} {ρ : Env} {σ : St}
theorem ER.mono (m : Mu μ H) (e : Ext μ H μ' H') (h : ER K μ H ρ σ) : ER K μ' H' ρ σ := ⟨h.1, fun i d q => by
  obtain ⟨v, h1, h2⟩ := h.2 i d q
  exact ⟨v, h1, h2.mono m e⟩⟩
theorem ER.monoE (m : Mu μ H) (e : Evo μ H μ' H') (h : ER K μ H ρ σ) : ER K μ' H' ρ σ := ⟨h.1, fun i d q => by
  obtain ⟨v, h1, h2⟩ := h.2 i d q
  exact ⟨v, h1, h2.monoE m e⟩⟩
theorem ER.set (h : ER K μ H ρ σ) {d : D} {v : V} (i : Nat) (r : VR K μ H d v) : ER K μ H (ρ.set i (some d)) (σ.set i (some v)) := ⟨by simp [h.1], fun j d' q => by
  by_cases e : j = i
  · subst e
    by_cases hl : j < ρ.length
    · rw [List.getElem?_set_self hl] at q
      cases q
      exact ⟨v, List.getElem?_set_self (by rw [← h.1]; exact hl), r⟩
    · rw [List.getElem?_eq_none (by simpa using hl)] at q; cases q
  · rw [List.getElem?_set_ne (Ne.symm e)] at q ⊢
    exact h.2 j d' q⟩
end
end Tl
set_option Elab.async false
set_option linter.all false
set_option maxRecDepth 100000
set_option maxHeartbeats 4000000
set_option autoImplicit false
namespace Tl
open PySem L2

/-! ### what is asked of an end -/
def XR (K : PySem.W.Frag) (μ : Mm) (H : Hp) (fs : List (Str × D)) (dd : Option Addr) : Prop :=
  (fs = [] ∧ dd = none) ∨ ∃ a vf, dd = some a ∧ H a = some (.xd vf) ∧ FR K μ H fs vf ∧ fs ≠ []
theorem FR.mono {K : PySem.W.Frag} {μ μ' : Mm} {H H' : Hp} {fs : List (Str × D)} {vf : List (Str × V)} (m : Mu μ H) (e : Ext μ H μ' H') (h : FR K μ H fs vf) : FR K μ' H' fs vf := ⟨h.1, h.2.mono m e⟩
theorem XR.mono {K : PySem.W.Frag} {μ μ' : Mm} {H H' : Hp} {fs : List (Str × D)} {dd : Option Addr} (m : Mu μ H) (e : Ext μ H μ' H') (h : XR K μ H fs dd) : XR K μ' H' fs dd := by
  rcases h with h | ⟨a, vf, h1, h2, h3, h4⟩
  · exact .inl h
  · refine .inr ⟨a, vf, h1, e.keep _ _ h2 (fun hm => ?_) (fun _ z => nomatch z), h3.mono m e, h4⟩
    obtain ⟨o, w, c⟩ := m.k a hm
    rw [w] at h2; cases h2; exact c.xd
/-- a relation of what is told and what comes, that stays -/
structure RT (K : PySem.W.Frag) (α β : Type) where
  r : Mm → Hp → α → β → Prop
  mono : ∀ {μ μ' : Mm} {H H' : Hp} {a : α} {b : β}, Mu μ H → Ext μ H μ' H' → r μ H a b → r μ' H' a b
def rV (K : PySem.W.Frag) : RT K D V := ⟨fun μ H d v => VR K μ H d v, fun m e h => h.mono m e⟩
def rVs (K : PySem.W.Frag) : RT K (List D) (List V) := ⟨fun μ H d v => VRs K μ H d v, fun m e h => h.mono m e⟩
def rB (K : PySem.W.Frag) : RT K D Bool := ⟨fun _ _ d b => d = .bl b, fun _ _ h => h⟩
def Pst {K : PySem.W.Frag} {α β : Type} (R : RT K α β) (ca : CA) (μ : Mm) (H : Hp) (r : Rs α × Store) (Q : β → Hp → Prop) (W : Value → Option Addr → Hp → Prop) : Prop :=
  match r.1 with
  | .ok d => ∀ μ' H' v, Ext μ H μ' H' → Rel K ca μ' H' r.2 → R.r μ' H' d v → Q v H'
  | .exc c fs => ∀ μ' H' dd, Ext μ H μ' H' → Rel K ca μ' H' r.2 → XR K μ' H' fs dd → W (.ref (ca c)) dd H'
section
variable {K : PySem.W.Frag} {α β γ δ : Type} {R : RT K α β} {R' : RT K γ δ} {ca : CA} {μ μ' : Mm} {H H' : Hp} {r : Rs α × Store} {Q Q' : β → Hp → Prop} {W W' : Value → Option Addr → Hp → Prop}
theorem Pst.ext (e : Ext μ H μ' H') (h : Pst R ca μ H r Q W) : Pst R ca μ' H' r Q W := by
  obtain ⟨r, S⟩ := r
  cases r with
  | ok d => exact fun μ2 H2 v e2 => h μ2 H2 v (e.trans e2)
  | exc c fs => exact fun μ2 H2 dd e2 => h μ2 H2 dd (e.trans e2)
theorem Pst.imp (h : Pst R ca μ H r Q W) (hq : ∀ v H', Q v H' → Q' v H') (hw : ∀ c d H', W c d H' → W' c d H') : Pst R ca μ H r Q' W' := by
  obtain ⟨r, S⟩ := r
  cases r with
  | ok d => exact fun μ2 H2 v e2 r2 q2 => hq _ _ (h μ2 H2 v e2 r2 q2)
  | exc c fs => exact fun μ2 H2 dd e2 r2 q2 => hw _ _ _ (h μ2 H2 dd e2 r2 q2)
end
/-- at one state: a reading t does what m tells -/
def Aq {K : PySem.W.Frag} {α β : Type} (R : RT K α β) (ca : CA) (W : WX) (μ : Mm) (σ : St) (H : Hp) (S : Store) (t : (β → Hp → Prop) → Prop) (m : M α) : Prop :=
  ∀ r, m S = some r → ∀ Q, Pst R ca μ H r Q (fun c d H' => W c d σ H') → t Q
/-- a reading t does what f tells -/
def Adq {K : PySem.W.Frag} {α β : Type} (R : RT K α β) (ca : CA) (W : WX) (t : St → Hp → (β → Hp → Prop) → Prop) (f : Env → M α) : Prop :=
  ∀ μ σ H ρ S, Rel K ca μ H S → ER K μ H ρ σ → Aq R ca W μ σ H S (t σ H) (f ρ)
section
variable {K : PySem.W.Frag} {α β α1 β1 α2 β2 : Type} {R : RT K α β} {R1 : RT K α1 β1} {R2 : RT K α2 β2} {ca : CA} {W : WX}
/-- one behind the other -/
theorem Aq.bind {μ : Mm} {σ : St} {H : Hp} {S : Store} {t1 : (β1 → Hp → Prop) → Prop} {m : M α1} {k : β1 → Hp → (β2 → Hp → Prop) → Prop} {g : α1 → M α2} (h1 : Aq R1 ca W μ σ H S t1 m)
    (h2 : ∀ a x μ' H' S', Ext μ H μ' H' → Rel K ca μ' H' S' → R1.r μ' H' a x → Aq R2 ca W μ' σ H' S' (k x H') (g a)) : Aq R2 ca W μ σ H S (fun Q => t1 fun x H1 => k x H1 Q) (m.bind g) := by
  intro r hf Q hp
  unfold M.bind at hf
  cases q : m S with
  | none => rw [q] at hf; cases hf
  | some z =>
    obtain ⟨z, S1⟩ := z
    cases z with
    | ok a =>
      rw [q] at hf
      exact h1 _ q _ fun μ' H' x e r1 x1 => h2 a x μ' H' S1 e r1 x1 r hf Q (hp.ext e)
    | exc c fs =>
      rw [q] at hf
      cases hf
      exact h1 _ q _ fun μ' H' dd e r1 x1 => hp μ' H' dd e r1 x1
theorem Aq.imp {μ : Mm} {σ : St} {H : Hp} {S : Store} {t t' : (β → Hp → Prop) → Prop} {m : M α} (h : Aq R ca W μ σ H S t m) (i : ∀ Q, t Q → t' Q) : Aq R ca W μ σ H S t' m := fun r hf Q hp => i Q (h r hf Q hp)
theorem Aq.stuck {μ : Mm} {σ : St} {H : Hp} {S : Store} {t : (β → Hp → Prop) → Prop} : Aq R ca W μ σ H S t (M.stuck : M α) := fun r hf => nomatch hf
/-- an end that is reached at once -/
theorem Aq.ret {μ : Mm} {σ : St} {H : Hp} {S : Store} {d : α} {v : β} (hr : Rel K ca μ H S) (hv : R.r μ H d v) : Aq R ca W μ σ H S (fun Q => Q v H) (M.ret d) := by
  intro r hf Q hp
  have hf : some ((Rs.ok d : Rs α), S) = some r := hf
  cases hf
  exact hp μ H v hr.refl hr hv
/-- a new thing that is only read -/
theorem Aq.new {μ : Mm} {σ : St} {H : Hp} {S : Store} {d : α} {v : Addr → β} {o : HO} (hr : Rel K ca μ H S) (hv : ∀ p, H p = none → Mu μ H → Ext μ H μ (upd H p o) → R.r μ (upd H p o) d (v p)) :
    Aq R ca W μ σ H S (fun Q => ∀ p, H p = none → Q (v p) (upd H p o)) (M.ret d) := by
  intro r hf Q hp p hn
  have hf : some ((Rs.ok d : Rs α), S) = some r := hf
  cases hf
  obtain ⟨x, r⟩ := hr.laid (o := o) hn
  exact hp μ _ _ x r (hv p hn hr.mu x)
end

/-! ### judgements -/
structure DE (ca : CA) (X : Cx) (W : WX) (e : Expr) (f : Ev) : Prop where
  ex : ∃ t, PE X e t ∧ Adq (rV X.K) ca W t f
structure DA (ca : CA) (X : Cx) (W : WX) (es : List Expr) (f : Evs) : Prop where
  ex : ∃ t, PA X es t ∧ Adq (rVs X.K) ca W t f
structure DT (ca : CA) (X : Cx) (W : WX) (e : Expr) (f : Ev) : Prop where
  ex : ∃ t, PT X e t ∧ Adq (rB X.K) ca W t f
structure DW (ca : CA) (X : Cx) (W : WX) (e : Expr) (f : Ev) : Prop where
  ex : ∃ t, PW X e t ∧ Adq (rB X.K) ca W t f

/-! ### names, constants -/
def mVar (i : Nat) : Ev := fun ρ => match ρ[i]? with
  | some (some d) => M.ret d
  | _ => M.stuck
def mC (d : D) : Ev := fun _ => M.ret d
def lNil : Evs := fun _ => M.ret []
def lCons (f : Ev) (g : Evs) : Evs := fun ρ => (f ρ).bind fun d => (g ρ).bind fun ds => M.ret (d :: ds)
/-- a thing that is the same in all heaps -/
def Fix (K : PySem.W.Frag) (d : D) (v : V) : Prop := ∀ μ H, VR K μ H d v
section
variable {ca : CA} {X : Cx} {W : WX} {e a b : Expr} {es : List Expr} {f g : Ev} {fs : Evs} {pos : Pos}
theorem Adq.c {K : PySem.W.Frag} {d : D} {v : V} (h : Fix K d v) : Adq (rV K) ca W (tC v) (mC d) := fun μ σ H ρ S hr he => Aq.ret hr (h μ H)
theorem Adq.v {K : PySem.W.Frag} {i : Nat} : Adq (rV K) ca W (tVar i) (mVar i) := by
  intro μ σ H ρ S hr he
  unfold mVar
  split
  · rename_i d hd
    obtain ⟨v, h1, h2⟩ := he.2 i d hd
    exact (Aq.ret (R := rV K) (v := v) hr h2).imp fun Q q => ⟨v, h1, q⟩
  · exact Aq.stuck
theorem de_var (i : Nat) {x : Str} (hN : X.N[i]? = some x := by rfl) (hv : Vis X.env.scope x := by first | exact Or.inl rfl | exact Or.inr (Or.inl rfl) | exact Or.inr (Or.inr rfl)) (hd : (x == ("__debug__" : Str)) = false := by decide)
    (hcd : (x == ("__classdict__" : Str)) = false := by decide) : DE ca X W (.Name x pos) (mVar i) := ⟨_, pe_var hN hv hd hcd, Adq.v⟩
theorem de_int {i : Int} {j : Nat} : DE ca X W (.Constant (.int i) j pos) (mC (.int i)) := ⟨_, pe_int, Adq.c fun _ _ => by first | exact VR.iInt | exact VR.iBl | exact VR.iNon | exact VR.iStr⟩
theorem de_bl {i : Bool} {j : Nat} : DE ca X W (.Constant (.bool i) j pos) (mC (.bl i)) := ⟨_, pe_bl, Adq.c fun _ _ => by first | exact VR.iInt | exact VR.iBl | exact VR.iNon | exact VR.iStr⟩
theorem de_non {j : Nat} : DE ca X W (.Constant .none j pos) (mC .non) := ⟨_, pe_non, Adq.c fun _ _ => by first | exact VR.iInt | exact VR.iBl | exact VR.iNon | exact VR.iStr⟩
theorem de_str {i : Str} {j : Nat} : DE ca X W (.Constant (.str i) j pos) (mC (.str i)) := ⟨_, pe_str, Adq.c fun _ _ => by first | exact VR.iInt | exact VR.iBl | exact VR.iNon | exact VR.iStr⟩
/-- a constant of the module -/
structure Con0 (K : PySem.W.Frag) (mg : Str → Option Value) (x : Str) (d : D) : Prop where
  ex : ∃ u v, mg x = some u ∧ RelV v u ∧ Fix K d v
theorem de_glob {x : Str} {d : D} (c : Con0 X.K X.mg x d) (hg : Gl X x := by rfl) (hd : (x == ("__debug__" : Str)) = false := by decide) : DE ca X W (.Name x pos) (mC d) := by
  obtain ⟨u, v, h1, h2, h3⟩ := c.ex
  exact ⟨_, pe_glob hg h1 h2 hd, Adq.c h3⟩
theorem Adq.nil {K : PySem.W.Frag} : Adq (rVs K) ca W tNil lNil := fun μ σ H ρ S hr he => Aq.ret (R := rVs K) hr VRs.iNil
theorem Adq.cons {K : PySem.W.Frag} {t : TE} {u : TA} (h1 : Adq (rV K) ca W t f) (h2 : Adq (rVs K) ca W u fs) : Adq (rVs K) ca W (tCons t u) (lCons f fs) := fun μ σ H ρ S hr he =>
  Aq.bind (R1 := rV K) (h1 μ σ H ρ S hr he) fun d x μ1 H1 S1 e1 r1 x1 =>
    Aq.bind (R1 := rVs K) (h2 μ1 σ H1 ρ S1 r1 (he.mono hr.mu e1)) fun ds xs μ2 H2 S2 e2 r2 x2 =>
      Aq.ret (R := rVs K) r2 (VRs.iCons (VR.mono r1.mu e2 x1) x2)
theorem da_nil : DA ca X W [] lNil := ⟨_, pa_nil, Adq.nil⟩
theorem da_cons (h1 : DE ca X W e f) (h2 : DA ca X W es fs) (hs : starEach (e :: es) X.env = (false, eval e X.env) :: starEach es X.env := by rfl) : DA ca X W (e :: es) (lCons f fs) := by
  obtain ⟨t, p, q⟩ := h1.ex
  obtain ⟨u, p', q'⟩ := h2.ex
  exact ⟨_, pa_cons p p' hs, q.cons q'⟩
theorem big {n : Nat} (h : n ≤ 1000000) : n ≤ sizeLine := Nat.le_trans h (by decide)
def mTup (fs : Evs) : Ev := fun ρ => (fs ρ).bind fun ds => if ds.length ≤ 1000000 then M.ret (.tup ds) else M.stuck
def mLst (fs : Evs) : Ev := fun ρ => (fs ρ).bind fun ds => if ds.length ≤ 1000000 then M.ret (.lst ds) else M.stuck
/-- a list that may change -/
def mNew (fs : Evs) : Ev := fun ρ => (fs ρ).bind fun ds => if ds.length ≤ 1000000 then (fun S => some (.ok (.ref S.length), S ++ [.lst ds])) else M.stuck
theorem de_tup {k : Nat} (h : DA ca X W es fs) : DE ca X W (.Tuple es k pos) (mTup fs) := by
  obtain ⟨t, p, q⟩ := h.ex
  refine ⟨_, pe_tup p, fun μ σ H ρ S hr he => Aq.bind (R1 := rVs X.K) (q μ σ H ρ S hr he) fun ds xs μ1 H1 S1 e1 r1 x1 => ?_⟩
  split
  · rename_i hl
    have hz : xs.length ≤ sizeLine := by rw [← VRs.len x1]; exact big hl
    refine (Aq.new (R := rV X.K) (v := fun p => .ref p) (o := .tup xs) r1 fun p hp m x => ?_).imp fun Q h => ⟨hz, h⟩
    exact VR.iTup (SqT.of upd_same) (VRs.mono m x x1)
  · exact Aq.stuck
theorem de_lst (h : DA ca X W es fs) : DE ca X W (.List es pos) (mLst fs) := by
  obtain ⟨t, p, q⟩ := h.ex
  refine ⟨_, pe_lst p, fun μ σ H ρ S hr he => Aq.bind (R1 := rVs X.K) (q μ σ H ρ S hr he) fun ds xs μ1 H1 S1 e1 r1 x1 => ?_⟩
  split
  · rename_i hl
    have hz : xs.length ≤ sizeLine := by rw [← VRs.len x1]; exact big hl
    refine (Aq.new (R := rV X.K) (v := fun p => .ref p) (o := .lst xs) r1 fun p hp m x => ?_).imp fun Q h => ⟨hz, h⟩
    exact VR.iLst ⟨upd_same, m.not hp⟩ (VRs.mono m x x1)
  · exact Aq.stuck
theorem de_new (h : DA ca X W es fs) : DE ca X W (.List es pos) (mNew fs) := by
  obtain ⟨t, p, q⟩ := h.ex
  refine ⟨_, pe_lst p, fun μ σ H ρ S hr he => Aq.bind (R1 := rVs X.K) (q μ σ H ρ S hr he) fun ds xs μ1 H1 S1 e1 r1 x1 => ?_⟩
  split
  · rename_i hl
    intro r hf Q hp
    have hz : xs.length ≤ sizeLine := by rw [← VRs.len x1]; exact big hl
    refine ⟨hz, fun p hn => ?_⟩
    have hf : some ((Rs.ok (.ref S1.length) : Rs D), S1 ++ [SO.lst ds]) = some r := hf
    cases hf
    obtain ⟨x, r2⟩ := r1.fresh (p := p) (o := .lst xs) (u := .lst ds) hn .iLst fun m x => ⟨xs, upd_same, VRs.mono r1.mu x x1⟩
    exact hp _ _ _ x r2 (VR.iRef (show (μ1.l ++ [p])[S1.length]? = some p by rw [← r1.len, List.getElem?_append_right (Nat.le_refl _)]; simp))
  · exact Aq.stuck
end
end Tl
set_option Elab.async false
set_option linter.all false
set_option maxRecDepth 100000
set_option maxHeartbeats 4000000
set_option autoImplicit false
namespace Tl
open PySem L2 PySem.Spec PyProof.Rows

/-! ### a tuple times a number: all cases -/
theorem tmS (l : Addr) (items : Array Value) (n : Nat) (dd : Option Addr) (sl : Array (Option Value)) (x : Int) (u : Tok) (a0 : (decide (x < -(2 ^ 63)) || decide (x ≥ 2 ^ 63)) = false) (a1 : (items.isEmpty || x == 1) = true) :
    Meets (Builtin.«tuple.__mul__» ⟨[.ref l, .int x u], []⟩) (fun _ R s => (s.heap.get? l = some { cls := .type "tuple", dict := dd, data := .seq items n, slots := sl }) ∧ R (.ok (.ret (Value.ref l))) s) :=
  .of_wp fun prog w A R s h => by
    obtain ⟨hp, g, d, tk, os⟩ := s; obtain ⟨hl, h⟩ := h
    have f1 := AutoSeq1.idx_int; wp_walk using wpAny_loadPart' hl
    repeat (first
      | (refine wpAny_ite_false (decide_eq_false (by rw [a0]; exact Bool.false_ne_true)) ?_; (wp_walk using wpAny_loadPart' hl))
      | (refine wpAny_ite_true (decide_eq_true (by rw [a1])) ?_; (wp_walk using wpAny_loadPart' hl)))
    all_goals exact ⟨_, rfl, h⟩
theorem tmN (l : Addr) (items : Array Value) (n : Nat) (dd : Option Addr) (sl : Array (Option Value)) (x : Int) (u : Tok) (a0 : (decide (x < -(2 ^ 63)) || decide (x ≥ 2 ^ 63)) = false) (a1 : (items.isEmpty || x == 1) = false) (a2 : (decide (x ≤ 0) || items.isEmpty) = true) :
    Meets (Builtin.«tuple.__mul__» ⟨[.ref l, .int x u], []⟩) (fun _ R s => (s.heap.get? l = some { cls := .type "tuple", dict := dd, data := .seq items n, slots := sl }) ∧
      R (.ok (.ret (Value.ref s.heap.objs.size))) { s with heap := s.heap.push { cls := Value.type "tuple", data := Data.seq #[] } }) :=
  .of_wp fun prog w A R s h => by
    obtain ⟨hp, g, d, tk, os⟩ := s; obtain ⟨hl, h⟩ := h
    have f1 := AutoSeq1.idx_int; wp_walk using wpAny_loadPart' hl
    repeat (first
      | (refine wpAny_ite_false (decide_eq_false (by rw [a0]; exact Bool.false_ne_true)) ?_; (wp_walk using wpAny_loadPart' hl))
      | (refine wpAny_ite_false (decide_eq_false (by rw [a1]; exact Bool.false_ne_true)) ?_; (wp_walk using wpAny_loadPart' hl))
      | (refine wpAny_ite_true (decide_eq_true (by rw [a2])) ?_; (wp_walk using wpAny_loadPart' hl)))
    all_goals exact ⟨_, rfl, h⟩
def rTm (K : PySem.W.Frag) : R2 := fun x y H Q => ∃ l k xs, x = .ref l ∧ y = .int k ∧ SqT K H l xs ∧ -1000 ≤ k ∧ k ≤ 1000 ∧ xs.length ≤ 1000 ∧ (k = 1 ∨ xs = [] → Q (.ref l) H) ∧
  (¬ (k = 1 ∨ xs = []) → ∀ p, H p = none → Q (.ref p) (upd H p (.tup (List.replicate k.toNat xs).flatten)))
theorem op_tm {X : Cx} : OpR X (binaryOp .Mult) (rTm X.K) := by
  intro pins s σ H x y v u Q I rx ry h
  obtain ⟨l, k, xs, rfl, rfl, hT, k1, k2, hz, q1, q2⟩ := h
  cases rx
  obtain ⟨t, rfl⟩ := ry
  have hT0 := hT
  obtain ⟨its, r, ⟨⟨cls, dd, data, sl⟩, ho, hc, n, hd⟩, hs⟩ := I.tuple hT
  simp only at hc hd
  subst hc hd
  have hle : its.length = xs.length := r.length.symm
  have c0 : (decide (k < -(2 ^ 63)) || decide (k ≥ 2 ^ 63)) = false := by
    rw [decide_eq_false (by omega : ¬ k < -(2 ^ 63)), decide_eq_false (by omega : ¬ k ≥ 2 ^ 63)]
    rfl
  have hemp : its.toArray.isEmpty = decide (xs = []) := by
    cases its with
    | nil =>
      have : xs = [] := List.eq_nil_of_length_eq_zero (by simpa using hle.symm)
      simp [this]
    | cons a b =>
      have : xs ≠ [] := fun e => by rw [e] at hle; simp at hle
      simp [this]
  by_cases h1 : k = 1 ∨ xs = []
  · have c1 : (its.toArray.isEmpty || k == 1) = true := by
      rw [hemp]
      rcases h1 with h1 | h1 <;> simp [h1]
    refine wpAny_binaryOp_repeat_ref (T := "tuple") (U := "int") (by decide) ⟨_, ho, rfl⟩ (fun s' => typeIs_int s' k t) noFill_tuple_mul F.fills_int_mul F.slot_int_rmul repeat_tuple F.slot_int_index.lookup ?_
    refine call_meets F.slot_int_rmul (typeIs_int s k t) F.entry_int_rmul (F.args_int_rmul_2 _ _) (int_rmul_tuple k t l its.toArray n dd sl) ⟨ho, rfl, ⟨_, ho, rfl⟩, ?_⟩
    exact call_meets F.slot_tuple_mul ⟨_, ho, rfl⟩ F.entry_tuple_mul (F.args_tuple_mul_2 _ _) (tmS l its.toArray n dd sl k t c0 c1) ⟨ho, ⟨.ref l, H, I, rfl, q1 h1⟩⟩
  · have hx : xs ≠ [] := fun e => h1 (.inr e)
    have hk : k ≠ 1 := fun e => h1 (.inl e)
    by_cases h2 : k ≤ 0
    · have c1 : (its.toArray.isEmpty || k == 1) = false := by rw [hemp]; simp [hx, hk]
      have c2 : (decide (k ≤ 0) || its.toArray.isEmpty) = true := by simp [h2]
      refine wpAny_binaryOp_repeat_ref (T := "tuple") (U := "int") (by decide) ⟨_, ho, rfl⟩ (fun s' => typeIs_int s' k t) noFill_tuple_mul F.fills_int_mul F.slot_int_rmul repeat_tuple F.slot_int_index.lookup ?_
      refine call_meets F.slot_int_rmul (typeIs_int s k t) F.entry_int_rmul (F.args_int_rmul_2 _ _) (int_rmul_tuple k t l its.toArray n dd sl) ⟨ho, rfl, ⟨_, ho, rfl⟩, ?_⟩
      refine call_meets F.slot_tuple_mul ⟨_, ho, rfl⟩ F.entry_tuple_mul (F.args_tuple_mul_2 _ _) (tmN l its.toArray n dd sl k t c0 c1 c2) ⟨ho, ?_⟩
      have q3 := q2 h1 s.heap.objs.size (I.hok.fresh (Nat.le_refl _))
      have e0 : k.toNat = 0 := by omega
      rw [e0] at q3
      refine ⟨.ref s.heap.objs.size, _, I.laid (t' := s.toks) (o := .tup []) (fun b ob q => Heap.get?_push_of_some _ q) (Nat.le_refl _) ?_, rfl, q3⟩
      exact ⟨Nat.zero_le _, [], .nil, IsTup.new _ _⟩
    · exact op_repT pins s σ H (.ref l) (.int k) _ _ Q I rfl ⟨t, rfl⟩ ⟨l, k, xs, rfl, rfl, hT0, hx, by omega, k2, hz, q2 h1⟩

/-! ### operators over data -/
def OpQ (K : PySem.W.Frag) (ca : CA) (r : R2) (o : D → D → M D) : Prop := ∀ μ H S dx dy x y W σ, Rel K ca μ H S → VR K μ H dx x → VR K μ H dy y → Aq (rV K) ca W μ σ H S (r x y H) (o dx dy)
def mOp (o : D → D → M D) (f g : Ev) : Ev := fun ρ => (f ρ).bind fun x => (g ρ).bind fun y => o x y
theorem Adq.op {K : PySem.W.Frag} {ca : CA} {W : WX} {f g : Ev} {ta tb : TE} {r : R2} {o : D → D → M D} (h1 : Adq (rV K) ca W ta f) (h2 : Adq (rV K) ca W tb g) (ho : OpQ K ca r o) : Adq (rV K) ca W (tOp r ta tb) (mOp o f g) := fun μ σ H ρ S hr he =>
  Aq.bind (R1 := rV K) (t1 := ta σ H) (k := fun x H1 Q => tb σ H1 fun y H2 => r x y H2 Q) (h1 μ σ H ρ S hr he) fun d x μ1 H1 S1 e1 r1 x1 => Aq.bind (R1 := rV K) (t1 := tb σ H1) (k := fun y H2 Q => r x y H2 Q) (h2 μ1 σ H1 ρ S1 r1 (he.mono hr.mu e1)) fun d2 y μ2 H2 S2 e2 r2 x2 =>
    ho μ2 H2 S2 d d2 x y W σ r2 (VR.mono r1.mu e2 x1) x2
theorem OpQ.or1 {K : PySem.W.Frag} {ca : CA} {r r' : R2} {o : D → D → M D} (h : OpQ K ca r o) : OpQ K ca (fun x y H Q => r x y H Q ∨ r' x y H Q) o := fun μ H S dx dy x y W σ hr h1 h2 => (h μ H S dx dy x y W σ hr h1 h2).imp fun _ q => .inl q
theorem OpQ.or2 {K : PySem.W.Frag} {ca : CA} {r r' : R2} {o : D → D → M D} (h : OpQ K ca r' o) : OpQ K ca (fun x y H Q => r x y H Q ∨ r' x y H Q) o := fun μ H S dx dy x y W σ hr h1 h2 => (h μ H S dx dy x y W σ hr h1 h2).imp fun _ q => .inr q
def addD : D → D → M D
  | .int i, .int j => M.ret (.int (i + j))
  | .str a, .str b => if a.length + b.length ≤ 1000000 then M.ret (.str (a ++ b)) else M.stuck
  | .tup a, .tup b => if a.length + b.length ≤ 1000000 then M.ret (.tup (a ++ b)) else M.stuck
  | .lst a, .lst b => if a.length + b.length ≤ 1000000 then M.ret (.lst (a ++ b)) else M.stuck
  | _, _ => M.stuck
def subD : D → D → M D
  | .int i, .int j => M.ret (.int (i - j))
  | _, _ => M.stuck
def mulD : D → D → M D
  | .int i, .int j => if i.natAbs.log2 + j.natAbs.log2 < 1000000 then M.ret (.int (i * j)) else M.stuck
  | .tup a, .int k => if -1000 ≤ k ∧ k ≤ 1000 ∧ a.length ≤ 1000 then M.ret (.tup (List.replicate k.toNat a).flatten) else M.stuck
  | .lst a, .int k => if -1000 ≤ k ∧ k ≤ 1000 ∧ a.length ≤ 1000 then M.ret (.lst (List.replicate k.toNat a).flatten) else M.stuck
  | _, _ => M.stuck
def fdivD : D → D → M D
  | .int i, .int j => if 0 < j ∧ j.natAbs.log2 < 9000 then M.ret (.int (i / j)) else if j ≠ 0 ∧ j.natAbs < 1073741824 then M.ret (.int (i.fdiv j)) else M.stuck
  | _, _ => M.stuck
def modD : D → D → M D
  | .int i, .int j => if 0 < j then M.ret (.int (i % j)) else if j ≠ 0 then M.ret (.int (i.fmod j)) else M.stuck
  | _, _ => M.stuck
def powD : D → D → M D
  | .int i, .int j => if 0 ≤ j ∧ j ≤ 1000000 ∧ i.natAbs < 2 ^ 64 then M.ret (.int (i ^ j.toNat)) else M.stuck
  | _, _ => M.stuck
section
variable {K : PySem.W.Frag} {ca : CA}
theorem VRs.flat {μ : Mm} {H : Hp} {ds : List D} {vs : List V} (h : VRs K μ H ds vs) : ∀ n : Nat, VRs K μ H (List.replicate n ds).flatten (List.replicate n vs).flatten
  | 0 => .iNil
  | n + 1 => by
    rw [List.replicate_succ, List.replicate_succ, List.flatten_cons, List.flatten_cons]
    exact h.app (VRs.flat h n)
abbrev rAddA (K : PySem.W.Frag) : R2 := fun x y H Q => rI0 (fun i j => V.int (i + j)) x y H Q ∨ ((∃ i j, x = .str i ∧ y = .str j ∧ i.length + j.length ≤ sizeLine ∧ Q (.str (i ++ j)) H) ∨ (rCat x y H Q ∨ rCatA K x y H Q))
theorem op_addA {X : Cx} : OpR X (binaryOp .Add) (rAddA X.K) := OpR.or op_add (OpR.or op_add_str (OpR.or op_cat op_catA))
theorem q_add : OpQ K ca (rAddA K) addD := by
  intro μ H S dx dy x y W σ hr h1 h2
  unfold addD
  split
  · refine (Aq.ret (R := rV K) hr VR.iInt).imp fun Q q => .inl ⟨_, _, h1.int, h2.int, q⟩
  · split
    · rename_i hl
      exact (Aq.ret (R := rV K) hr VR.iStr).imp fun Q q => .inr (.inl ⟨_, _, h1.str, h2.str, big hl, q⟩)
    · exact Aq.stuck
  · rename_i a b
    split
    · rename_i hl
      obtain ⟨p, xs, rfl, t1, g1⟩ := h1.tup
      obtain ⟨p2, ys, rfl, t2, g2⟩ := h2.tup
      have e1 := g1.len
      have e2 := g2.len
      intro r hf Q hp
      have hf : some ((Rs.ok (.tup (a ++ b)) : Rs D), S) = some r := hf
      cases hf
      refine .inr (.inr (.inr ⟨p, p2, xs, ys, rfl, rfl, t1, t2, big (by rw [← e1, ← e2]; exact hl), fun e => ?_, fun n e => ?_, fun n n' p3 hn => ?_⟩))
      · subst e
        have : a = [] := List.eq_nil_of_length_eq_zero (by simpa using e1)
        subst this
        exact hp μ H _ hr.refl hr (VR.iTup t2 g2)
      · subst e
        have : b = [] := List.eq_nil_of_length_eq_zero (by simpa using e2)
        subst this
        rw [List.append_nil] at hp
        exact hp μ H _ hr.refl hr (VR.iTup t1 g1)
      · obtain ⟨x, r⟩ := hr.laid (o := .tup (xs ++ ys)) hn
        exact hp μ _ _ x r (VR.iTup (SqT.of upd_same) ((g1.app g2).mono hr.mu x))
    · exact Aq.stuck
  · rename_i a b
    split
    · rename_i hl
      obtain ⟨p, xs, rfl, t1, g1⟩ := h1.lst
      obtain ⟨p2, ys, rfl, t2, g2⟩ := h2.lst
      have e1 := g1.len
      have e2 := g2.len
      refine (Aq.new (R := rV K) (v := fun p => .ref p) (o := .lst (xs ++ ys)) hr fun p3 hn m x => ?_).imp fun Q q => .inr (.inr (.inl ⟨p, p2, xs, ys, rfl, rfl, t1.1, t2.1, big (by rw [← e1, ← e2]; exact hl), q⟩))
      exact VR.iLst ⟨upd_same, m.not hn⟩ ((g1.app g2).mono m x)
    · exact Aq.stuck
  · exact Aq.stuck
theorem q_sub : OpQ K ca (rI0 fun i j => V.int (i - j)) subD := by
  intro μ H S dx dy x y W σ hr h1 h2
  unfold subD
  split
  · exact (Aq.ret (R := rV K) hr VR.iInt).imp fun Q q => ⟨_, _, h1.int, h2.int, q⟩
  · exact Aq.stuck
abbrev rMulA (K : PySem.W.Frag) : R2 := fun x y H Q => rI CMulW (fun i j => V.int (i * j)) x y H Q ∨ (rRep x y H Q ∨ rTm K x y H Q)
theorem op_mulA {X : Cx} : OpR X (binaryOp .Mult) (rMulA X.K) := OpR.or op_mulW (OpR.or op_rep op_tm)
theorem q_mul : OpQ K ca (rMulA K) mulD := by
  intro μ H S dx dy x y W σ hr h1 h2
  unfold mulD
  split
  · split
    · rename_i hl
      exact (Aq.ret (R := rV K) hr VR.iInt).imp fun Q q => .inl ⟨_, _, h1.int, h2.int, hl, q⟩
    · exact Aq.stuck
  · rename_i a k
    split
    · rename_i hl
      obtain ⟨p, xs, rfl, t1, g1⟩ := h1.tup
      have e1 := g1.len
      intro r hf Q hp
      have hf : some ((Rs.ok (.tup (List.replicate k.toNat a).flatten) : Rs D), S) = some r := hf
      cases hf
      refine .inr (.inr ⟨p, k, xs, rfl, h2.int, t1, hl.1, hl.2.1, by rw [← e1]; exact hl.2.2, fun e => ?_, fun n p3 hn => ?_⟩)
      · refine hp μ H _ hr.refl hr ?_
        rcases e with e | e
        · subst e
          have : (List.replicate (1 : Int).toNat a).flatten = a := by simp
          show VR K μ H (.tup (List.replicate (1 : Int).toNat a).flatten) _
          rw [this]; exact VR.iTup t1 g1
        · subst e
          have : a = [] := List.eq_nil_of_length_eq_zero (by simpa using e1)
          subst this
          have : (List.replicate k.toNat ([] : List D)).flatten = [] := by simp
          show VR K μ H (.tup (List.replicate k.toNat []).flatten) _
          rw [this]; exact VR.iTup t1 g1
      · obtain ⟨x, r⟩ := hr.laid (o := .tup (List.replicate k.toNat xs).flatten) hn
        exact hp μ _ _ x r (VR.iTup (SqT.of upd_same) ((g1.flat _).mono hr.mu x))
    · exact Aq.stuck
  · rename_i a k
    split
    · rename_i hl
      obtain ⟨p, xs, rfl, t1, g1⟩ := h1.lst
      have e1 := g1.len
      have hb : xs.length * k.toNat ≤ sizeLine := by
        refine big ?_
        have : xs.length * k.toNat ≤ 1000 * 1000 := Nat.mul_le_mul (by rw [← e1]; exact hl.2.2) (by have := hl.2.1; omega)
        omega
      refine (Aq.new (R := rV K) (v := fun p => .ref p) (o := .lst (List.replicate k.toNat xs).flatten) hr fun p3 hn m x => ?_).imp fun Q q =>
        .inr (.inl ⟨p, k, xs, rfl, h2.int, t1.1, by have := hl.1; omega, by have := hl.2.1; omega, hb, q⟩)
      exact VR.iLst ⟨upd_same, m.not hn⟩ ((g1.flat _).mono m x)
    · exact Aq.stuck
  · exact Aq.stuck
abbrev rFdivA : R2 := fun x y H Q => rI CDivW (fun i j => V.int (i / j)) x y H Q ∨ rI CDivN (fun i j => V.int (i.fdiv j)) x y H Q
theorem op_fdivA {X : Cx} : OpR X (binaryOp .FloorDiv) rFdivA := OpR.or op_fdivW op_fdivN
theorem q_fdiv : OpQ K ca rFdivA fdivD := by
  intro μ H S dx dy x y W σ hr h1 h2
  unfold fdivD
  split
  · split
    · rename_i hl
      exact (Aq.ret (R := rV K) hr VR.iInt).imp fun Q q => .inl ⟨_, _, h1.int, h2.int, hl, q⟩
    · split
      · rename_i hl
        exact (Aq.ret (R := rV K) hr VR.iInt).imp fun Q q => .inr ⟨_, _, h1.int, h2.int, hl, q⟩
      · exact Aq.stuck
  · exact Aq.stuck
abbrev rModA : R2 := fun x y H Q => rI (fun _ j => 0 < j) (fun i j => V.int (i % j)) x y H Q ∨ rI (fun _ j => j ≠ 0) (fun i j => V.int (i.fmod j)) x y H Q
theorem op_modA {X : Cx} : OpR X (binaryOp .Mod) rModA := OpR.or op_mod op_modN
theorem q_mod : OpQ K ca rModA modD := by
  intro μ H S dx dy x y W σ hr h1 h2
  unfold modD
  split
  · split
    · rename_i hl
      exact (Aq.ret (R := rV K) hr VR.iInt).imp fun Q q => .inl ⟨_, _, h1.int, h2.int, hl, q⟩
    · split
      · rename_i hl
        exact (Aq.ret (R := rV K) hr VR.iInt).imp fun Q q => .inr ⟨_, _, h1.int, h2.int, hl, q⟩
      · exact Aq.stuck
  · exact Aq.stuck
theorem q_pow : OpQ K ca (rI CPow fun i j => V.int (i ^ j.toNat)) powD := by
  intro μ H S dx dy x y W σ hr h1 h2
  unfold powD
  split
  · split
    · rename_i hl
      exact (Aq.ret (R := rV K) hr VR.iInt).imp fun Q q => ⟨_, _, h1.int, h2.int, hl, q⟩
    · exact Aq.stuck
  · exact Aq.stuck
end
section
variable {ca : CA} {X : Cx} {W : WX} {a b : Expr} {f g : Ev} {pos : Pos}
theorem de_op {op : Operator} {r : R2} {o : D → D → M D} (ho : OpR X (binaryOp op) r) (hq : OpQ X.K ca r o) (h1 : DE ca X W a f) (h2 : DE ca X W b g) : DE ca X W (.BinOp a op b pos) (mOp o f g) := by
  obtain ⟨t, p, q⟩ := h1.ex
  obtain ⟨u, p', q'⟩ := h2.ex
  exact ⟨_, pe_op ho p p', q.op q' hq⟩
theorem de_add (h1 : DE ca X W a f) (h2 : DE ca X W b g) : DE ca X W (.BinOp a .Add b pos) (mOp addD f g) := de_op op_addA q_add h1 h2
theorem de_sub (h1 : DE ca X W a f) (h2 : DE ca X W b g) : DE ca X W (.BinOp a .Sub b pos) (mOp subD f g) := de_op op_sub q_sub h1 h2
theorem de_mul (h1 : DE ca X W a f) (h2 : DE ca X W b g) : DE ca X W (.BinOp a .Mult b pos) (mOp mulD f g) := de_op op_mulA q_mul h1 h2
theorem de_fdiv (h1 : DE ca X W a f) (h2 : DE ca X W b g) : DE ca X W (.BinOp a .FloorDiv b pos) (mOp fdivD f g) := de_op op_fdivA q_fdiv h1 h2
theorem de_mod (h1 : DE ca X W a f) (h2 : DE ca X W b g) : DE ca X W (.BinOp a .Mod b pos) (mOp modD f g) := de_op op_modA q_mod h1 h2
theorem de_pow (h1 : DE ca X W a f) (h2 : DE ca X W b g) : DE ca X W (.BinOp a .Pow b pos) (mOp powD f g) := de_op op_pow q_pow h1 h2
end
end Tl
set_option Elab.async false
set_option linter.all false
set_option maxRecDepth 100000
set_option maxHeartbeats 4000000
set_option autoImplicit false
namespace Tl
open PySem L2 PySem.Spec PyProof.Rows

/-! ### comparisons over data -/
mutual
def toP : D → Option PyData
  | .non => some .none
  | .bl b => some (.bool b)
  | .int i => some (.int i)
  | .str s => some (.str s)
  | .tup ds => (toPs ds).map .tuple
  | .lst ds => (toPs ds).map .list
  | .scr _ => none
  | .dct => none
  | .ref _ => none
  | .fn _ => none
  | .thk _ _ _ _ _ => none
def toPs : List D → Option (List PyData)
  | [] => some []
  | d :: ds => (toP d).bind fun p => (toPs ds).map fun ps => p :: ps
end
section
variable {K : PySem.W.Frag} {μ : Mm} {H : Hp}
mutual
theorem VR.dp : ∀ {d : D} {v : V} {p : PyData}, VR K μ H d v → toP d = some p → Dp K H v p
  | .non, _, _, h, e => by unfold toP at e; cases e; rw [h.non]; exact .non
  | .bl b, _, _, h, e => by unfold toP at e; cases e; rw [h.bl]; exact .bl b
  | .int i, _, _, h, e => by unfold toP at e; cases e; rw [h.int]; exact .int i
  | .str s, _, _, h, e => by unfold toP at e; cases e; rw [h.str]; exact .str s
  | .tup ds, v, p, h, e => by
    unfold toP at e
    cases q : toPs ds with
    | none => rw [q] at e; cases e
    | some ps =>
      rw [q] at e; cases e
      obtain ⟨a, vs, rfl, t, g⟩ := h.tup
      exact .tup t (VRs.dp g q)
  | .lst ds, v, p, h, e => by
    unfold toP at e
    cases q : toPs ds with
    | none => rw [q] at e; cases e
    | some ps =>
      rw [q] at e; cases e
      obtain ⟨a, vs, rfl, t, g⟩ := h.lst
      exact .lst t.sq (VRs.dp g q)
  | .scr _, _, _, _, e => by unfold toP at e; cases e
  | .dct, _, _, _, e => by unfold toP at e; cases e
  | .ref _, _, _, _, e => by unfold toP at e; cases e
  | .fn _, _, _, _, e => by unfold toP at e; cases e
  | .thk _ _ _ _ _, _, _, _, e => by unfold toP at e; cases e
theorem VRs.dp : ∀ {ds : List D} {vs : List V} {ps : List PyData}, VRs K μ H ds vs → toPs ds = some ps → DpAll K H vs ps
  | [], _, _, h, e => by unfold toPs at e; cases e; rw [h.nil]; exact .nil
  | d :: ds, _, _, h, e => by
    unfold toPs at e
    obtain ⟨v, r, rfl, h1, h2⟩ := h.cons
    cases q : toP d with
    | none => rw [q] at e; cases e
    | some p =>
      cases q2 : toPs ds with
      | none => rw [q, q2] at e; cases e
      | some ps =>
        rw [q, q2] at e; cases e
        exact .cons (VR.dp h1 q) (VRs.dp h2 q2)
end
end
def cmpP (k : PyData → PyData → Bool) (a b : D) : M D := match toP a, toP b with
  | some p, some q => if SeqAt.shaped p = true ∧ SeqAt.shaped q = true then M.ret (.bl (k p q)) else M.stuck
  | _, _ => M.stuck
def eqD : D → D → M D := cmpP PyData.eqv
def neD : D → D → M D := cmpP fun p q => !PyData.eqv p q
def asInts : List D → Option (List Int)
  | [] => some []
  | .int i :: r => (asInts r).map fun is => i :: is
  | _ :: _ => none
theorem asInts_eq : ∀ {ds : List D} {is : List Int}, asInts ds = some is → ds = is.map D.int
  | [], _, h => by cases h; rfl
  | .int i :: r, is, h => by
    unfold asInts at h
    cases q : asInts r with
    | none => rw [q] at h; cases h
    | some js => rw [q] at h; cases h; rw [asInts_eq q]; rfl
  | .non :: _, _, h | .bl _ :: _, _, h | .str _ :: _, _, h | .tup _ :: _, _, h | .lst _ :: _, _, h | .scr _ :: _, _, h | .dct :: _, _, h | .ref _ :: _, _, h | .fn _ :: _, _, h | .thk _ _ _ _ _ :: _, _, h => by cases h
def ltD : D → D → M D
  | .int i, .int j => M.ret (.bl (decide (i < j)))
  | .tup a, .tup b => match asInts a, asInts b with
    | some x, some y => M.ret (.bl (HT.lexLt x y))
    | _, _ => M.stuck
  | _, _ => M.stuck
def ordD (k : Int → Int → Bool) : D → D → M D
  | .int i, .int j => M.ret (.bl (k i j))
  | _, _ => M.stuck
def isNon : D → Bool
  | .non => true
  | _ => false
def isD (neg : Bool) : D → D → M D
  | d, .non => M.ret (.bl (if neg then !isNon d else isNon d))
  | .bl a, .bl b => M.ret (.bl (if neg then !decide (a = b) else decide (a = b)))
  | _, _ => M.stuck
section
variable {K : PySem.W.Frag} {ca : CA}
theorem q_cmpP {k : PyData → PyData → Bool} {r : R2} (hk : ∀ x y H p q Q, Dp K H x p → Dp K H y q → SeqAt.shaped p = true → SeqAt.shaped q = true → Q (.bl (k p q)) H → r x y H Q) : OpQ K ca r (cmpP k) := by
  intro μ H S dx dy x y W σ hr h1 h2
  unfold cmpP
  split
  · rename_i p q e1 e2
    split
    · rename_i hs
      exact (Aq.ret (R := rV K) hr VR.iBl).imp fun Q z => hk x y H p q Q (h1.dp e1) (h2.dp e2) hs.1 hs.2 z
    · exact Aq.stuck
  · exact Aq.stuck
theorem q_eq : OpQ K ca (rEqD K) eqD := q_cmpP fun x y H p q Q h1 h2 s1 s2 z => ⟨p, q, h1, h2, s1, s2, z⟩
theorem q_ne : OpQ K ca (rNeD K) neD := q_cmpP fun x y H p q Q h1 h2 s1 s2 z => ⟨p, q, h1, h2, s1, s2, z⟩
abbrev rLtA (K : PySem.W.Frag) : R2 := fun x y H Q => rI0 (fun i j => V.bl (decide (i < j))) x y H Q ∨ rLtT K x y H Q
theorem q_lt : OpQ K ca (rLtA K) ltD := by
  intro μ H S dx dy x y W σ hr h1 h2
  unfold ltD
  split
  · exact (Aq.ret (R := rV K) hr VR.iBl).imp fun Q q => .inl ⟨_, _, h1.int, h2.int, q⟩
  · split
    · rename_i e1 e2
      rw [asInts_eq e1] at h1
      rw [asInts_eq e2] at h2
      obtain ⟨p, xs, rfl, t1, g1⟩ := h1.tup
      obtain ⟨p2, ys, rfl, t2, g2⟩ := h2.tup
      rw [g1.ints_of] at t1
      rw [g2.ints_of] at t2
      exact (Aq.ret (R := rV K) hr VR.iBl).imp fun Q q => .inr ⟨p, p2, _, _, rfl, rfl, t1, t2, q⟩
    · exact Aq.stuck
  · exact Aq.stuck
theorem q_ord (k : Int → Int → Bool) : OpQ K ca (rI0 fun i j => V.bl (k i j)) (ordD k) := by
  intro μ H S dx dy x y W σ hr h1 h2
  unfold ordD
  split
  · exact (Aq.ret (R := rV K) hr VR.iBl).imp fun Q q => ⟨_, _, h1.int, h2.int, q⟩
  · exact Aq.stuck
theorem VR.isNon {μ : Mm} {H : Hp} {d : D} {v : V} (h : VR K μ H d v) : decide (v = .non) = Tl.isNon d := by
  cases d with
  | non => rw [h.non]; rfl
  | bl b => rw [h.bl]; rfl
  | int b => rw [h.int]; rfl
  | str b => rw [h.str]; rfl
  | tup b => obtain ⟨_, _, rfl, _⟩ := h.tup; rfl
  | lst b => obtain ⟨_, _, rfl, _⟩ := h.lst; rfl
  | scr b => obtain ⟨_, rfl, _⟩ := h.scr; rfl
  | dct => obtain ⟨_, rfl, _⟩ := h.dct; rfl
  | ref b => obtain ⟨_, _, rfl⟩ := h.ref; rfl
  | fn b => obtain ⟨_, _, rfl⟩ := h.fn; rfl
  | thk f c q vs ds => obtain ⟨rfl, _⟩ := h.thk; rfl
abbrev rIsA (neg : Bool) : R2 := fun x y H Q => (y = .non ∧ Q (.bl (if neg then !decide (x = .non) else decide (x = .non))) H) ∨ ∃ a b, x = .bl a ∧ y = .bl b ∧ Q (.bl (if neg then !decide (a = b) else decide (a = b))) H
theorem q_is (neg : Bool) : OpQ K ca (rIsA neg) (isD neg) := by
  intro μ H S dx dy x y W σ hr h1 h2
  unfold isD
  split
  · rw [← h1.isNon]
    exact (Aq.ret (R := rV K) hr VR.iBl).imp fun Q q => .inl ⟨h2.non, q⟩
  · exact (Aq.ret (R := rV K) hr VR.iBl).imp fun Q q => .inr ⟨_, _, h1.bl, h2.bl, q⟩
  · exact Aq.stuck
theorem op_isA {X : Cx} : OpR X (compareOp .Is) (rIsA false) := OpR.or op_isN op_is_bl
theorem op_isnotA {X : Cx} : OpR X (compareOp .IsNot) (rIsA true) := OpR.or op_notN op_isnot_bl
end

/-! ### tests -/
def mB (f : Ev) : Ev := fun ρ => (f ρ).bind fun d => match d with
  | .bl b => M.ret (.bl b)
  | _ => M.stuck
def mAnd (f g : Ev) : Ev := fun ρ => (f ρ).bind fun d => match d with
  | .bl true => g ρ
  | .bl false => M.ret (.bl false)
  | _ => M.stuck
def mOr (f g : Ev) : Ev := fun ρ => (f ρ).bind fun d => match d with
  | .bl true => M.ret (.bl true)
  | .bl false => g ρ
  | _ => M.stuck
def mNot (f : Ev) : Ev := fun ρ => (f ρ).bind fun d => match d with
  | .bl b => M.ret (.bl (!b))
  | _ => M.stuck
def mIte (c f g : Ev) : Ev := fun ρ => (c ρ).bind fun d => match d with
  | .bl true => f ρ
  | .bl false => g ρ
  | _ => M.stuck
def mChain (o o' : D → D → M D) (f g h : Ev) : Ev := fun ρ => (f ρ).bind fun x => (g ρ).bind fun y => (o x y).bind fun z => match z with
  | .bl true => (h ρ).bind fun u => o' y u
  | .bl false => M.ret (.bl false)
  | _ => M.stuck
section
variable {ca : CA} {X : Cx} {W : WX} {e a b c : Expr} {r : List Expr} {f g h : Ev} {pos : Pos}
theorem Adq.tst {K : PySem.W.Frag} {t : TE} (q : Adq (rV K) ca W t f) : Adq (rB K) ca W (fun σ H Q => t σ H fun x H' => ∃ k, x = .bl k ∧ Q k H') (mB f) := fun μ σ H ρ S hr he =>
  Aq.bind (R1 := rV K) (t1 := t σ H) (k := fun x H' Q => ∃ k, x = .bl k ∧ Q k H') (q μ σ H ρ S hr he) fun d x μ1 H1 S1 e1 r1 x1 => by
    split
    · exact (Aq.ret (R := rB K) (v := _) r1 rfl).imp fun Q z => ⟨_, VR.bl x1, z⟩
    · exact Aq.stuck
/-- a value as a test -/
theorem dt_val (h : DE ca X W e f) (he : ∀ whole, isTrue e X.env whole = (do let v ← whole; standAt e.pos; holding [v] (truthy v)) := by intro _; rfl) : DT ca X W e (mB f) := by
  obtain ⟨t, p, q⟩ := h.ex
  exact ⟨_, pt_val p he, Adq.tst q⟩
theorem de_cmp {op : CmpOp} {rr : R2} {o : D → D → M D} (ho : OpR X (compareOp op) rr) (hq : OpQ X.K ca rr o) (h1 : DE ca X W a f) (h2 : DE ca X W b g) (hm : behindInMarks op b = false) : DE ca X W (.Compare a [op] [b] pos) (mOp o f g) := by
  obtain ⟨t, p, q⟩ := h1.ex
  obtain ⟨u, p', q'⟩ := h2.ex
  exact ⟨_, pe_cmpR ho p p' hm, Adq.op q q' hq⟩
theorem dt_cmp {op : CmpOp} {rr : R2} {o : D → D → M D} (ho : OpR X (compareOp op) rr) (hq : OpQ X.K ca rr o) (h1 : DE ca X W a f) (h2 : DE ca X W b g) (hm : behindInMarks op b = false) : DT ca X W (.Compare a [op] [b] pos) (mB (mOp o f g)) := by
  obtain ⟨t, p, q⟩ := h1.ex
  obtain ⟨u, p', q'⟩ := h2.ex
  exact ⟨_, pt_cmpR ho p p' hm, Adq.tst (Adq.op q q' hq)⟩
theorem Adq.chain {K : PySem.W.Frag} {ta tb tc : TE} {rr rr' : R2} {o o' : D → D → M D} (q1 : Adq (rV K) ca W ta f) (q2 : Adq (rV K) ca W tb g) (q3 : Adq (rV K) ca W tc h) (ho : OpQ K ca rr o) (ho' : OpQ K ca rr' o') : Adq (rV K) ca W (tChain rr rr' ta tb tc) (mChain o o' f g h) := fun μ σ H ρ S hr he =>
  Aq.bind (R1 := rV K) (t1 := ta σ H) (k := fun x H1 Q => tb σ H1 fun y H2 => rr x y H2 fun z H3 => ∃ k, z = .bl k ∧ (if k = true then tc σ H3 fun w' H4 => rr' y w' H4 Q else Q (.bl false) H3)) (q1 μ σ H ρ S hr he) fun d x μ1 H1 S1 e1 r1 x1 =>
    Aq.bind (R1 := rV K) (t1 := tb σ H1) (k := fun y H2 Q => rr x y H2 fun z H3 => ∃ k, z = .bl k ∧ (if k = true then tc σ H3 fun w' H4 => rr' y w' H4 Q else Q (.bl false) H3)) (q2 μ1 σ H1 ρ S1 r1 (he.mono hr.mu e1)) fun d2 y μ2 H2 S2 e2 r2 x2 =>
      Aq.bind (R1 := rV K) (t1 := rr x y H2) (k := fun z H3 Q => ∃ k, z = .bl k ∧ (if k = true then tc σ H3 fun w' H4 => rr' y w' H4 Q else Q (.bl false) H3)) (ho μ2 H2 S2 d d2 x y W σ r2 (VR.mono r1.mu e2 x1) x2) fun d3 z μ3 H3 S3 e3 r3 x3 => by
        split
        · refine (Aq.bind (R1 := rV K) (R2 := rV K) (t1 := tc σ H3) (k := fun w' H4 Q => rr' y w' H4 Q) (q3 μ3 σ H3 ρ S3 r3 (((he.mono hr.mu e1).mono r1.mu e2).mono r2.mu e3)) fun d4 u μ4 H4 S4 e4 r4 x4 => ?_).imp fun Q z => ⟨true, VR.bl x3, by rw [if_pos rfl]; exact z⟩
          exact ho' μ4 H4 S4 d2 d4 y u W σ r4 (VR.mono r3.mu e4 (VR.mono r2.mu e3 x2)) x4
        · exact (Aq.ret (R := rV K) r3 VR.iBl).imp fun Q z => ⟨false, VR.bl x3, by rw [if_neg Bool.false_ne_true]; exact z⟩
        · exact Aq.stuck
theorem de_chain {op op' : CmpOp} {rr rr' : R2} {o o' : D → D → M D} (ho : OpR X (compareOp op) rr) (hq : OpQ X.K ca rr o) (ho' : OpR X (compareOp op') rr') (hq' : OpQ X.K ca rr' o') (h1 : DE ca X W a f) (h2 : DE ca X W b g) (h3 : DE ca X W c h)
    (hm : lastMarks [op, op'] [b, c] = false := by with_unfolding_all rfl) : DE ca X W (.Compare a [op, op'] [b, c] pos) (mChain o o' f g h) := by
  obtain ⟨t, p, q⟩ := h1.ex
  obtain ⟨u, p', q'⟩ := h2.ex
  obtain ⟨v, p'', q''⟩ := h3.ex
  exact ⟨_, pe_chain ho ho' p p' p'' hm, Adq.chain q q' q'' hq hq'⟩
theorem dt_chain {op op' : CmpOp} {rr rr' : R2} {o o' : D → D → M D} (ho : OpR X (compareOp op) rr) (hq : OpQ X.K ca rr o) (ho' : OpR X (compareOp op') rr') (hq' : OpQ X.K ca rr' o') (h1 : DE ca X W a f) (h2 : DE ca X W b g) (h3 : DE ca X W c h)
    (hm : lastMarks [op, op'] [b, c] = false := by with_unfolding_all rfl) : DT ca X W (.Compare a [op, op'] [b, c] pos) (mB (mChain o o' f g h)) := by
  obtain ⟨t, p, q⟩ := h1.ex
  obtain ⟨u, p', q'⟩ := h2.ex
  obtain ⟨v, p'', q''⟩ := h3.ex
  exact ⟨_, pt_chain ho ho' p p' p'' hm, Adq.tst (Adq.chain q q' q'' hq hq')⟩
theorem de_one {op : BoolOp} (h1 : DE ca X W a f) : DE ca X W (.BoolOp op [a] pos) f := by
  obtain ⟨t, p, q⟩ := h1.ex
  exact ⟨_, pe_one p, q⟩
theorem de_and (h1 : DE ca X W a f) (h2 : DE ca X W (.BoolOp .And (b :: r) pos) g) : DE ca X W (.BoolOp .And (a :: b :: r) pos) (mAnd f g) := by
  obtain ⟨t, p, q⟩ := h1.ex
  obtain ⟨u, p', q'⟩ := h2.ex
  refine ⟨_, pe_and p p', fun μ σ H ρ S hr he => Aq.bind (R1 := rV X.K) (t1 := t σ H) (k := fun x H1 Q => ∃ c, x = .bl c ∧ if c = true then u σ H1 Q else Q (.bl false) H1) (q μ σ H ρ S hr he) fun d x μ1 H1 S1 e1 r1 x1 => ?_⟩
  split
  · exact (q' μ1 σ H1 ρ S1 r1 (he.mono hr.mu e1)).imp fun Q z => ⟨true, VR.bl x1, by rw [if_pos rfl]; exact z⟩
  · exact (Aq.ret (R := rV X.K) r1 VR.iBl).imp fun Q z => ⟨false, VR.bl x1, by rw [if_neg Bool.false_ne_true]; exact z⟩
  · exact Aq.stuck
theorem de_or (h1 : DE ca X W a f) (h2 : DE ca X W (.BoolOp .Or (b :: r) pos) g) : DE ca X W (.BoolOp .Or (a :: b :: r) pos) (mOr f g) := by
  obtain ⟨t, p, q⟩ := h1.ex
  obtain ⟨u, p', q'⟩ := h2.ex
  refine ⟨_, pe_or p p', fun μ σ H ρ S hr he => Aq.bind (R1 := rV X.K) (t1 := t σ H) (k := fun x H1 Q => ∃ c, x = .bl c ∧ if c = true then Q (.bl true) H1 else u σ H1 Q) (q μ σ H ρ S hr he) fun d x μ1 H1 S1 e1 r1 x1 => ?_⟩
  split
  · exact (Aq.ret (R := rV X.K) r1 VR.iBl).imp fun Q z => ⟨true, VR.bl x1, by rw [if_pos rfl]; exact z⟩
  · exact (q' μ1 σ H1 ρ S1 r1 (he.mono hr.mu e1)).imp fun Q z => ⟨false, VR.bl x1, by rw [if_neg Bool.false_ne_true]; exact z⟩
  · exact Aq.stuck
theorem de_not (h1 : DE ca X W a f) : DE ca X W (.UnaryOp .Not a pos) (mNot f) := by
  obtain ⟨t, p, q⟩ := h1.ex
  refine ⟨_, pe_not p, fun μ σ H ρ S hr he => Aq.bind (R1 := rV X.K) (t1 := t σ H) (R2 := rV X.K) (k := fun x H1 (Q : V → Hp → Prop) => ∃ c, x = .bl c ∧ Q (V.bl (!c)) H1) (q μ σ H ρ S hr he) fun d x μ1 H1 S1 e1 r1 x1 => ?_⟩
  split
  · exact (Aq.ret (R := rV X.K) r1 VR.iBl).imp fun Q z => ⟨_, VR.bl x1, z⟩
  · exact Aq.stuck
theorem dw_and1 (h1 : DT ca X W a f) : DW ca X W (.BoolOp .And [a] pos) f := by
  obtain ⟨t, p, q⟩ := h1.ex
  exact ⟨_, pw_and1 p, q⟩
theorem dw_or1 (h1 : DT ca X W a f) : DW ca X W (.BoolOp .Or [a] pos) f := by
  obtain ⟨t, p, q⟩ := h1.ex
  exact ⟨_, pw_or1 p, q⟩
theorem dw_and (h1 : DT ca X W a f) (h2 : DW ca X W (.BoolOp .And (b :: r) pos) g) : DW ca X W (.BoolOp .And (a :: b :: r) pos) (mAnd f g) := by
  obtain ⟨t, p, q⟩ := h1.ex
  obtain ⟨u, p', q'⟩ := h2.ex
  refine ⟨_, pw_and p p', fun μ σ H ρ S hr he => Aq.bind (R1 := rB X.K) (t1 := t σ H) (k := fun c H1 Q => if c = true then u σ H1 Q else Q false H1) (q μ σ H ρ S hr he) fun d x μ1 H1 S1 e1 r1 x1 => ?_⟩
  have x1 : d = .bl x := x1
  subst x1
  cases x with
  | true => exact (q' μ1 σ H1 ρ S1 r1 (he.mono hr.mu e1)).imp fun Q z => by rw [if_pos rfl]; exact z
  | false => exact (Aq.ret (R := rB X.K) (v := false) r1 rfl).imp fun Q z => by rw [if_neg Bool.false_ne_true]; exact z
theorem dw_or (h1 : DT ca X W a f) (h2 : DW ca X W (.BoolOp .Or (b :: r) pos) g) : DW ca X W (.BoolOp .Or (a :: b :: r) pos) (mOr f g) := by
  obtain ⟨t, p, q⟩ := h1.ex
  obtain ⟨u, p', q'⟩ := h2.ex
  refine ⟨_, pw_or p p', fun μ σ H ρ S hr he => Aq.bind (R1 := rB X.K) (t1 := t σ H) (k := fun c H1 Q => if c = true then Q true H1 else u σ H1 Q) (q μ σ H ρ S hr he) fun d x μ1 H1 S1 e1 r1 x1 => ?_⟩
  have x1 : d = .bl x := x1
  subst x1
  cases x with
  | true => exact (Aq.ret (R := rB X.K) (v := true) r1 rfl).imp fun Q z => by rw [if_pos rfl]; exact z
  | false => exact (q' μ1 σ H1 ρ S1 r1 (he.mono hr.mu e1)).imp fun Q z => by rw [if_neg Bool.false_ne_true]; exact z
theorem dt_w (h1 : DW ca X W a f) : DT ca X W a f := by
  obtain ⟨t, p, q⟩ := h1.ex
  exact ⟨_, p.pt, q⟩
theorem dt_not (h1 : DT ca X W a f) : DT ca X W (.UnaryOp .Not a pos) (mNot f) := by
  obtain ⟨t, p, q⟩ := h1.ex
  refine ⟨_, pt_not p, fun μ σ H ρ S hr he => Aq.bind (R1 := rB X.K) (t1 := t σ H) (k := fun c H1 Q => Q (!c) H1) (q μ σ H ρ S hr he) fun d x μ1 H1 S1 e1 r1 x1 => ?_⟩
  have x1 : d = .bl x := x1
  subst x1
  exact Aq.ret (R := rB X.K) (v := !x) r1 rfl
theorem de_ite (h1 : DT ca X W c h) (h2 : DE ca X W a f) (h3 : DE ca X W b g) : DE ca X W (.IfExp c a b pos) (mIte h f g) := by
  obtain ⟨t, p, q⟩ := h1.ex
  obtain ⟨u, p', q'⟩ := h2.ex
  obtain ⟨v, p'', q''⟩ := h3.ex
  refine ⟨_, pe_ifExp p p' p'', fun μ σ H ρ S hr he => Aq.bind (R1 := rB X.K) (t1 := t σ H) (k := fun c H1 Q => if c = true then u σ H1 Q else v σ H1 Q) (q μ σ H ρ S hr he) fun d x μ1 H1 S1 e1 r1 x1 => ?_⟩
  have x1 : d = .bl x := x1
  subst x1
  cases x with
  | true => exact (q' μ1 σ H1 ρ S1 r1 (he.mono hr.mu e1)).imp fun Q z => by rw [if_pos rfl]; exact z
  | false => exact (q'' μ1 σ H1 ρ S1 r1 (he.mono hr.mu e1)).imp fun Q z => by rw [if_neg Bool.false_ne_true]; exact z
/-! the comparisons by name -/
theorem cm_eq (hu : X.A.units + 64 < cLine) : OpR X (compareOp .Eq) (rEqD X.K) := op_eqD hu
theorem cm_ne (hu : X.A.units + 64 < cLine) : OpR X (compareOp .NotEq) (rNeD X.K) := op_neD hu
theorem cm_lt (hu : X.A.units + 64 < cLine) : OpR X (compareOp .Lt) (rLtA X.K) := OpR.or op_lt (op_ltT (by omega))
end
end Tl
set_option Elab.async false
set_option linter.all false
set_option maxRecDepth 100000
set_option maxHeartbeats 4000000
set_option autoImplicit false
namespace Tl
open PySem L2 PySem.Spec PyProof.Rows

/-! ### items and slices -/
def getAt (ds : List D) (i : Int) : M D := match atI ds i with
  | some d => M.ret d
  | none => M.stuck
def idxD : D → D → M D
  | .tup ds, .int i => getAt ds i
  | .lst ds, .int i => getAt ds i
  | .ref n, .int i => fun S => match S[n]? with
    | some (.lst ds) => getAt ds i S
    | _ => none
  | _, _ => M.stuck
def cutL {α : Type} (xs : List α) (lo hi : Option Int) : List α := (xs.drop (HT.sIx xs.length 0 lo)).take (HT.sIx xs.length xs.length hi - HT.sIx xs.length 0 lo)
def slD (x : D) (lo hi : Option Int) : M D := match x with
  | .tup ds => M.ret (.tup (cutL ds lo hi))
  | .lst ds => M.ret (.lst (cutL ds lo hi))
  | .scr ns => M.ret (.lst ((cutL ns lo hi).map .int))
  | _ => M.stuck
section
variable {K : PySem.W.Frag} {ca : CA}
theorem VRs.at {μ : Mm} {H : Hp} {ds : List D} {vs : List V} {i : Int} {d : D} (h : VRs K μ H ds vs) (e : atI ds i = some d) : ∃ v, atI vs i = some v ∧ VR K μ H d v := by
  unfold atI at e ⊢
  rw [← h.len]
  cases q : ixN ds.length i with
  | none => rw [q] at e; cases e
  | some j =>
    rw [q] at e
    exact h.get (i := j) e
abbrev rIxA (K : PySem.W.Frag) : R2 := fun x y H Q => rIxL K x y H Q ∨ rIxT K x y H Q
theorem ix_A {X : Cx} : IxR X (rIxA X.K) := IxR.or ix_list ix_tup
theorem q_idx : OpQ K ca (rIxA K) idxD := by
  intro μ H S dx dy x y W σ hr h1 h2
  unfold idxD
  split
  · unfold getAt
    split
    · rename_i e
      obtain ⟨p, xs, rfl, t, g⟩ := h1.tup
      obtain ⟨v, e1, g1⟩ := g.at e
      exact (Aq.ret (R := rV K) hr g1).imp fun Q q => .inr ⟨p, xs, _, v, rfl, h2.int, t, e1, q⟩
    · exact Aq.stuck
  · unfold getAt
    split
    · rename_i e
      obtain ⟨p, xs, rfl, t, g⟩ := h1.lst
      obtain ⟨v, e1, g1⟩ := g.at e
      exact (Aq.ret (R := rV K) hr g1).imp fun Q q => .inl ⟨p, xs, _, v, rfl, h2.int, t.sq, e1, q⟩
    · exact Aq.stuck
  · rename_i n i
    intro r hf Q hp
    obtain ⟨p, hm, rfl⟩ := h1.ref
    dsimp only at hf
    split at hf
    · rename_i ds hs
      obtain ⟨vs, ho, g⟩ := hr.ob n p _ hm hs
      unfold getAt at hf
      cases e : atI ds i with
      | none => rw [e] at hf; cases hf
      | some d =>
        rw [e] at hf
        obtain ⟨v, e1, g1⟩ := g.at e
        have hf : some ((Rs.ok d : Rs D), S) = some r := hf
        cases hf
        exact .inl ⟨p, vs, i, v, rfl, h2.int, .inl (.inl ho), e1, hp μ H v hr.refl hr g1⟩
    · cases hf
  · exact Aq.stuck
abbrev rSlA2 (K : PySem.W.Frag) : V → Option Int → Option Int → Hp → VK → Prop := fun x lo hi H Q => rSlA K x lo hi H Q ∨ rSlL K x lo hi H Q
theorem sl_A {X : Cx} : SlR X (rSlA2 X.K) := SlR.or sl_tupA sl_list
theorem cut_eq (xs : List V) (lo hi : Option Int) : cutV xs lo hi = cutL xs lo hi := rfl
theorem VRs.cut {μ : Mm} {H : Hp} {ds : List D} {vs : List V} (h : VRs K μ H ds vs) (lo hi : Option Int) : VRs K μ H (cutL ds lo hi) (cutL vs lo hi) := by
  unfold cutL
  rw [h.len]
  exact (h.drop _).take _
theorem cut_all {α : Type} {xs : List α} {lo hi : Option Int} (h : HT.sIx xs.length 0 lo = 0 ∧ HT.sIx xs.length xs.length hi = xs.length) : cutL xs lo hi = xs := by
  unfold cutL
  rw [h.1, h.2]; simp
theorem cut_map {α β : Type} (f : α → β) (xs : List α) (lo hi : Option Int) : cutL (xs.map f) lo hi = (cutL xs lo hi).map f := by
  unfold cutL
  rw [List.length_map, List.map_take, List.map_drop]
theorem q_sl {μ : Mm} {H : Hp} {S : Store} {x : D} {v : V} {lo hi : Option Int} {W : WX} {σ : L2.St} (hr : Rel K ca μ H S) (h : VR K μ H x v) : Aq (rV K) ca W μ σ H S (rSlA2 K v lo hi H) (slD x lo hi) := by
  unfold slD
  split
  · rename_i ds
    obtain ⟨p, xs, rfl, t, g⟩ := h.tup
    intro r hf Q hp
    have hf : some ((Rs.ok (.tup (cutL ds lo hi)) : Rs D), S) = some r := hf
    cases hf
    refine .inl ⟨p, xs, rfl, t, fun e => ?_, fun e q hq => ?_⟩
    · refine hp μ H _ hr.refl hr ?_
      have : cutL ds lo hi = ds := cut_all (by rw [g.len]; exact e)
      show VR K μ H (.tup (cutL ds lo hi)) _
      rw [this]
      exact VR.iTup t g
    · obtain ⟨x, r⟩ := hr.laid (o := .tup (cutV xs lo hi)) hq
      exact hp μ _ _ x r (VR.iTup (SqT.of upd_same) ((g.cut lo hi).mono hr.mu x))
  · rename_i ds
    obtain ⟨p, xs, rfl, t, g⟩ := h.lst
    refine (Aq.new (R := rV K) (v := fun p => .ref p) (o := .lst (cutV xs lo hi)) hr fun p hn m x => ?_).imp fun Q q => .inr ⟨p, xs, rfl, t.sq, q⟩
    exact VR.iLst ⟨upd_same, m.not hn⟩ ((g.cut lo hi).mono m x)
  · rename_i ns
    obtain ⟨p, rfl, t⟩ := h.scr
    refine (Aq.new (R := rV K) (v := fun p => .ref p) (o := .lst (cutV (ns.map V.int) lo hi)) hr fun p hn m x => ?_).imp fun Q q => .inr ⟨p, _, rfl, t.sq, q⟩
    refine VR.iLst ⟨upd_same, m.not hn⟩ ?_
    rw [cut_eq, cut_map]
    exact VRs.ints _
  · exact Aq.stuck
def rO (K : PySem.W.Frag) : RT K (Option Int) (Option Int) := ⟨fun _ _ d b => d = b, fun _ _ h => h⟩
end
structure DP (ca : CA) (X : Cx) (W : WX) (e : Option Expr) (f : Env → M (Option Int)) : Prop where
  ex : ∃ t, PO X e t ∧ Adq (rO X.K) ca W t f
def oNo : Env → M (Option Int) := fun _ => M.ret none
def oSome (f : Ev) : Env → M (Option Int) := fun ρ => (f ρ).bind fun d => match d with
  | .int i => M.ret (some i)
  | _ => M.stuck
def mSl (f : Ev) (l h : Env → M (Option Int)) : Ev := fun ρ => (f ρ).bind fun x => (l ρ).bind fun a => (h ρ).bind fun b => slD x a b
def mFld (c : Nat) (n : Str) (f : Ev) : Ev := fun ρ => (f ρ).bind fun d => match d with
  | .ref k => fun S => match S[k]? with
    | some (.ins c' fs) => if c' = c then (match fs.lookup n with
      | some d => some (.ok d, S)
      | none => none) else none
    | _ => none
  | _ => M.stuck
theorem lookup_of : ∀ {fs : List (Str × D)} {vf : List (Str × V)} {K : PySem.W.Frag} {μ : Mm} {H : Hp} {n : Str} {d : D}, fs.map (·.1) = vf.map (·.1) → VRs K μ H (fs.map (·.2)) (vf.map (·.2)) → fs.lookup n = some d → ∃ v, vf.lookup n = some v ∧ VR K μ H d v
  | [], _, _, _, _, _, _, _, _, e => by cases e
  | (m, x) :: fs, [], _, _, _, _, _, h, _, _ => by cases h
  | (m, x) :: fs, (m', y) :: vf, K, μ, H, n, d, h, g, e => by
    simp only [List.map_cons, List.cons.injEq] at h
    obtain ⟨h1, h2⟩ := h
    subst h1
    obtain ⟨v, r, e1, g1, g2⟩ := VRs.cons g
    have e1 : y :: vf.map (·.2) = v :: r := e1
    cases e1
    simp only [List.lookup_cons] at e ⊢
    cases hb : n == m with
    | true => rw [hb] at e; cases e; exact ⟨y, rfl, g1⟩
    | false => rw [hb] at e; exact lookup_of h2 g2 e
section
variable {ca : CA} {X : Cx} {W : WX} {e a b : Expr} {es : List Expr} {f g : Ev} {fs : Evs} {pos p2 : Pos} {lo hi : Option Expr} {l h : Env → M (Option Int)}
theorem de_idx (h1 : DE ca X W a f) (h2 : DE ca X W b g) (hs : PlainIx b := by exact fun _ _ => rfl) : DE ca X W (.Subscript a b pos) (mOp idxD f g) := by
  obtain ⟨t, p, q⟩ := h1.ex
  obtain ⟨u, p', q'⟩ := h2.ex
  exact ⟨_, pe_ix ix_A p p' hs, Adq.op q q' q_idx⟩
theorem dp_no : DP ca X W none oNo := ⟨_, po_none, fun μ σ H ρ S hr he => Aq.ret (R := rO X.K) hr rfl⟩
theorem dp_some (h1 : DE ca X W e f) : DP ca X W (some e) (oSome f) := by
  obtain ⟨t, p, q⟩ := h1.ex
  refine ⟨_, po_some p, fun μ σ H ρ S hr he => Aq.bind (R1 := rV X.K) (R2 := rO X.K) (t1 := t σ H) (k := fun x H1 (Q : Option Int → Hp → Prop) => ∃ i, x = .int i ∧ Q (some i) H1) (q μ σ H ρ S hr he) fun d x μ1 H1 S1 e1 r1 x1 => ?_⟩
  split
  · exact (Aq.ret (R := rO X.K) r1 rfl).imp fun Q z => ⟨_, VR.int x1, z⟩
  · exact Aq.stuck
theorem de_sl (h1 : DE ca X W e f) (h2 : DP ca X W lo l) (h3 : DP ca X W hi h) : DE ca X W (.Subscript e (.Slice lo hi none p2) pos) (mSl f l h) := by
  obtain ⟨t, p, q⟩ := h1.ex
  obtain ⟨u, p', q'⟩ := h2.ex
  obtain ⟨v, p'', q''⟩ := h3.ex
  refine ⟨_, pe_slice sl_A p p' p'', fun μ σ H ρ S hr he => Aq.bind (R1 := rV X.K) (t1 := t σ H) (k := fun x H1 Q => u σ H1 fun l H2 => v σ H2 fun w H3 => rSlA2 X.K x l w H3 Q) (q μ σ H ρ S hr he) fun d x μ1 H1 S1 e1 r1 x1 => ?_⟩
  refine Aq.bind (R1 := rO X.K) (t1 := u σ H1) (k := fun l H2 Q => v σ H2 fun w H3 => rSlA2 X.K x l w H3 Q) (q' μ1 σ H1 ρ S1 r1 (he.mono hr.mu e1)) fun d2 x2 μ2 H2 S2 e2 r2 y2 => ?_
  have y2 : d2 = x2 := y2
  subst y2
  refine Aq.bind (R1 := rO X.K) (t1 := v σ H2) (k := fun w H3 Q => rSlA2 X.K x d2 w H3 Q) (q'' μ2 σ H2 ρ S2 r2 ((he.mono hr.mu e1).mono r1.mu e2)) fun d3 x3 μ3 H3 S3 e3 r3 y3 => ?_
  have y3 : d3 = x3 := y3
  subst y3
  exact q_sl r3 (VR.mono r2.mu e3 (VR.mono r1.mu e2 x1))
theorem de_fld {c : Nat} {n : Str} (hc : Cls X.K (ca c)) (hn : NoAttr X.K (ca c) n) (h1 : DE ca X W e f) (hb : attributeBase e n X.env (eval e X.env) = eval e X.env := by rfl) : DE ca X W (.Attribute e n pos) (mFld c n f) := by
  obtain ⟨t, p, q⟩ := h1.ex
  refine ⟨_, pe_fld p hb, fun μ σ H ρ S hr he => Aq.bind (R1 := rV X.K) (t1 := t σ H) (k := fun x H1 Q => ∃ a C dx fs v, x = .ref a ∧ H1 a = some (.ins C dx fs) ∧ Cls X.K C ∧ NoAttr X.K C n ∧ fs.lookup n = some v ∧ Q v H1) (q μ σ H ρ S hr he) fun d x μ1 H1 S1 e1 r1 x1 => ?_⟩
  split
  · rename_i k
    intro r hf Q hp
    obtain ⟨a, hm, rfl⟩ := VR.ref x1
    dsimp only at hf
    split at hf
    · rename_i c' fs' hs
      split at hf
      · rename_i hcc
        subst hcc
        split at hf
        · rename_i d hl
          cases hf
          obtain ⟨dx, vf, ho, g1, g2⟩ := r1.ob k a _ hm hs
          obtain ⟨v, l1, l2⟩ := lookup_of g1 g2 hl
          exact ⟨a, _, dx, vf, v, rfl, ho, hc, hn, l1, hp μ1 H1 v r1.refl r1 l2⟩
        · cases hf
      · cases hf
    · cases hf
  · exact Aq.stuck
end

/-! ### built-in functions -/
def CallQ (K : PySem.W.Frag) (ca : CA) (r : List V → Hp → VK → Prop) (o : List D → M D) : Prop := ∀ μ H S ds vs W σ, Rel K ca μ H S → VRs K μ H ds vs → Aq (rV K) ca W μ σ H S (r vs H) (o ds)
def mCl (o : List D → M D) (fs : Evs) : Ev := fun ρ => (fs ρ).bind o
def asBools : List D → Option (List Bool)
  | [] => some []
  | .bl b :: r => (asBools r).map fun bs => b :: bs
  | _ :: _ => none
theorem asBools_eq : ∀ {ds : List D} {bs : List Bool}, asBools ds = some bs → ds = bs.map D.bl
  | [], _, h => by cases h; rfl
  | .bl i :: r, is, h => by
    unfold asBools at h
    cases q : asBools r with
    | none => rw [q] at h; cases h
    | some js => rw [q] at h; cases h; rw [asBools_eq q]; rfl
  | .non :: _, _, h | .int _ :: _, _, h | .str _ :: _, _, h | .tup _ :: _, _, h | .lst _ :: _, _, h | .scr _ :: _, _, h | .dct :: _, _, h | .ref _ :: _, _, h | .fn _ :: _, _, h | .thk _ _ _ _ _ :: _, _, h => by cases h
/-- the items of a list that is read -/
def itemsL (K : PySem.W.Frag) (d : D) (S : Store) : Option (List D) := match d with
  | .lst ds => some ds
  | .ref n => match S[n]? with
    | some (.lst ds) => some ds
    | _ => none
  | _ => none
def lenD : List D → M D
  | [.tup ds] => M.ret (.int ds.length)
  | [.lst ds] => M.ret (.int ds.length)
  | [.scr ns] => M.ret (.int ns.length)
  | [.str s] => if s.length ≤ 1000000 then M.ret (.int s.length) else M.stuck
  | [.ref n] => fun S => match S[n]? with
    | some (.lst ds) => some (.ok (.int ds.length), S)
    | _ => none
  | _ => M.stuck
def absD : List D → M D
  | [.int i] => M.ret (.int (if i < 0 then -i else i))
  | _ => M.stuck
def intD : List D → M D
  | [.int i] => M.ret (.int i)
  | [.bl b] => M.ret (.int (if b then 1 else 0))
  | _ => M.stuck
def maxD : List D → M D
  | [.int i, .int j] => M.ret (.int (if j > i then j else i))
  | _ => M.stuck
def minD : List D → M D
  | [.int i, .int j] => M.ret (.int (if j < i then j else i))
  | _ => M.stuck
/-- one list of a kind -/
def onL (o : List D → Option D) : List D → M D
  | [.lst ds] => fun S => (o ds).map fun d => (.ok d, S)
  | [.ref n] => fun S => match S[n]? with
    | some (.lst ds) => (o ds).map fun d => (.ok d, S)
    | _ => none
  | _ => M.stuck
def sumD : List D → M D := onL fun ds => (asInts ds).map fun ns => .int ns.sum
def allD : List D → M D := onL fun ds => (asBools ds).map fun bs => .bl (bs.all id)
def anyD : List D → M D := onL fun ds => (asBools ds).map fun bs => .bl (bs.any id)
def tupleD : List D → M D
  | [.tup ds] => M.ret (.tup ds)
  | l => onL (fun ds => some (.tup ds)) l
def listD : List D → M D
  | [.tup ds] => M.ret (.lst ds)
  | l => onL (fun ds => some (.lst ds)) l
section
variable {K : PySem.W.Frag} {ca : CA}
theorem one {μ : Mm} {H : Hp} {d : D} {vs : List V} (h : VRs K μ H [d] vs) : ∃ v, vs = [v] ∧ VR K μ H d v := by
  obtain ⟨v, r, rfl, h1, h2⟩ := h.cons
  rw [h2.nil]; exact ⟨v, rfl, h1⟩
theorem two {μ : Mm} {H : Hp} {d e : D} {vs : List V} (h : VRs K μ H [d, e] vs) : ∃ v u, vs = [v, u] ∧ VR K μ H d v ∧ VR K μ H e u := by
  obtain ⟨v, r, rfl, h1, h2⟩ := h.cons
  obtain ⟨u, rfl, h3⟩ := one h2
  exact ⟨v, u, rfl, h1, h3⟩
/-- a list at an address, by a value or a place -/
theorem q_onL {r : List V → Hp → VK → Prop} {o : List D → Option D} (hr : ∀ μ H S a ds vs d W σ, Rel K ca μ H S → SqL K H a vs → VRs K μ H ds vs → o ds = some d → Aq (rV K) ca W μ σ H S (r [.ref a] H) (M.ret d)) : CallQ K ca r (onL o) := by
  intro μ H S ds vs W σ hR hv
  unfold onL
  split
  · rename_i xs
    obtain ⟨v, rfl, h⟩ := one hv
    obtain ⟨a, us, rfl, t, g⟩ := h.lst
    intro res hf Q hp
    cases q : o xs with
    | none => rw [q] at hf; cases hf
    | some d => rw [q] at hf; exact hr μ H S a xs us d W σ hR t.sq g q res hf Q hp
  · rename_i n
    obtain ⟨v, rfl, h⟩ := one hv
    obtain ⟨a, hm, rfl⟩ := h.ref
    intro res hf Q hp
    dsimp only at hf
    split at hf
    · rename_i xs hs
      obtain ⟨us, ho, g⟩ := hR.ob n a _ hm hs
      cases q : o xs with
      | none => rw [q] at hf; cases hf
      | some d => rw [q] at hf; exact hr μ H S a xs us d W σ hR (.inl (.inl ho)) g q res hf Q hp
    · cases hf
  · exact Aq.stuck
theorem q_len : CallQ K ca (fun xs H Q => ∃ x n, xs = [x] ∧ LenV K x H n ∧ Q (.int n) H) lenD := by
  intro μ H S ds vs W σ hr hv
  unfold lenD
  split
  · obtain ⟨v, rfl, h⟩ := one hv
    obtain ⟨a, us, rfl, t, g⟩ := h.tup
    rw [g.len]
    exact (Aq.ret (R := rV K) hr VR.iInt).imp fun Q q => ⟨_, _, rfl, .inr ⟨us, t, rfl⟩, q⟩
  · obtain ⟨v, rfl, h⟩ := one hv
    obtain ⟨a, us, rfl, t, g⟩ := h.lst
    rw [g.len]
    exact (Aq.ret (R := rV K) hr VR.iInt).imp fun Q q => ⟨_, _, rfl, .inl ⟨us, t.sq, rfl⟩, q⟩
  · obtain ⟨v, rfl, h⟩ := one hv
    obtain ⟨a, rfl, t⟩ := h.scr
    exact (Aq.ret (R := rV K) hr VR.iInt).imp fun Q q => ⟨_, _, rfl, .inl ⟨_, t.sq, (List.length_map ..).symm⟩, q⟩
  · split
    · rename_i hl
      obtain ⟨v, rfl, h⟩ := one hv
      exact (Aq.ret (R := rV K) hr VR.iInt).imp fun Q q => ⟨_, _, rfl, by rw [h.str]; exact ⟨big hl, rfl⟩, q⟩
    · exact Aq.stuck
  · rename_i n
    obtain ⟨v, rfl, h⟩ := one hv
    obtain ⟨a, hm, rfl⟩ := h.ref
    intro res hf Q hp
    dsimp only at hf
    split at hf
    · rename_i xs hs
      cases hf
      obtain ⟨us, ho, g⟩ := hr.ob n a _ hm hs
      have e := g.len
      exact ⟨_, xs.length, rfl, .inl ⟨us, .inl (.inl ho), e⟩, hp μ H _ hr.refl hr VR.iInt⟩
    · cases hf
  · exact Aq.stuck
theorem q_abs : CallQ K ca (fun xs H Q => ∃ i, xs = [.int i] ∧ Q (.int (if i < 0 then -i else i)) H) absD := by
  intro μ H S ds vs W σ hr hv
  unfold absD
  split
  · obtain ⟨v, rfl, h⟩ := one hv
    exact (Aq.ret (R := rV K) hr VR.iInt).imp fun Q q => ⟨_, by rw [h.int], q⟩
  · exact Aq.stuck
theorem q_int : CallQ K ca (fun xs H Q => (∃ i, xs = [.int i] ∧ Q (.int i) H) ∨ ∃ k, xs = [.bl k] ∧ Q (.int (if k then 1 else 0)) H) intD := by
  intro μ H S ds vs W σ hr hv
  unfold intD
  split
  · obtain ⟨v, rfl, h⟩ := one hv
    exact (Aq.ret (R := rV K) hr VR.iInt).imp fun Q q => .inl ⟨_, by rw [h.int], q⟩
  · obtain ⟨v, rfl, h⟩ := one hv
    exact (Aq.ret (R := rV K) hr VR.iInt).imp fun Q q => .inr ⟨_, by rw [h.bl], q⟩
  · exact Aq.stuck
theorem q_max2 : CallQ K ca (fun xs H Q => ∃ i j, xs = [.int i, .int j] ∧ Q (.int (if j > i then j else i)) H) maxD := by
  intro μ H S ds vs W σ hr hv
  unfold maxD
  split
  · obtain ⟨v, u, rfl, h, h'⟩ := two hv
    exact (Aq.ret (R := rV K) hr VR.iInt).imp fun Q q => ⟨_, _, by rw [h.int, h'.int], q⟩
  · exact Aq.stuck
theorem q_min2 : CallQ K ca (fun xs H Q => ∃ i j, xs = [.int i, .int j] ∧ Q (.int (if j < i then j else i)) H) minD := by
  intro μ H S ds vs W σ hr hv
  unfold minD
  split
  · obtain ⟨v, u, rfl, h, h'⟩ := two hv
    exact (Aq.ret (R := rV K) hr VR.iInt).imp fun Q q => ⟨_, _, by rw [h.int, h'.int], q⟩
  · exact Aq.stuck
theorem q_sum : CallQ K ca (rSum K) sumD := q_onL fun μ H S a ds vs d W σ hr t g e => by
  cases q : asInts ds with
  | none => rw [q] at e; cases e
  | some ns =>
    rw [q] at e; cases e
    rw [asInts_eq q] at g
    rw [g.ints_of] at t
    exact (Aq.ret (R := rV K) hr VR.iInt).imp fun Q z => ⟨a, ns, rfl, t, z⟩
theorem VRs.bools_of {μ : Mm} {H : Hp} : ∀ {bs : List Bool} {vs : List V}, VRs K μ H (bs.map D.bl) vs → vs = bs.map V.bl
  | [], _, h => h.nil
  | n :: ns, _, h => by
    obtain ⟨v, r, rfl, h1, h2⟩ := h.cons
    rw [h1.bl, VRs.bools_of h2]
    rfl
theorem q_all : CallQ K ca (rAll K) allD := q_onL fun μ H S a ds vs d W σ hr t g e => by
  cases q : asBools ds with
  | none => rw [q] at e; cases e
  | some ns =>
    rw [q] at e; cases e
    rw [asBools_eq q] at g
    rw [g.bools_of] at t
    exact (Aq.ret (R := rV K) hr VR.iBl).imp fun Q z => ⟨a, ns, rfl, t, z⟩
theorem q_any : CallQ K ca (rAny K) anyD := q_onL fun μ H S a ds vs d W σ hr t g e => by
  cases q : asBools ds with
  | none => rw [q] at e; cases e
  | some ns =>
    rw [q] at e; cases e
    rw [asBools_eq q] at g
    rw [g.bools_of] at t
    exact (Aq.ret (R := rV K) hr VR.iBl).imp fun Q z => ⟨a, ns, rfl, t, z⟩
theorem q_tuple : CallQ K ca (fun xs H Q => ∃ p ys, xs = [.ref p] ∧ ((SqL K H p ys ∧ ∀ l, H l = none → Q (.ref l) (upd H l (.tup ys))) ∨ (SqT K H p ys ∧ Q (.ref p) H))) tupleD := by
  intro μ H S ds vs W σ hr hv
  unfold tupleD
  split
  · obtain ⟨v, rfl, h⟩ := one hv
    obtain ⟨a, us, rfl, t, g⟩ := h.tup
    exact (Aq.ret (R := rV K) hr (VR.iTup t g)).imp fun Q q => ⟨a, us, rfl, .inr ⟨t, q⟩⟩
  · refine q_onL (r := fun xs H Q => ∃ p ys, xs = [.ref p] ∧ ((SqL K H p ys ∧ ∀ l, H l = none → Q (.ref l) (upd H l (.tup ys))) ∨ (SqT K H p ys ∧ Q (.ref p) H))) (fun μ H S a ds vs d W σ hr t g e => ?_) μ H S _ vs W σ hr hv
    cases e
    exact (Aq.new (R := rV K) (v := fun p => .ref p) (o := .tup vs) hr fun p hn m x => VR.iTup (SqT.of upd_same) (g.mono m x)).imp fun Q q => ⟨a, vs, rfl, .inl ⟨t, q⟩⟩
theorem q_list : CallQ K ca (fun xs H Q => ∃ p ys, xs = [.ref p] ∧ (SqL K H p ys ∨ SqT K H p ys) ∧ ∀ l, H l = none → Q (.ref l) (upd H l (.lst ys))) listD := by
  intro μ H S ds vs W σ hr hv
  unfold listD
  split
  · obtain ⟨v, rfl, h⟩ := one hv
    obtain ⟨a, us, rfl, t, g⟩ := h.tup
    exact (Aq.new (R := rV K) (v := fun p => .ref p) (o := .lst us) hr fun p hn m x => VR.iLst ⟨upd_same, m.not hn⟩ (g.mono m x)).imp fun Q q => ⟨a, us, rfl, .inr t, q⟩
  · refine q_onL (r := fun xs H Q => ∃ p ys, xs = [.ref p] ∧ (SqL K H p ys ∨ SqT K H p ys) ∧ ∀ l, H l = none → Q (.ref l) (upd H l (.lst ys))) (fun μ H S a ds vs d W σ hr t g e => ?_) μ H S _ vs W σ hr hv
    cases e
    exact (Aq.new (R := rV K) (v := fun p => .ref p) (o := .lst vs) hr fun p hn m x => VR.iLst ⟨upd_same, m.not hn⟩ (g.mono m x)).imp fun Q q => ⟨a, vs, rfl, .inl t, q⟩
end
theorem bb_abs : bootBuiltins ("abs" : Str) = some (.builtin "abs") := by decide +kernel
theorem bb_len : bootBuiltins ("len" : Str) = some (.builtin "len") := by decide +kernel
theorem bb_sum : bootBuiltins ("sum" : Str) = some (.builtin "sum") := by decide +kernel
theorem bb_all : bootBuiltins ("all" : Str) = some (.builtin "all") := by decide +kernel
theorem bb_any : bootBuiltins ("any" : Str) = some (.builtin "any") := by decide +kernel
theorem bb_max : bootBuiltins ("max" : Str) = some (.builtin "max") := by decide +kernel
theorem bb_min : bootBuiltins ("min" : Str) = some (.builtin "min") := by decide +kernel
theorem bb_isi : bootBuiltins ("isinstance" : Str) = some (.builtin "isinstance") := by decide +kernel
theorem bb_int : bootBuiltins ("int" : Str) = some (.type "int") := by decide +kernel
theorem bb_bool : bootBuiltins ("bool" : Str) = some (.type "bool") := by decide +kernel
theorem bb_str : bootBuiltins ("str" : Str) = some (.type "str") := by decide +kernel
theorem bb_list : bootBuiltins ("list" : Str) = some (.type "list") := by decide +kernel
theorem bb_tuple : bootBuiltins ("tuple" : Str) = some (.type "tuple") := by decide +kernel
theorem bb_dict : bootBuiltins ("dict" : Str) = some (.type "dict") := by decide +kernel
section
variable {ca : CA} {X : Cx} {W : WX} {e : Expr} {es : List Expr} {fs : Evs} {f : Ev} {pos p : Pos} {x : Str} {r : List V → Hp → VK → Prop} {o : List D → M D}
theorem Adq.cl {K : PySem.W.Frag} {t : TA} (q : Adq (rVs K) ca W t fs) (hq : CallQ K ca r o) : Adq (rV K) ca W (tCB r t) (mCl o fs) := fun μ σ H ρ S hr he =>
  Aq.bind (R1 := rVs K) (t1 := t σ H) (k := fun vs H1 Q => r vs H1 Q) (q μ σ H ρ S hr he) fun ds vs μ1 H1 S1 e1 r1 x1 => hq μ1 H1 S1 ds vs W σ r1 x1
theorem de_bi {id : String} (hv : bootBuiltins x = some (.builtin id)) (hc : CallR X (.builtin id) r) (hq : CallQ X.K ca r o) (hm : X.mg x = none) (h : DA ca X W (e :: es) fs) (hg : Gl X x := by rfl) (hn : x ≠ "__name__" := by decide) (hdb : (x == ("__debug__" : Str)) = false := by decide)
    (he : starEach (e :: es) X.env = (false, eval e X.env) :: starEach es X.env := by rfl) (hpl : (backTo pos (starEach es X.env)).any (·.1) = false := by rfl) : DE ca X W (.Call (.Name x p) (e :: es) [] pos) (mCl o fs) := by
  obtain ⟨t, p, q⟩ := h.ex
  exact ⟨_, pe_callB hc hg hm hv p hn hdb he hpl, Adq.cl q hq⟩
theorem de_ty {id : String} (hv : bootBuiltins x = some (.type id)) (hc : CallR X (.type id) r) (hq : CallQ X.K ca r o) (hm : X.mg x = none) (h : DA ca X W (e :: es) fs) (hg : Gl X x := by rfl) (hn : x ≠ "__name__" := by decide) (hdb : (x == ("__debug__" : Str)) = false := by decide)
    (he : starEach (e :: es) X.env = (false, eval e X.env) :: starEach es X.env := by rfl) (hpl : (backTo pos (starEach es X.env)).any (·.1) = false := by rfl) : DE ca X W (.Call (.Name x p) (e :: es) [] pos) (mCl o fs) := by
  obtain ⟨t, p, q⟩ := h.ex
  exact ⟨_, pe_callTy hc hg hm hv p hn hdb he hpl, Adq.cl q hq⟩

/-! ### isinstance with a built-in class -/
end
def tyNm : D → Option String
  | .non => some "NoneType"
  | .bl _ => some "bool"
  | .int _ => some "int"
  | .str _ => some "str"
  | .tup _ => some "tuple"
  | .lst _ => some "list"
  | .dct => some "dict"
  | _ => none
def mIsi (T : String) (f : Ev) : Ev := fun ρ => (f ρ).bind fun d => match (tyNm d).bind fun n => kitB n T with
  | some b => M.ret (.bl b)
  | none => M.stuck
section
variable {ca : CA} {X : Cx} {W : WX} {e : Expr} {f : Ev} {pos p p1 : Pos} {x : Str}
theorem VR.tyX {K : PySem.W.Frag} {μ : Mm} {H : Hp} {d : D} {v : V} {n : String} (h : VR K μ H d v) (e : tyNm d = some n) : TyX K H v (.type n) := by
  cases d with
  | non => cases e; rw [h.non]; exact .base .non
  | bl b => cases e; rw [h.bl]; exact .base (.bl b)
  | int i => cases e; rw [h.int]; exact .base (.int i)
  | str s => cases e; rw [h.str]; exact .base (.str s)
  | tup ds =>
    cases e
    obtain ⟨a, vs, rfl, t, _⟩ := h.tup
    rcases t with (t | ⟨o, t⟩) | ⟨o, its, m, t, c, _⟩
    · exact .base (.tup t)
    · exact .fTuple t
    · exact .kTuple t c
  | lst ds =>
    cases e
    obtain ⟨a, vs, rfl, t, _⟩ := h.lst
    exact .base (.lst t.1)
  | dct =>
    cases e
    obtain ⟨a, rfl, _, _, t | t⟩ := h.dct
    · obtain ⟨_, t⟩ := t; exact .base (.dK t)
    · obtain ⟨_, t⟩ := t; exact .base (.dT t)
  | scr _ => cases e
  | ref _ => cases e
  | fn _ => cases e
  | thk _ _ _ _ _ => cases e
theorem de_isi {T : String} (hx : bootBuiltins x = some (.type T)) (hmi : X.mg "isinstance" = none) (hmx : X.mg x = none) (h : DE ca X W e f) (hgi : Gl X "isinstance" := by rfl) (hgx : Gl X x := by rfl) (hn : x ≠ "__name__" := by decide) (hdb : (x == ("__debug__" : Str)) = false := by decide)
    (he : starEach [e, .Name x p1] X.env = (false, eval e X.env) :: starEach [.Name x p1] X.env := by rfl) (he2 : starEach [.Name x p1] X.env = (false, eval (.Name x p1) X.env) :: starEach [] X.env := by rfl) (hpl : (backTo pos (starEach [.Name x p1] X.env)).any (·.1) = false := by rfl) :
    DE ca X W (.Call (.Name "isinstance" p) [e, .Name x p1] [] pos) (mIsi T f) := by
  obtain ⟨t, pp, q⟩ := h.ex
  have pT : PE X (.Name x p1) (tC (.ty T)) := pe_bltn (v := .ty T) (u := .type T) hgx hmx hx rfl hn hdb
  refine ⟨_, pe_callB call_isi hgi hmi bb_isi (pa_cons pp (pa_cons pT pa_nil he2) he) (by decide) (by decide) he hpl, fun μ σ H ρ S hr he => Aq.bind (R1 := rV X.K) (t1 := t σ H) (k := fun x H1 Q => rIsi X.K [x, .ty T] H1 Q) (q μ σ H ρ S hr he) fun d x μ1 H1 S1 e1 r1 x1 => ?_⟩
  split
  · rename_i b hb
    cases hn : tyNm d with
    | none => rw [hn] at hb; cases hb
    | some n =>
      rw [hn] at hb
      exact (Aq.ret (R := rV X.K) r1 VR.iBl).imp fun Q z => ⟨x, .ty T, .type n, .type T, b, rfl, .ty T, VR.tyX x1 hn, kit_ty hb, z⟩
  · exact Aq.stuck
end
end Tl
set_option Elab.async false
set_option linter.all false
set_option maxRecDepth 100000
set_option maxHeartbeats 4000000
set_option autoImplicit false
namespace Tl
open PySem L2 PySem.Spec PyProof.Rows

/-! ### defs called -/
abbrev Fnd := List D → M D
/-- a def's promise over data: n arguments, g what it tells -/
def spF (K : PySem.W.Frag) (ca : CA) (n : Nat) (g : Fnd) : Sp := fun vs H Q E => vs.length = n ∧ ∃ μ ds S r, Rel K ca μ H S ∧ VRs K μ H ds vs ∧ g ds S = some r ∧ Pst (rV K) ca μ H r Q E
/-- a def as it stands, with its promise -/
structure Cal (P : Program) (w : World) (K : PySem.W.Frag) (mg : Str → Option Value) (base : Heap) (ca : CA) (k : Nat) (x : Str) (n : Nat) (g : Fnd) : Prop where
  ex : ∃ f fd ps, mg x = some (.ref f) ∧ PySem.W.keepIn K (.ref f) = true ∧ Binds K fd ps [] ∧ FnOk P w K mg base (L2.CX P w) k f fd ps (spF K ca n g)
/-- a method of the class c -/
structure Mtd (P : Program) (w : World) (K : PySem.W.Frag) (mg : Str → Option Value) (base : Heap) (ca : CA) (k : Nat) (c : Nat) (m : Str) (n : Nat) (g : Fnd) : Prop where
  ex : ∃ f fd ps, Meth K (ca c) m f ∧ Binds K fd ps [] ∧ FnOk P w K mg base (L2.CX P w) k f fd ps (spF K ca n g)
/-- a class that makes instances by its __init__ -/
structure Mkd (P : Program) (w : World) (K : PySem.W.Frag) (mg : Str → Option Value) (base : Heap) (ca : CA) (k : Nat) (x : Str) (c : Nat) (n : Nat) (g : Fnd) : Prop where
  ex : ∃ f fd ps, Mk K (ca c) f ∧ mg x = some (.ref (ca c)) ∧ Binds K fd ps [] ∧ FnOk P w K mg base (L2.CX P w) k f fd ps (spF K ca n g)
/-- no exception -/
def noX {α : Type} (m : M α) : M α := fun S => match m S with
  | some (.ok a, S') => some (.ok a, S')
  | _ => none
theorem noX_ok {α : Type} {m : M α} {S : Store} {r : Rs α × Store} (h : noX m S = some r) : ∃ a, r.1 = .ok a ∧ m S = some r := by
  unfold noX at h
  split at h
  · rename_i a S' e
    cases h
    exact ⟨a, rfl, e⟩
  · cases h
def mCall (g : Fnd) (n : Nat) (fs : Evs) : Ev := fun ρ => (fs ρ).bind fun ds => if ds.length = n then g ds else M.stuck
def mMake (c : Nat) (g : Fnd) (n : Nat) (fs : Evs) : Ev := fun ρ => (fs ρ).bind fun ds => if ds.length + 1 = n then (fun S => match g (.ref S.length :: ds) (S ++ [.ins c []]) with
  | some (.ok .non, S') => some (.ok (.ref S.length), S')
  | some (.exc c fs, S') => some (.exc c fs, S')
  | _ => none) else M.stuck
def mMeth (c : Nat) (m : Str) (g : Fnd) (n : Nat) (f : Ev) (fs : Evs) : Ev := fun ρ => (f ρ).bind fun d => match d with
  | .ref k => fun S => match S[k]? with
    | some (.ins c' vf) => if c' = c ∧ vf.lookup m = none then ((fs ρ).bind fun ds => if ds.length + 1 = n then g (.ref k :: ds) else M.stuck) S else none
    | _ => none
  | _ => M.stuck
theorem lookup_none : ∀ {fs : List (Str × D)} {vf : List (Str × V)} {n : Str}, fs.map (·.1) = vf.map (·.1) → fs.lookup n = none → vf.lookup n = none
  | [], [], _, _, _ => rfl
  | [], _ :: _, _, h, _ => by cases h
  | _ :: _, [], _, h, _ => by cases h
  | (m, x) :: fs, (m', y) :: vf, n, h, e => by
    simp only [List.map_cons, List.cons.injEq] at h
    obtain ⟨h1, h2⟩ := h
    subst h1
    simp only [List.lookup_cons] at e ⊢
    cases hb : n == m with
    | true => rw [hb] at e; cases e
    | false => rw [hb] at e; exact lookup_none h2 e
section
variable {ca : CA} {X : Cx} {W : WX} {e : Expr} {es : List Expr} {fs : Evs} {f : Ev} {pos p apos : Pos} {x m : Str} {k n c : Nat} {g : Fnd}
theorem de_call (C : Cal X.prog X.w X.K X.mg X.base ca k x n g) (hr : Room k X.A) (tk : Takes X W) (h : DA ca X W (e :: es) fs) (hg : Gl X x := by rfl) (hdb : (x == ("__debug__" : Str)) = false := by decide)
    (he : starEach (e :: es) X.env = (false, eval e X.env) :: starEach es X.env := by rfl) (hpl : (backTo pos (starEach es X.env)).any (·.1) = false := by rfl) : DE ca X W (.Call (.Name x p) (e :: es) [] pos) (mCall g n fs) := by
  obtain ⟨t, pp, q⟩ := h.ex
  obtain ⟨fa, fd, ps, h1, h2, h3, F⟩ := C.ex
  refine ⟨_, pe_callS (E := WE W) F hr hg h1 h2 h3 (fun σ => passAt tk σ) pp hdb he hpl, fun μ σ H ρ S hR hE => Aq.bind (R1 := rVs X.K) (t1 := t σ H) (k := fun vs H1 (Q : VK) => spF X.K ca n g vs H1 Q (WE W σ)) (q μ σ H ρ S hR hE) fun ds vs μ1 H1 S1 e1 r1 x1 => ?_⟩
  split
  · rename_i hl
    intro r hf Q hp
    exact ⟨by rw [← VRs.len x1]; exact hl, μ1, ds, S1, r, r1, x1, hf, hp⟩
  · exact Aq.stuck
theorem de_call0 (C : Cal X.prog X.w X.K X.mg X.base ca k x 0 g) (hr : Room k X.A) (hg : Gl X x := by rfl) (hdb : (x == ("__debug__" : Str)) = false := by decide) : DE ca X W (.Call (.Name x p) [] [] pos) (fun _ => noX (g [])) := by
  obtain ⟨fa, fd, ps, h1, h2, h3, F⟩ := C.ex
  refine ⟨_, pe_call0 (E := E0) (dvs := []) F hr hg h1 h2 h3 .nil passL hdb, fun μ σ H ρ S hR hE r hf Q hp => ?_⟩
  obtain ⟨a, e1, e2⟩ := noX_ok hf
  refine ⟨rfl, μ, [], S, r, hR, .iNil, e2, ?_⟩
  obtain ⟨r1, r2⟩ := r
  have e1 : r1 = .ok a := e1
  subst e1
  exact hp
/-- C(..) -/
theorem de_make {E : XK} (C : Mkd X.prog X.w X.K X.mg X.base ca k x c n g) (hr : Room (k + 1) X.A) (hx : Passes (L2.CX X.prog X.w) X E) (hW : ∀ c d σ H, W c d σ H → E c d H) (h : DA ca X W (e :: es) fs) (hg : Gl X x := by rfl) (hdb : (x == ("__debug__" : Str)) = false := by decide)
    (he : starEach (e :: es) X.env = (false, eval e X.env) :: starEach es X.env := by rfl) (hpl : (backTo pos (starEach es X.env)).any (·.1) = false := by rfl) : DE ca X W (.Call (.Name x p) (e :: es) [] pos) (mMake c g n fs) := by
  obtain ⟨t, pp, q⟩ := h.ex
  obtain ⟨fa, fd, ps, M, h1, h3, F⟩ := C.ex
  refine ⟨_, pe_make (E := E) (dvs := []) M F hr hg h1 h3 .nil hx pp hdb he hpl, fun μ σ H ρ S hR hE => Aq.bind (R1 := rVs X.K) (t1 := t σ H)
    (k := fun vs H1 (Q : VK) => ∀ x dx, H1 x = none → H1 dx = none → dx ≠ x → spF X.K ca n g (.ref x :: (vs ++ [])) (upd (upd H1 dx (.own x)) x (.ins (ca c) dx [])) (fun v H2 => v = .non ∧ Q (V.ref x) H2) E) (q μ σ H ρ S hR hE) fun ds vs μ1 H1 S1 e1 r1 x1 => ?_⟩
  split
  · rename_i hl
    intro r hf Q hp x dx nx ndx ne
    rw [List.append_nil]
    obtain ⟨xa, ra⟩ := r1.laid (o := .own x) ndx
    have nx' : (upd H1 dx (.own x)) x = none := by rw [upd_ne (Ne.symm ne)]; exact nx
    obtain ⟨xb, rb⟩ := ra.fresh (p := x) (o := .ins (ca c) dx []) (u := .ins c []) nx' .iIns fun m y => ⟨dx, [], upd_same, rfl, .iNil⟩
    have xab := xa.trans xb
    have hv : VR X.K (μ1.add x) (upd (upd H1 dx (.own x)) x (.ins (ca c) dx [])) (.ref S1.length) (.ref x) := VR.iRef (show (μ1.l ++ [x])[S1.length]? = some x by rw [← r1.len, List.getElem?_append_right (Nat.le_refl _)]; simp)
    dsimp only at hf
    split at hf
    · rename_i S2 e2
      cases hf
      refine ⟨by rw [List.length_cons, ← VRs.len x1]; exact hl, _, _, _, _, rb, .iCons hv (VRs.mono r1.mu xab x1), e2, fun μ' H' v y r' z => ⟨VR.non z, hp μ' H' _ (xab.trans y) r' (VR.mono rb.mu y hv)⟩⟩
    · rename_i c' fs' S2 e2
      cases hf
      exact ⟨by rw [List.length_cons, ← VRs.len x1]; exact hl, _, _, _, _, rb, .iCons hv (VRs.mono r1.mu xab x1), e2, fun μ' H' dd y r' z => hW _ _ σ _ (hp μ' H' dd (xab.trans y) r' z)⟩
    · cases hf
  · exact Aq.stuck
/-- o.m(..) -/
theorem de_meth {E : XK} {pl : Sem Bool} (C : Mtd X.prog X.w X.K X.mg X.base ca k c m n g) (hc : Cls X.K (ca c)) (hr : Room k X.A) (hx : Passes (L2.CX X.prog X.w) X E) (hW : ∀ c d σ H, W c d σ H → E c d H) (h0 : DE ca X W e f) {a : Expr} (h : DA ca X W (a :: es) fs)
    (hp : ∀ {o : Expr} {ta : TE} {t : TA} {C' f' : Addr} {fd : FuncData} {ps : List Str} {sp : Sp}, o = e → PE X o ta → Cls X.K C' → Meth X.K C' m f' → FnOk X.prog X.w X.K X.mg X.base (L2.CX X.prog X.w) k f' fd ps sp → Binds X.K fd ps [] → PA X (a :: es) t → PE X (.Call (.Attribute o m apos) (a :: es) [] pos) (tMeth C' m sp [] E ta t)) :
    DE ca X W (.Call (.Attribute e m apos) (a :: es) [] pos) (mMeth c m g n f fs) := by
  obtain ⟨t0, p0, q0⟩ := h0.ex
  obtain ⟨t, pp, q⟩ := h.ex
  obtain ⟨fa, fd, ps, Mh, h3, F⟩ := C.ex
  refine ⟨_, hp rfl p0 hc Mh F h3 pp, fun μ σ H ρ S hR hE => Aq.bind (R1 := rV X.K) (t1 := t0 σ H)
    (k := fun x H1 (Q : VK) => ∃ b dx vf, x = .ref b ∧ H1 b = some (.ins (ca c) dx vf) ∧ vf.lookup m = none ∧ t σ H1 fun vs H2 => spF X.K ca n g (x :: (vs ++ [])) H2 Q E) (q0 μ σ H ρ S hR hE) fun d v μ1 H1 S1 e1 r1 x1 => ?_⟩
  split
  · rename_i i
    intro r hf Q hpo
    obtain ⟨b, hm, rfl⟩ := VR.ref x1
    dsimp only at hf
    split at hf
    · rename_i c' vf hs
      split at hf
      · rename_i hcc
        obtain ⟨rfl, hl⟩ := hcc
        obtain ⟨dx, wf, ho, g1, g2⟩ := r1.ob i b _ hm hs
        refine ⟨b, dx, wf, rfl, ho, lookup_none g1 hl, ?_⟩
        refine (Aq.bind (R1 := rVs X.K) (R2 := rV X.K) (t1 := t σ H1) (k := fun vs H2 (Q : VK) => spF X.K ca n g (.ref b :: (vs ++ [])) H2 Q E) (q μ1 σ H1 ρ S1 r1 (hE.mono hR.mu e1)) fun ds vs μ2 H2 S2 e2 r2 x2 => ?_) r hf Q hpo
        split
        · rename_i hl2
          intro r3 hf3 Q3 hp3
          rw [List.append_nil]
          refine ⟨by rw [List.length_cons, ← VRs.len x2]; exact hl2, μ2, _, S2, r3, r2, .iCons (VR.iRef (e2.sub hm)) x2, hf3, hp3.imp (fun _ _ z => z) fun _ _ _ z => hW _ _ σ _ z⟩
        · exact Aq.stuck
      · cases hf
    · cases hf
  · exact Aq.stuck
end
end Tl
set_option Elab.async false
set_option linter.all false
set_option maxRecDepth 100000
set_option maxHeartbeats 4000000
set_option autoImplicit false
namespace Tl
open PySem L2 PySem.Spec PyProof.Rows RZ

/-! ### the reading of a function over data -/
def tOf {K : PySem.W.Frag} {α β : Type} (R : RT K α β) (ca : CA) (W : WX) (f : Env → M α) : L2.St → Hp → (β → Hp → Prop) → Prop := fun σ H Q =>
  ∃ μ ρ S r, Rel K ca μ H S ∧ ER K μ H ρ σ ∧ f ρ S = some r ∧ Pst R ca μ H r Q (fun c d H' => W c d σ H')
theorem Adq.of {K : PySem.W.Frag} {α β : Type} {R : RT K α β} {ca : CA} {W : WX} {f : Env → M α} : Adq R ca W (tOf R ca W f) f := fun μ σ H ρ S hr he r hf Q hp => ⟨μ, ρ, S, r, hr, he, hf, hp⟩
section
variable {ca : CA} {X : Cx} {W : WX} {e : Expr} {f : Ev}
theorem DE.can (h : DE ca X W e f) : PE X e (tOf (rV X.K) ca W f) := ⟨fun pins s σ H Q I ⟨μ, ρ, S, r, a, b, c, d⟩ => by
  obtain ⟨t, p, q⟩ := h.ex
  exact p.run pins s σ H Q I (q μ σ H ρ S a b r c Q d)⟩
theorem DT.can (h : DT ca X W e f) : PT X e (tOf (rB X.K) ca W f) := ⟨fun pins s σ H Q I ⟨μ, ρ, S, r, a, b, c, d⟩ => by
  obtain ⟨t, p, q⟩ := h.ex
  exact p.run pins s σ H Q I (q μ σ H ρ S a b r c Q d)⟩
end

/-! ### what is walked -/
/-- how many items; the i-th as it stands; whether these are all -/
structure Src where
  n : Nat
  rd : Store → Nat → Option D
  fin : Store → Bool
structure SrcOk (K : PySem.W.Frag) (ca : CA) (μ0 : Mm) (H0 : Hp) (J : It) (s : Src) : Prop where
  go : ∀ μ H S i d, Evo μ0 H0 μ H → Rel K ca μ H S → i < s.n → s.rd S i = some d → J.go i H ∧ ∀ x H', J.yld i H x H' → Ext μ H μ H' ∧ Rel K ca μ H' S ∧ VR K μ H' d x
  stop : ∀ μ H S, Evo μ0 H0 μ H → Rel K ca μ H S → s.fin S = true → J.stop s.n H
theorem SrcOk.mono {K : PySem.W.Frag} {ca : CA} {μ μ' : Mm} {H H' : Hp} {J : It} {s : Src} (e : Evo μ H μ' H') (h : SrcOk K ca μ H J s) : SrcOk K ca μ' H' J s :=
  ⟨fun μ2 H2 S i d e2 => h.go μ2 H2 S i d (e.trans e2), fun μ2 H2 S e2 => h.stop μ2 H2 S (e.trans e2)⟩
def rI' (K : PySem.W.Frag) (ca : CA) : RT K Src It := ⟨fun μ H s J => SrcOk K ca μ H J s, fun _ e h => h.mono e.evo⟩
structure DI (ca : CA) (X : Cx) (W : WX) (tg e : Expr) (f : Env → M Src) : Prop where
  ex : ∃ t, PI X tg e t ∧ Adq (rI' X.K ca) ca W t f
theorem DI.can {ca : CA} {X : Cx} {W : WX} {tg e : Expr} {f : Env → M Src} (h : DI ca X W tg e f) : PI X tg e (tOf (rI' X.K ca) ca W f) := ⟨fun pins s σ H Q I ⟨μ, ρ, S, r, a, b, c, d⟩ => by
  obtain ⟨t, p, q⟩ := h.ex
  exact p.run pins s σ H Q I (q μ σ H ρ S a b r c Q d)⟩
def srcD (ds : List D) : Src := ⟨ds.length, fun _ i => ds[i]?, fun _ => true⟩
def srcR (k n : Nat) : Src := ⟨n, fun S i => match S[k]? with
  | some (.lst ds) => ds[i]?
  | _ => none, fun S => match S[k]? with
  | some (.lst ds) => decide (ds.length ≤ n)
  | _ => false⟩
def srcL : D → M Src
  | .lst ds => M.ret (srcD ds)
  | .scr ns => M.ret (srcD (ns.map .int))
  | .ref k => fun S => match S[k]? with
    | some (.lst ds) => some (.ok (srcR k ds.length), S)
    | _ => none
  | _ => M.stuck
def srcOf : D → M Src
  | .tup ds => M.ret (srcD ds)
  | d => srcL d
def srcRg (lo : Int) (n : Nat) : Src := ⟨n, fun _ i => if i < n then some (.int (lo + i)) else none, fun _ => true⟩
/-- each item in a pair with its number -/
def srcEn (s : Src) : Src := ⟨s.n, fun S i => (s.rd S i).map fun d => .tup [.int i, d], s.fin⟩
def srcZip (s u : Src) : Src := ⟨min s.n u.n, fun S i => (s.rd S i).bind fun d => (u.rd S i).map fun e => .tup [d, e], fun S => s.fin S && u.fin S⟩
section
variable {K : PySem.W.Frag} {ca : CA} {μ : Mm} {H : Hp}
/-- the list, the tuple at a reads as s -/
structure LstOk (K : PySem.W.Frag) (ca : CA) (μ0 : Mm) (H0 : Hp) (a : Addr) (s : Src) : Prop where
  rd : ∀ μ H S i d, Evo μ0 H0 μ H → Rel K ca μ H S → s.rd S i = some d → ∃ vs v, SqL K H a vs ∧ vs[i]? = some v ∧ VR K μ H d v
  fin : ∀ μ H S, Evo μ0 H0 μ H → Rel K ca μ H S → s.fin S = true → ∃ vs, SqL K H a vs ∧ vs.length ≤ s.n
structure TupOk (K : PySem.W.Frag) (ca : CA) (μ0 : Mm) (H0 : Hp) (a : Addr) (s : Src) : Prop where
  rd : ∀ μ H S i d, Evo μ0 H0 μ H → Rel K ca μ H S → s.rd S i = some d → ∃ vs v, SqT K H a vs ∧ vs[i]? = some v ∧ VR K μ H d v
  fin : ∀ μ H S, Evo μ0 H0 μ H → Rel K ca μ H S → s.fin S = true → ∃ vs, SqT K H a vs ∧ vs.length ≤ s.n
theorem tupOk {ds : List D} {a : Addr} {vs : List V} (m : Mu μ H) (t : SqT K H a vs) (g : VRs K μ H ds vs) : TupOk K ca μ H a (srcD ds) :=
  ⟨fun μ' H' S i d e r q => (by
    obtain ⟨v, h1, h2⟩ := (g.monoE m e).get (i := i) (d := d) q
    exact ⟨vs, v, sqT_mono m e t, h1, h2⟩), fun μ' H' S e r _ => ⟨vs, sqT_mono m e t, Nat.le_of_eq g.len.symm⟩⟩
theorem lstOk {ds : List D} {a : Addr} {vs : List V} (m : Mu μ H) (t : LR μ H a vs) (g : VRs K μ H ds vs) : LstOk K ca μ H a (srcD ds) :=
  ⟨fun μ' H' S i d e r q => (by
    obtain ⟨v, h1, h2⟩ := (g.monoE m e).get (i := i) (d := d) q
    exact ⟨vs, v, (t.mono m e).sq, h1, h2⟩), fun μ' H' S e r _ => ⟨vs, (t.mono m e).sq, Nat.le_of_eq g.len.symm⟩⟩
theorem scrOk {ns : List Int} {a : Addr} (m : Mu μ H) (t : SR K μ H a (ns.map V.int)) : LstOk K ca μ H a (srcD (ns.map .int)) :=
  ⟨fun μ' H' S i d e r q => (by
    obtain ⟨v, h1, h2⟩ := (VRs.ints (K := K) (μ := μ') (H := H') ns).get (i := i) (d := d) q
    exact ⟨_, v, (t.mono m e).sq, h1, h2⟩), fun μ' H' S e r _ => ⟨_, (t.mono m e).sq, by show (ns.map V.int).length ≤ (ns.map D.int).length; rw [List.length_map, List.length_map]; exact Nat.le_refl _⟩⟩
theorem refOk {k n : Nat} {a : Addr} (hk : μ.l[k]? = some a) : LstOk K ca μ H a (srcR k n) :=
  ⟨fun μ' H' S i d e r q => (by
    have q : (match S[k]? with
      | some (.lst ds) => ds[i]?
      | _ => none) = some d := q
    split at q
    · rename_i ds hs
      obtain ⟨vs, h, g⟩ := r.ob k a _ (e.sub hk) hs
      obtain ⟨v, h1, h2⟩ := g.get q
      exact ⟨vs, v, .inl (.inl h), h1, h2⟩
    · cases q), fun μ' H' S e r q => by
    have q : (match S[k]? with
      | some (.lst ds) => decide (ds.length ≤ n)
      | _ => false) = true := q
    split at q
    · rename_i ds hs
      obtain ⟨vs, h, g⟩ := r.ob k a _ (e.sub hk) hs
      exact ⟨vs, .inl (.inl h), by rw [← g.len]; exact of_decide_eq_true q⟩
    · cases q⟩
theorem LstOk.src {a : Addr} {s : Src} (o : LstOk K ca μ H a s) : SrcOk K ca μ H (Itl K a) s :=
  ⟨fun μ' H' S i d e r _ q => (by
    obtain ⟨vs, v, t, h1, h2⟩ := o.rd μ' H' S i d e r q
    refine ⟨⟨vs, v, t, h1⟩, fun x H2 y => ?_⟩
    obtain ⟨rfl, y⟩ := y
    have := y vs t
    rw [h1] at this; cases this
    exact ⟨r.refl, r, h2⟩), fun μ' H' S e r q => o.fin μ' H' S e r q⟩
theorem TupOk.src {a : Addr} {s : Src} (o : TupOk K ca μ H a s) : SrcOk K ca μ H (Itt K a) s :=
  ⟨fun μ' H' S i d e r _ q => (by
    obtain ⟨vs, v, t, h1, h2⟩ := o.rd μ' H' S i d e r q
    refine ⟨⟨vs, v, t, h1⟩, fun x H2 y => ?_⟩
    obtain ⟨rfl, y⟩ := y
    have := y vs t
    rw [h1] at this; cases this
    exact ⟨r.refl, r, h2⟩), fun μ' H' S e r q => o.fin μ' H' S e r q⟩
theorem rgOk (lo : Int) (n : Nat) : SrcOk K ca μ H (Itr lo n) (srcRg lo n) :=
  ⟨fun μ' H' S i d e r hi q => (by
    have q : (if i < n then some (D.int (lo + i)) else none) = some d := q
    have hi : i < n := hi
    rw [if_pos hi] at q; cases q
    refine ⟨hi, fun x H2 y => ?_⟩
    obtain ⟨rfl, rfl⟩ := y
    exact ⟨r.refl, r, .iInt⟩), fun μ' H' S e r q => Nat.le_refl _⟩
/-- a pair that is made at its turn -/
theorem pairNew {μ : Mm} {H : Hp} {S : Store} {T : Addr} {d e : D} {v u : V} (r : Rel K ca μ H S) (hT : H T = none) (h1 : VR K μ H d v) (h2 : VR K μ H e u) :
    Ext μ H μ (upd H T (.tup [v, u])) ∧ Rel K ca μ (upd H T (.tup [v, u])) S ∧ VR K μ (upd H T (.tup [v, u])) (.tup [d, e]) (.ref T) := by
  obtain ⟨x, r2⟩ := r.laid (o := .tup [v, u]) hT
  exact ⟨x, r2, .iTup (SqT.of upd_same) (.iCons (h1.mono r.mu x) (.iCons (h2.mono r.mu x) .iNil))⟩
theorem LstOk.enum {a : Addr} {s : Src} (o : LstOk K ca μ H a s) : SrcOk K ca μ H (Ite K a) (srcEn s) :=
  ⟨fun μ' H' S i d e r _ q => (by
    have q : (s.rd S i).map (fun d => D.tup [.int i, d]) = some d := q
    cases q0 : s.rd S i with
    | none => rw [q0] at q; cases q
    | some d0 =>
      rw [q0] at q; cases q
      obtain ⟨vs, v, t, h1, h2⟩ := o.rd μ' H' S i d0 e r q0
      refine ⟨⟨vs, v, t, h1⟩, fun x H2 y => ?_⟩
      obtain ⟨T, x', rfl, hT, rfl, y⟩ := y
      have := y vs t
      rw [h1] at this; cases this
      exact pairNew r hT .iInt h2), fun μ' H' S e r q => o.fin μ' H' S e r q⟩
theorem LstOk.zip {a b : Addr} {s u : Src} (o : LstOk K ca μ H a s) (o' : LstOk K ca μ H b u) : SrcOk K ca μ H (Itz K a b) (srcZip s u) :=
  ⟨fun μ' H' S i d e r _ q => (by
    have q : ((s.rd S i).bind fun d => (u.rd S i).map fun e => D.tup [d, e]) = some d := q
    cases q0 : s.rd S i with
    | none => rw [q0] at q; cases q
    | some d0 =>
      cases q1 : u.rd S i with
      | none => rw [q0, q1] at q; cases q
      | some d1 =>
        rw [q0, q1] at q; cases q
        obtain ⟨vs, v, t, h1, h2⟩ := o.rd μ' H' S i d0 e r q0
        obtain ⟨us, w, t', h1', h2'⟩ := o'.rd μ' H' S i d1 e r q1
        refine ⟨⟨vs, us, v, w, t, t', h1, h1'⟩, fun x H2 y => ?_⟩
        obtain ⟨T, x', y', rfl, hT, rfl, y, z⟩ := y
        have e1 := y vs t
        rw [h1] at e1; cases e1
        have e2 := z us t'
        rw [h1'] at e2; cases e2
        exact pairNew r hT h2 h2'), fun μ' H' S e r q => by
    have q : (s.fin S && u.fin S) = true := q
    rw [Bool.and_eq_true] at q
    obtain ⟨vs, t, h⟩ := o.fin μ' H' S e r q.1
    obtain ⟨us, t', h'⟩ := o'.fin μ' H' S e r q.2
    refine ⟨vs, us, t, t', ?_⟩
    show vs.length ≤ min s.n u.n ∨ us.length ≤ min s.n u.n
    omega⟩
theorem TupOk.zip {a b : Addr} {s u : Src} (o : TupOk K ca μ H a s) (o' : TupOk K ca μ H b u) : SrcOk K ca μ H (ItzT K a b) (srcZip s u) :=
  ⟨fun μ' H' S i d e r _ q => (by
    have q : ((s.rd S i).bind fun d => (u.rd S i).map fun e => D.tup [d, e]) = some d := q
    cases q0 : s.rd S i with
    | none => rw [q0] at q; cases q
    | some d0 =>
      cases q1 : u.rd S i with
      | none => rw [q0, q1] at q; cases q
      | some d1 =>
        rw [q0, q1] at q; cases q
        obtain ⟨vs, v, t, h1, h2⟩ := o.rd μ' H' S i d0 e r q0
        obtain ⟨us, w, t', h1', h2'⟩ := o'.rd μ' H' S i d1 e r q1
        refine ⟨⟨vs, us, v, w, t, t', h1, h1'⟩, fun x H2 y => ?_⟩
        obtain ⟨T, x', y', rfl, hT, rfl, y, z⟩ := y
        have e1 := y vs t
        rw [h1] at e1; cases e1
        have e2 := z us t'
        rw [h1'] at e2; cases e2
        exact pairNew r hT h2 h2'), fun μ' H' S e r q => by
    have q : (s.fin S && u.fin S) = true := q
    rw [Bool.and_eq_true] at q
    obtain ⟨vs, t, h⟩ := o.fin μ' H' S e r q.1
    obtain ⟨us, t', h'⟩ := o'.fin μ' H' S e r q.2
    refine ⟨vs, us, t, t', ?_⟩
    show vs.length ≤ min s.n u.n ∨ us.length ≤ min s.n u.n
    omega⟩
/-- what is handed to a for: its address and its reading -/
theorem src_lst {S : Store} {d : D} {v : V} {r : Rs Src × Store} (hr : Rel K ca μ H S) (h : VR K μ H d v) (e : srcL d S = some r) :
    ∃ a s, v = .ref a ∧ r = (.ok s, S) ∧ LstOk K ca μ H a s ∧ ∃ vs, SqL K H a vs := by
  unfold srcL at e
  split at e
  · obtain ⟨a, vs, rfl, t, g⟩ := h.lst
    cases (show some ((Rs.ok (srcD _) : Rs Src), S) = some r from e)
    exact ⟨a, _, rfl, rfl, lstOk hr.mu t g, vs, t.sq⟩
  · obtain ⟨a, rfl, t⟩ := h.scr
    cases (show some ((Rs.ok (srcD _) : Rs Src), S) = some r from e)
    exact ⟨a, _, rfl, rfl, scrOk hr.mu t, _, t.sq⟩
  · obtain ⟨a, hm, rfl⟩ := h.ref
    split at e
    · rename_i ds hs
      cases e
      obtain ⟨vs, ho, g⟩ := hr.ob _ a _ hm hs
      exact ⟨a, _, rfl, rfl, refOk hm, vs, .inl (.inl ho)⟩
    · cases e
  · cases e
theorem src_of {S : Store} {d : D} {v : V} {r : Rs Src × Store} (hr : Rel K ca μ H S) (h : VR K μ H d v) (e : srcOf d S = some r) :
    ∃ a s, v = .ref a ∧ r = (.ok s, S) ∧ ((LstOk K ca μ H a s ∧ ∃ vs, SqL K H a vs) ∨ (TupOk K ca μ H a s ∧ ∃ vs, SqT K H a vs)) := by
  unfold srcOf at e
  split at e
  · obtain ⟨a, vs, rfl, t, g⟩ := h.tup
    cases (show some ((Rs.ok (srcD _) : Rs Src), S) = some r from e)
    exact ⟨a, _, rfl, rfl, .inr ⟨tupOk hr.mu t g, vs, t⟩⟩
  · obtain ⟨a, s, e1, e2, o, t⟩ := src_lst hr h e
    exact ⟨a, s, e1, e2, .inl ⟨o, t⟩⟩
end

/-- a list or a tuple walked -/
def iAny (K : PySem.W.Frag) (tl : TE) : TI := fun σ H R => tl σ H fun x H1 => ∃ a, x = .ref a ∧ (((∃ xs, SqL K H1 a xs) ∧ R (Itl K a) H1) ∨ ((∃ xs, SqT K H1 a xs) ∧ R (Itt K a) H1))
theorem pi_any {X : Cx} {tg l : Expr} {tl : TE} (hl : PE X l tl) : PI X tg l (iAny X.K tl) := by
  refine ⟨fun pins s σ H R I h => thn (hl.run pins s σ H _ I h) fun v s1 ⟨x, H1, I1, r1, q1⟩ => ?_⟩
  obtain ⟨a, ex, q⟩ := q1
  subst ex; cases r1
  have fp : ∀ b ∈ [s1.heap.objs.size], FpOk X pins H1 b := fun b hb => by
    have eb : b = s1.heap.objs.size := by simpa using hb
    rw [eb]
    exact I1.fpOk (Nat.le_refl _) (I1.hok.fresh (Nat.le_refl _))
  rcases q with ⟨⟨xs, hq⟩, q⟩ | ⟨⟨xs, hq⟩, q⟩
  · obtain ⟨its, rv, pl, hz⟩ := I1.list hq
    exact wpAny_pyIter_list pl.isList ⟨_, [s1.heap.objs.size], _, _, H1, rfl, I1.kept (t' := s1.toks) fun b o eo => Heap.get?_push_of_some _ eo, turn_list a _, ⟨_, Heap.get?_push_size _ rfl, rfl, rfl⟩, fp, q⟩
  · obtain ⟨its, rv, pl, hz⟩ := I1.tuple hq
    exact wpAny_pyIter_tuple (show s1.heap.IsTuple a its.toArray from pl) ⟨_, [s1.heap.objs.size], _, _, H1, rfl, I1.kept (t' := s1.toks) fun b o eo => Heap.get?_push_of_some _ eo, turn_tuple a _, ⟨_, Heap.get?_push_size _ rfl, rfl, rfl⟩, fp, q⟩
def mIt (f : Ev) : Env → M Src := fun ρ => (f ρ).bind srcOf
def mRg1 (f : Ev) : Env → M Src := fun ρ => (f ρ).bind fun d => match d with
  | .int j => if -1000000 ≤ j ∧ j ≤ 1000000 then M.ret (srcRg 0 j.toNat) else M.stuck
  | _ => M.stuck
def mRg2 (f g : Ev) : Env → M Src := fun ρ => (f ρ).bind fun d => (g ρ).bind fun e => match d, e with
  | .int i, .int j => if -1000000 ≤ i ∧ i ≤ 1000000 ∧ -1000000 ≤ j ∧ j ≤ 1000000 then M.ret (srcRg i (j - i).toNat) else M.stuck
  | _, _ => M.stuck
def zipD (d e : D) : M Src := match d, e with
  | .tup xs, .tup ys => M.ret (srcZip (srcD xs) (srcD ys))
  | d, e => (srcL d).bind fun s => (srcL e).bind fun u => M.ret (srcZip s u)
def mZip (f g : Ev) : Env → M Src := fun ρ => (f ρ).bind fun d => (g ρ).bind fun e => zipD d e
section
variable {ca : CA} {X : Cx} {W : WX} {e a b tg : Expr} {f g : Ev} {pos p tpos : Pos} {elts : List Expr} {kk : Nat}
theorem di_any (h : DE ca X W e f) : DI ca X W tg e (mIt f) := by
  obtain ⟨t, p, q⟩ := h.ex
  refine ⟨_, pi_any p, fun μ σ H ρ S hr he => Aq.bind (R1 := rV X.K) (t1 := t σ H) (R2 := rI' X.K ca) (k := fun x H1 (R : It → Hp → Prop) => ∃ a, x = .ref a ∧ (((∃ xs, SqL X.K H1 a xs) ∧ R (Itl X.K a) H1) ∨ ((∃ xs, SqT X.K H1 a xs) ∧ R (Itt X.K a) H1))) (q μ σ H ρ S hr he) fun d x μ1 H1 S1 e1 r1 x1 => ?_⟩
  intro r hf R hp
  obtain ⟨a, s, rfl, rfl, o⟩ := src_of r1 x1 hf
  refine ⟨a, rfl, ?_⟩
  rcases o with ⟨o, t⟩ | ⟨o, t⟩
  · exact .inl ⟨t, hp μ1 H1 _ r1.refl r1 o.src⟩
  · exact .inr ⟨t, hp μ1 H1 _ r1.refl r1 o.src⟩
theorem di_rg1 (hm : X.mg "range" = none) (h : DE ca X W a f) (hg : Gl X "range" := by rfl) (hs : starEach [a] X.env = [(false, eval a X.env)] := by rfl) : DI ca X W tg (.Call (.Name "range" p) [a] [] pos) (mRg1 f) := by
  obtain ⟨t, pp, q⟩ := h.ex
  refine ⟨_, pi_range1 hg hm (pa_cons pp pa_nil hs) hs, fun μ σ H ρ S hr he => Aq.bind (R1 := rV X.K) (t1 := t σ H) (R2 := rI' X.K ca) (k := fun x H1 (R : It → Hp → Prop) => ∃ j : Int, [x] = [V.int j] ∧ -(2 ^ 62) ≤ j ∧ j < 2 ^ 62 ∧ R (Itr 0 j.toNat) H1) (q μ σ H ρ S hr he) fun d x μ1 H1 S1 e1 r1 x1 => ?_⟩
  split
  · split
    · rename_i j hl
      exact (Aq.ret (R := rI' X.K ca) (v := Itr 0 j.toNat) r1 (rgOk 0 _)).imp fun R z => ⟨j, by rw [VR.int x1], by omega, by omega, z⟩
    · exact Aq.stuck
  · exact Aq.stuck
theorem di_rg2 (hm : X.mg "range" = none) (h : DE ca X W a f) (h2 : DE ca X W b g) (hg : Gl X "range" := by rfl) (hs : starEach [a, b] X.env = [(false, eval a X.env), (false, eval b X.env)] := by rfl) (hs2 : starEach [b] X.env = [(false, eval b X.env)] := by rfl) : DI ca X W tg (.Call (.Name "range" p) [a, b] [] pos) (mRg2 f g) := by
  obtain ⟨t, pp, q⟩ := h.ex
  obtain ⟨u, pp', q'⟩ := h2.ex
  refine ⟨_, pi_range2 hg hm (pa_cons pp (pa_cons pp' pa_nil hs2) (by rw [hs, hs2])) hs hs2, fun μ σ H ρ S hr he => Aq.bind (R1 := rV X.K) (t1 := t σ H) (R2 := rI' X.K ca) (k := fun x H1 (R : It → Hp → Prop) => u σ H1 fun y H2 => ∃ i j : Int, [x, y] = [V.int i, V.int j] ∧ (-(2 ^ 62) ≤ i ∧ i < 2 ^ 62 ∧ -(2 ^ 62) ≤ j ∧ j < 2 ^ 62) ∧ R (Itr i (j - i).toNat) H2) (q μ σ H ρ S hr he) fun d x μ1 H1 S1 e1 r1 x1 => ?_⟩
  refine Aq.bind (R1 := rV X.K) (t1 := u σ H1) (R2 := rI' X.K ca) (k := fun y H2 (R : It → Hp → Prop) => ∃ i j : Int, [x, y] = [V.int i, V.int j] ∧ (-(2 ^ 62) ≤ i ∧ i < 2 ^ 62 ∧ -(2 ^ 62) ≤ j ∧ j < 2 ^ 62) ∧ R (Itr i (j - i).toNat) H2) (q' μ1 σ H1 ρ S1 r1 (he.mono hr.mu e1)) fun d2 y μ2 H2 S2 e2 r2 x2 => ?_
  split
  · split
    · rename_i i j hl
      exact (Aq.ret (R := rI' X.K ca) (v := Itr i (j - i).toNat) r2 (rgOk i _)).imp fun R z => ⟨i, j, by rw [VR.int x1, VR.int x2], by omega, z⟩
    · exact Aq.stuck
  · exact Aq.stuck
theorem di_zip (hm : X.mg "zip" = none) (h : DE ca X W a f) (h2 : DE ca X W b g) (hg : Gl X "zip" := by rfl) (hs : starEach [a, b] X.env = (false, eval a X.env) :: starEach [b] X.env := by rfl) (hs2 : starEach [b] X.env = (false, eval b X.env) :: starEach [] X.env := by rfl) (hpl : (backTo pos (starEach [b] X.env)).any (·.1) = false := by rfl) :
    DI ca X W (.Tuple elts kk tpos) (.Call (.Name "zip" p) [a, b] [] pos) (mZip f g) := by
  obtain ⟨t, pp, q⟩ := h.ex
  obtain ⟨u, pp', q'⟩ := h2.ex
  refine ⟨_, pi_zipA hg hm (pa_cons pp (pa_cons pp' pa_nil hs2) hs) hs hpl, fun μ σ H ρ S hr he => Aq.bind (R1 := rV X.K) (t1 := t σ H) (R2 := rI' X.K ca) (k := fun x H1 (R : It → Hp → Prop) => u σ H1 fun y H2 => ∃ a b xs ys, [x, y] = [V.ref a, V.ref b] ∧ ((SqL X.K H2 a xs ∧ SqL X.K H2 b ys ∧ R (Itz X.K a b) H2) ∨ (SqT X.K H2 a xs ∧ SqT X.K H2 b ys ∧ R (ItzT X.K a b) H2))) (q μ σ H ρ S hr he) fun d x μ1 H1 S1 e1 r1 x1 => ?_⟩
  refine Aq.bind (R1 := rV X.K) (t1 := u σ H1) (R2 := rI' X.K ca) (k := fun y H2 (R : It → Hp → Prop) => ∃ a b xs ys, [x, y] = [V.ref a, V.ref b] ∧ ((SqL X.K H2 a xs ∧ SqL X.K H2 b ys ∧ R (Itz X.K a b) H2) ∨ (SqT X.K H2 a xs ∧ SqT X.K H2 b ys ∧ R (ItzT X.K a b) H2))) (q' μ1 σ H1 ρ S1 r1 (he.mono hr.mu e1)) fun d2 y μ2 H2 S2 e2 r2 x2 => ?_
  have x1 := VR.mono r1.mu e2 x1
  unfold zipD
  split
  · obtain ⟨a1, xs, rfl, t1, g1⟩ := VR.tup x1
    obtain ⟨b1, ys, rfl, t2, g2⟩ := VR.tup x2
    exact (Aq.ret (R := rI' X.K ca) (v := ItzT X.K a1 b1) r2 ((tupOk r2.mu t1 g1).zip (tupOk r2.mu t2 g2))).imp fun R z => ⟨a1, b1, xs, ys, rfl, .inr ⟨t1, t2, z⟩⟩
  · intro r hf R hp
    unfold M.bind at hf
    cases q1 : srcL d S2 with
    | none => rw [q1] at hf; cases hf
    | some z1 =>
      obtain ⟨a1, s1, rfl, rfl, o1, us1, t1⟩ := src_lst r2 x1 q1
      rw [q1] at hf
      dsimp only at hf
      cases q2 : srcL d2 S2 with
      | none => rw [q2] at hf; cases hf
      | some z2 =>
        obtain ⟨b1, s2, rfl, rfl, o2, us2, t2⟩ := src_lst r2 x2 q2
        rw [q2] at hf
        cases (show some ((Rs.ok (srcZip s1 s2) : Rs Src), S2) = some r from hf)
        exact ⟨a1, b1, us1, us2, rfl, .inl ⟨t1, t2, hp μ2 H2 _ r2.refl r2 (o1.zip o2)⟩⟩
end
end Tl
set_option Elab.async false
set_option linter.all false
set_option maxRecDepth 100000
set_option maxHeartbeats 4000000
set_option autoImplicit false
namespace Tl
open PySem L2 PySem.Spec PyProof.Rows RZ

/-! ### enumerate of a tuple -/
theorem en1_meets {v : Value} {o : Obj} {G : Heap → Prop} (B : Begins v o G) : Meets (Builtin.«enumerate.__new__» ⟨[.type "enumerate", v], []⟩) (fun _ R s => G s.heap ∧
    R (.ok (.ret (.ref (s.heap.push o).objs.size))) { s with heap := (s.heap.push o).push { cls := .type "enumerate", data := .fields #[.none, .bool false, .ref s.heap.objs.size, rawInt 0, .none, .none] } }) := .of_wp fun prog w A R s h => by
  obtain ⟨hp, g, d, tk, os⟩ := s; obtain ⟨h1, h⟩ := h
  have hsub := sub_enumerate
  have q1 : ∀ {A' : Around} {E : Value → Shared → Prop} {Q : Value → Shared → Prop}, Q (.ref hp.objs.size) ⟨hp.push o, g, d, tk, os⟩ → wpAny (model prog w) A' (pyIter v) Q E ⟨hp, g, d, tk, os⟩ := fun q => B.iter prog w _ _ ⟨hp, g, d, tk, os⟩ _ h1 q
  wp_walk using q1; refine wpAny_stack_any fun st => wpAny_pure ?_
  split
  · rename_i c _ _ _ _ _
    cases (c == Value.type "enumerate") <;> (wp_walk using q1; exact ⟨_, rfl, h⟩)
  · wp_walk using q1; exact ⟨_, rfl, h⟩
theorem en1_call {prog : Program} {w : World} {A : Around} {E : Value → Shared → Prop} {s : Shared} {v : Value} {o : Obj} {G : Heap → Prop} {Q : Value → Shared → Prop} (B : Begins v o G) (h1 : G s.heap)
    (h : ∀ h', IsEnum h' (s.heap.objs.size + 1) s.heap.objs.size 0 .none → h'.get? s.heap.objs.size = some o → (∀ b o, s.heap.get? b = some o → h'.get? b = some o) → Q (.ref (s.heap.objs.size + 1)) { s with heap := h' }) :
    wpAny (model prog w) A (call (.type "enumerate") [v]) Q E s := by
  refine callType_new F.called_enumerate (by decide) (F.typeCall_enumerate_1 _) (F.newCall_enumerate_1 _) (fun obj => F.args_object_init_2 obj _) F.entry_enumerate_new (en1_meets B) ⟨h1, ?_⟩
  have hz : (s.heap.push o).objs.size = s.heap.objs.size + 1 := Heap.size_push ..
  show _ ∧ _
  rw [hz]
  have he : IsEnum ((s.heap.push o).push { cls := .type "enumerate", data := .fields #[.none, .bool false, .ref s.heap.objs.size, rawInt 0, .none, .none] }) (s.heap.objs.size + 1) s.heap.objs.size 0 .none := by
    have z := Heap.get?_push_size (s.heap.push o) (o := { cls := .type "enumerate", data := .fields #[.none, .bool false, .ref s.heap.objs.size, rawInt 0, .none, .none] }) rfl
    rw [hz] at z; exact z
  exact ⟨⟨_, he, rfl⟩, h _ he (Heap.get?_push_of_some _ (Heap.get?_push_size _ B.free)) fun b o x => Heap.get?_push_of_some _ (Heap.get?_push_of_some _ x)⟩
def IteT (K : PySem.W.Frag) (a : Addr) : It :=
  ⟨fun i H => ∃ (xs : List V) (x : V), SqT K H a xs ∧ xs[i]? = some x, fun i H v H' => ∃ T x, v = .ref T ∧ H T = none ∧ H' = upd H T (.tup [.int (i : Nat), x]) ∧ ∀ xs, SqT K H a xs → xs[i]? = some x, fun i H => ∃ xs : List V, SqT K H a xs ∧ xs.length ≤ i⟩
theorem en_end {prog : Program} {w : World} {A : Around} {E : Value → Shared → Prop} {s : Shared} {e it l : Addr} {i : Nat} {its : Array Value} {old : Value} {Q : Option Value → Shared → Prop} (hh : A.handled = none)
    (he : IsEnum s.heap e it i old) (hit : s.heap.IsTupleIter it l i) (hl : s.heap.IsTuple l its) (hx : its[i]? = none) (hQ : ∀ h', Heap.ExtBut it s.heap h' → Q none { s with heap := h' }) : wpAny (model prog w) A (pyNext (.ref e)) Q E s := by
  have hT : s.TypeIs (.ref e) "enumerate" := ⟨_, he, rfl⟩; unfold pyNext
  refine wpAny_bind (wpAny_attempt (wpAny_callSpecial?_slot (name := Str.ofString "__next__") hT F.slot_enumerate_next (wpAny_call_entry F.slot_enumerate_next hT F.entry_enumerate_next ?_ (F.args_enumerate_next_1 _))))
  show wpAny _ _ (field (.ref e) 2 >>= _) _ _ _; refine wpAny_bind (wpAny_field he rfl (x := .ref it) rfl (wpAny_bind (wpAny_nextOf_tuple_end hh hit hl hx fun h' x he' hx' => ?_)))
  obtain ⟨o, ho, hc⟩ := hx'
  exact wpAny_bind (wpAny_isInstance (T := "StopIteration") (b := true) ⟨o, ho, hc⟩ isSubtype_stop (wpAny_pure (hQ _ he')))
theorem turn_enT {P : Program} {w : World} {K : PySem.W.Frag} {elts : List Expr} {kk : Nat} {tpos : Pos} (a e it : Addr) :
    Turn P w K (.Tuple elts kk tpos) (IteT K a) [e, it] e (fun i h => (∃ old, IsEnum h e it ((i : Nat) : Int) old) ∧ h.IsTupleIter it a i ∧ e ≠ it) where
  mem := List.mem_cons_self
  obj := fun i h ⟨⟨old, he⟩, ⟨o, ho, hc, hd⟩, _⟩ b hb => by
    rcases (show b = e ∨ b = it by simpa using hb) with rfl | rfl
    · exact ⟨_, he, fun v q => nomatch q⟩
    · exact ⟨o, ho, fun v q => by rw [hd] at q; cases q⟩
  keep := fun i h h' ⟨⟨old, he⟩, hi, hne⟩ k => ⟨⟨old, k e (by simp) _ he⟩, hi.at fun o q => k it (by simp) o q, hne⟩
  item := by
    intro X hP hw hK hc i pins s σ H E I hf ⟨⟨old, he⟩, hit, hne⟩ ⟨xs, x, hq, hx⟩
    subst hP hw hK
    obtain ⟨its, rv, p, hz⟩ := I.tuple hq
    obtain ⟨u, hu, ru⟩ := rv.get hx
    have pt : s.heap.IsTuple a its.toArray := p
    have hel : e < s.heap.objs.size := Heap.lt_size he
    have hil : it < s.heap.objs.size := by obtain ⟨_, q, _⟩ := hit; exact Heap.lt_size q
    have nai : a ≠ it := fun z => by
      obtain ⟨o1, q1, c1, _⟩ := p; obtain ⟨o2, q2, c2, _⟩ := hit
      rw [z, q2] at q1; cases q1; rw [c2] at c1; injection c1 with c1; exact absurd c1 (by decide)
    have nae : e ≠ a := fun z => by
      obtain ⟨o1, q1, c1, _⟩ := p
      rw [← z, he] at q1; cases q1; injection c1 with c1; exact absurd c1 (by decide)
    have hl := rv.length
    have hlt : i < its.toArray.size := by
      have := (List.getElem?_eq_some_iff.mp hu).1
      simpa using this
    refine wpAny_pyNext_enum_itemD (Draws.tuple (A := X.A.in1) (I.ok.hd hc) it a nai its.toArray) he ⟨hit, pt⟩ hlt hne (by simp [hne, nae]) fun u2 h' tk hP ho hst hT hsz hk => ?_
    have eu : u2 = u := by
      have h1 : its.toArray[i]? = some u2 := hP
      have h2 : its.toArray[i]? = some u := by simpa using hu
      rw [h1] at h2; cases h2; rfl
    subst eu
    refine ⟨_, rfl, wpAny_letOwnedTupleGo_enum (s := { s with heap := h', toks := tk + 1 }) ho fun h'' he' sb => ?_⟩
    have hT2 : h''.get? s.heap.objs.size = some { cls := .type "tuple", data := .seq #[.int i tk, u2] } := (sb.2 _ (Nat.ne_of_gt hel)).trans hT
    have new : ObjOk X.prog X.w (upd H s.heap.objs.size (.tup [.int (i : Nat), x])) h'' s.heap.objs.size (.tup [.int (i : Nat), x]) := ⟨by show 2 ≤ sizeLine; decide, [.int i tk, u2], .cons ⟨_, rfl⟩ (.cons ru .nil), ⟨_, hT2, rfl, _, rfl⟩⟩
    have I1 : Inv X pins σ (upd H s.heap.objs.size (.tup [.int (i : Nat), x])) { s with heap := h'', toks := tk + 1 } :=
      I.turnedNew (ch := [e, it]) (fun b ob hb q => (sb.2 b (fun z => hb (by simp [z]))).trans (hk b ob (fun z => hb (by simp [z])) (fun z => hb (by simp [z])) q)) hf (Nat.le_refl _) new
    refine ⟨.ref s.heap.objs.size, _, I1, rfl, ⟨_, x, rfl, I.hok.fresh (Nat.le_refl _), rfl, fun ys hy => by rw [I.tuple_inj hy hq]; exact hx⟩, ⟨⟨u2, ?_⟩, hst.1.at fun o q => (sb.2 it (Ne.symm hne)).trans q, hne⟩, fun b hb => ?_⟩
    · rw [show ((i + 1 : Nat) : Int) = (i : Int) + 1 by omega]; exact he'
    · have hb' : b < s.heap.objs.size := by
        rcases (show b = e ∨ b = it by simpa using hb) with rfl | rfl
        · exact hel
        · exact hil
      rw [upd_ne (Nat.ne_of_lt hb')]; exact (hf b hb).1
  done := by
    intro X hP hw hK hc i pins s σ H E I hf ⟨⟨old, he⟩, hit, hne⟩ ⟨xs, hq, hx⟩
    subst hP hw hK
    obtain ⟨its, rv, p, hz⟩ := I.tuple hq
    have pt : s.heap.IsTuple a its.toArray := p
    have nai : a ≠ it := fun z => by
      obtain ⟨o1, q1, c1, _⟩ := p; obtain ⟨o2, q2, c2, _⟩ := hit
      rw [z, q2] at q1; cases q1; rw [c2] at c1; injection c1 with c1; exact absurd c1 (by decide)
    obtain ⟨f0, f1, f2, f3, f4, f5⟩ := hf it (by simp)
    have hl := rv.length
    refine en_end (I.ok.hd hc) he hit pt (by simp; omega) fun h' eb => ⟨rfl, I.turned (t' := s.toks) (fun b o hb q => eb b o hb q) f0 f1 f3 f4 f5⟩
  self := fun A i s Q E ⟨⟨_, he⟩, _⟩ h => wpAny_pyIter_enum he h
/-- enumerate of a list or a tuple -/
def iEnA (K : PySem.W.Frag) (ta : TA) : TI := fun σ H R => ta σ H fun vs H1 => ∃ a, vs = [.ref a] ∧ (((∃ xs, SqL K H1 a xs) ∧ R (Ite K a) H1) ∨ ((∃ xs, SqT K H1 a xs) ∧ R (IteT K a) H1))
theorem pi_enA {X : Cx} {e : Expr} {ta : TA} {p pos tpos : Pos} {elts : List Expr} {kk : Nat} (hg : Gl X "enumerate") (hm : X.mg "enumerate" = none) (ha : PA X [e] ta) (hs : starEach [e] X.env = [(false, eval e X.env)] := by rfl) :
    PI X (.Tuple elts kk tpos) (.Call (.Name "enumerate" p) [e] [] pos) (iEnA X.K ta) := by
  refine ⟨fun pins s σ H R I h => Call_ (ld_blt I hg hm boot_enumerate (PyProof.Rows.callWith_type1 (thn (ha.run pos pins s σ H _ I h) fun us s1 ⟨vs, H1, I1, r1, q1⟩ => ?_) hs rfl))⟩
  obtain ⟨a, ex, q⟩ := q1
  subst ex
  obtain ⟨u, rfl, ru⟩ : ∃ u, us = [u] ∧ L2.RelV (.ref a) u := by
    cases r1 with
    | cons r rr => cases rr; exact ⟨_, rfl, r⟩
  have eu : u = .ref a := ru
  subst eu
  have fp : ∀ b ∈ [s1.heap.objs.size + 1, s1.heap.objs.size], FpOk X pins H1 b := fun b hb => by
    have hle : s1.heap.objs.size ≤ b := by
      rcases (show b = s1.heap.objs.size + 1 ∨ b = s1.heap.objs.size by simpa using hb) with z | z
      · rw [z]; exact Nat.le_succ _
      · rw [z]; exact Nat.le_refl _
    exact I1.fpOk hle (I1.hok.fresh hle)
  rcases q with ⟨⟨xs, hq⟩, q⟩ | ⟨⟨xs, hq⟩, q⟩
  · obtain ⟨its, rv, pl, hz⟩ := I1.list hq
    refine en1_call (begins_list a its.toArray) pl.isList fun h' he hit hk => wpAny_pyIter_enum he ⟨_, [s1.heap.objs.size + 1, s1.heap.objs.size], _, _, H1, rfl, I1.kept (t' := s1.toks) hk, turn_enum a _ s1.heap.objs.size, ⟨⟨.none, he⟩, ⟨_, hit, rfl, rfl⟩, Nat.succ_ne_self _⟩, fp, q⟩
  · obtain ⟨its, rv, pl, hz⟩ := I1.tuple hq
    refine en1_call (begins_tuple a its.toArray) pl fun h' he hit hk => wpAny_pyIter_enum he ⟨_, [s1.heap.objs.size + 1, s1.heap.objs.size], _, _, H1, rfl, I1.kept (t' := s1.toks) hk, turn_enT a _ s1.heap.objs.size, ⟨⟨.none, he⟩, ⟨_, hit, rfl, rfl⟩, Nat.succ_ne_self _⟩, fp, q⟩
theorem TupOk.enum {K : PySem.W.Frag} {ca : CA} {μ : Mm} {H : Hp} {a : Addr} {s : Src} (o : TupOk K ca μ H a s) : SrcOk K ca μ H (IteT K a) (srcEn s) :=
  ⟨fun μ' H' S i d e r _ q => (by
    have q : (s.rd S i).map (fun d => D.tup [.int i, d]) = some d := q
    cases q0 : s.rd S i with
    | none => rw [q0] at q; cases q
    | some d0 =>
      rw [q0] at q; cases q
      obtain ⟨vs, v, t, h1, h2⟩ := o.rd μ' H' S i d0 e r q0
      refine ⟨⟨vs, v, t, h1⟩, fun x H2 y => ?_⟩
      obtain ⟨T, x', rfl, hT, rfl, y⟩ := y
      have := y vs t
      rw [h1] at this; cases this
      exact pairNew r hT .iInt h2), fun μ' H' S e r q => o.fin μ' H' S e r q⟩
def mEn (f : Ev) : Env → M Src := fun ρ => (f ρ).bind fun d => (srcOf d).bind fun s => M.ret (srcEn s)
theorem di_en {ca : CA} {X : Cx} {W : WX} {e : Expr} {f : Ev} {pos p tpos : Pos} {elts : List Expr} {kk : Nat} (hm : X.mg "enumerate" = none) (h : DE ca X W e f) (hg : Gl X "enumerate" := by rfl) (hs : starEach [e] X.env = [(false, eval e X.env)] := by rfl) :
    DI ca X W (.Tuple elts kk tpos) (.Call (.Name "enumerate" p) [e] [] pos) (mEn f) := by
  obtain ⟨t, pp, q⟩ := h.ex
  refine ⟨_, pi_enA hg hm (pa_cons pp pa_nil hs) hs, fun μ σ H ρ S hr he => Aq.bind (R1 := rV X.K) (t1 := t σ H) (R2 := rI' X.K ca) (k := fun x H1 (R : It → Hp → Prop) => ∃ a, [x] = [V.ref a] ∧ (((∃ xs, SqL X.K H1 a xs) ∧ R (Ite X.K a) H1) ∨ ((∃ xs, SqT X.K H1 a xs) ∧ R (IteT X.K a) H1))) (q μ σ H ρ S hr he) fun d x μ1 H1 S1 e1 r1 x1 => ?_⟩
  intro r hf R hp
  unfold M.bind at hf
  cases q1 : srcOf d S1 with
  | none => rw [q1] at hf; cases hf
  | some z1 =>
    obtain ⟨a, s, rfl, rfl, o⟩ := src_of r1 x1 q1
    rw [q1] at hf
    cases (show some ((Rs.ok (srcEn s) : Rs Src), S1) = some r from hf)
    rcases o with ⟨o, t⟩ | ⟨o, t⟩
    · exact ⟨a, rfl, .inl ⟨t, hp μ1 H1 _ r1.refl r1 o.enum⟩⟩
    · exact ⟨a, rfl, .inr ⟨t, hp μ1 H1 _ r1.refl r1 o.enum⟩⟩
end Tl
set_option Elab.async false
set_option linter.all false
set_option maxRecDepth 100000
set_option maxHeartbeats 4000000
set_option autoImplicit false
namespace Tl
open PySem L2 PySem.Spec PyProof.Rows RZ

/-! ### targets -/
abbrev Tg := D → Env → M Env
abbrev Tgs := List D → Env → M Env
def PstG (K : PySem.W.Frag) (ca : CA) (is : List Nat) (μ : Mm) (σ : L2.St) (H : Hp) (r : Rs Env × Store) (Q : L2.St → Hp → Prop) : Prop :=
  match r.1 with
  | .ok ρ' => ∀ μ' H' σ', Ext μ H μ' H' → Rel K ca μ' H' r.2 → ER K μ' H' ρ' σ' → (∀ j : Nat, j ∉ is → σ'[j]? = σ[j]?) → σ'.length = σ.length → Q σ' H'
  | .exc _ _ => False
def AdqG (K : PySem.W.Frag) (ca : CA) (is : List Nat) (g : TG) (f : Tg) : Prop := ∀ μ σ H ρ S d v r, Rel K ca μ H S → ER K μ H ρ σ → VR K μ H d v → f d ρ S = some r → ∀ Q, PstG K ca is μ σ H r Q → g v σ H Q
def AdqGs (K : PySem.W.Frag) (ca : CA) (is : List Nat) (g : TGs) (f : Tgs) : Prop := ∀ μ σ H ρ S ds vs r, Rel K ca μ H S → ER K μ H ρ σ → VRs K μ H ds vs → f ds ρ S = some r → ∀ Q, PstG K ca is μ σ H r Q → g vs σ H Q
structure DG (ca : CA) (X : Cx) (e : Expr) (is : List Nat) (f : Tg) : Prop where
  ex : ∃ t, PG X e t ∧ AdqG X.K ca is t f
structure DGs (ca : CA) (X : Cx) (es : List Expr) (is : List Nat) (f : Tgs) : Prop where
  ex : ∃ t, PGs X es t ∧ AdqGs X.K ca is t f
def gOf (K : PySem.W.Frag) (ca : CA) (is : List Nat) (f : Tg) : TG := fun v σ H Q => ∃ μ ρ S d r, Rel K ca μ H S ∧ ER K μ H ρ σ ∧ VR K μ H d v ∧ f d ρ S = some r ∧ PstG K ca is μ σ H r Q
theorem AdqG.of {K : PySem.W.Frag} {ca : CA} {is : List Nat} {f : Tg} : AdqG K ca is (gOf K ca is f) f := fun μ σ H ρ S d v r a b c e Q h => ⟨μ, ρ, S, d, r, a, b, c, e, h⟩
theorem DG.can {ca : CA} {X : Cx} {e : Expr} {is : List Nat} {f : Tg} (h : DG ca X e is f) : PG X e (gOf X.K ca is f) := ⟨fun pins s σ H v u Q I rv ⟨μ, ρ, S, d, r, a, b, c, hf, hp⟩ => by
  obtain ⟨t, p, q⟩ := h.ex
  exact p.run pins s σ H v u Q I rv (q μ σ H ρ S d v r a b c hf Q hp)⟩
def gNm (i : Nat) : Tg := fun d ρ => M.ret (ρ.set i (some d))
def gsNil : Tgs := fun ds ρ => match ds with
  | [] => M.ret ρ
  | _ => M.stuck
def gsCons (f : Tg) (g : Tgs) : Tgs := fun ds ρ => match ds with
  | d :: r => (f d ρ).bind fun ρ' => g r ρ'
  | _ => M.stuck
def gTp (n : Nat) (g : Tgs) : Tg := fun d ρ => match d with
  | .tup ds => if ds.length = n then g ds ρ else M.stuck
  | _ => M.stuck
section
variable {ca : CA} {X : Cx} {e : Expr} {es : List Expr} {pos : Pos} {f : Tg} {g : Tgs} {is js : List Nat}
theorem dg_name (i : Nat) {x : Str} (hN : X.N.Nodup) (hi : X.N[i]? = some x) (hx : Loc X.env.scope x) (hf : X.fn x = true ∨ X.env.scope.names.lookup x = some .local) : DG ca X (.Name x pos) [i] (gNm i) := by
  refine ⟨_, pg_name hN hi hx hf, fun μ σ H ρ S d v r hr he hv hf Q hp => ?_⟩
  cases (show some ((Rs.ok (ρ.set i (some d)) : Rs Env), S) = some r from hf)
  refine hp μ H _ hr.refl hr (he.set i hv) (fun j hj => ?_) (by simp)
  rw [List.getElem?_set_ne (by intro z; exact hj (by simp [z]))]
theorem dgs_nil : DGs ca X [] [] gsNil := by
  refine ⟨_, pgs_nil, fun μ σ H ρ S ds vs r hr he hv hf Q hp => ?_⟩
  unfold gsNil at hf
  split at hf
  · cases (show some ((Rs.ok ρ : Rs Env), S) = some r from hf)
    exact ⟨hv.nil, hp μ H σ hr.refl hr he (fun _ _ => rfl) rfl⟩
  · cases hf
theorem dgs_cons (h1 : DG ca X e is f) (h2 : DGs ca X es js g) (hs : (assignEach (e :: es) X.env).map (·.2) = assign e X.env :: (assignEach es X.env).map (·.2) := by rfl) : DGs ca X (e :: es) (is ++ js) (gsCons f g) := by
  obtain ⟨t, p, q⟩ := h1.ex
  obtain ⟨u, p', q'⟩ := h2.ex
  refine ⟨_, pgs_cons p p' hs, fun μ σ H ρ S ds vs r hr he hv hf Q hp => ?_⟩
  unfold gsCons at hf
  split at hf
  · rename_i d rr
    obtain ⟨v, vr, rfl, h1, h2⟩ := hv.cons
    refine ⟨v, vr, rfl, ?_⟩
    unfold M.bind at hf
    cases z : f d ρ S with
    | none => rw [z] at hf; cases hf
    | some r1 =>
      obtain ⟨r1, S1⟩ := r1
      rw [z] at hf
      cases r1 with
      | ok ρ1 =>
        refine q μ σ H ρ S d v _ hr he h1 z _ fun μ1 H1 σ1 e1 R1 E1 k1 l1 => ?_
        refine q' μ1 σ1 H1 ρ1 S1 rr vr r R1 E1 (h2.mono hr.mu e1) hf Q ?_
        obtain ⟨r, S'⟩ := r
        cases r with
        | ok ρ' => exact fun μ2 H2 σ2 e2 R2 E2 k2 l2 => hp μ2 H2 σ2 (e1.trans e2) R2 E2 (fun j hj => (k2 j fun z => hj (List.mem_append_right _ z)).trans (k1 j fun z => hj (List.mem_append_left _ z))) (l2.trans l1)
        | exc c fs => exact hp
      | exc c fs => cases hf; exact hp.elim
  · cases hf
theorem dg_tup {k n : Nat} (hc : X.calm = true) (h : DGs ca X es is g) (hn : (assignEach es X.env).length = n := by rfl) (hst : (assignEach es X.env).findIdx? (·.1) = none := by rfl) : DG ca X (.Tuple es k pos) is (gTp n g) := by
  obtain ⟨t, p, q⟩ := h.ex
  refine ⟨_, pg_tup hc p hn hst, fun μ σ H ρ S d v r hr he hv hf Q hp => ?_⟩
  unfold gTp at hf
  split at hf
  · split at hf
    · rename_i ds hl
      obtain ⟨a, vs, rfl, t1, g1⟩ := hv.tup
      exact ⟨a, vs, rfl, t1, by rw [← g1.len]; exact hl, q μ σ H ρ S _ vs r hr he g1 hf Q hp⟩
    · cases hf
  · cases hf
end

/-! ### list comprehensions -/
def wipeD (ρ : Env) : List Nat → Env
  | [] => ρ
  | v :: vs => (wipeD ρ vs).set v none
theorem ER.wipe {K : PySem.W.Frag} {μ : Mm} {H : Hp} {ρ : Env} {σ : L2.St} (h : ER K μ H ρ σ) : ∀ vs : List Nat, ER K μ H (wipeD ρ vs) (L2.wipe σ vs)
  | [] => h
  | v :: vs => by
    have ih := ER.wipe h vs
    refine ⟨by show ((wipeD ρ vs).set v none).length = ((L2.wipe σ vs).set v none).length; rw [List.length_set, List.length_set]; exact ih.1, fun i d q => ?_⟩
    have q : ((wipeD ρ vs).set v none)[i]? = some (some d) := q
    show ∃ w, ((L2.wipe σ vs).set v none)[i]? = some (some w) ∧ _
    by_cases e : i = v
    · subst e
      by_cases hl : i < (wipeD ρ vs).length
      · rw [List.getElem?_set_self hl] at q; cases q
      · rw [List.getElem?_eq_none (by simpa using hl)] at q; cases q
    · rw [List.getElem?_set_ne (Ne.symm e)] at q ⊢
      exact ih.2 i d q
theorem wipe_at (σ : L2.St) : ∀ (vs : List Nat) (j : Nat), (L2.wipe σ vs)[j]? = if j ∈ vs ∧ j < σ.length then some none else σ[j]?
  | [], j => by simp [L2.wipe]
  | v :: vs, j => by
    show ((L2.wipe σ vs).set v none)[j]? = _
    by_cases e : v = j
    · subst e
      by_cases hl : v < σ.length
      · rw [List.getElem?_set_self (by rw [L2.wipe_length]; exact hl), if_pos ⟨List.mem_cons_self, hl⟩]
      · rw [List.getElem?_eq_none (by rw [List.length_set, L2.wipe_length]; omega), if_neg (fun z => hl z.2), List.getElem?_eq_none (by omega)]
    · rw [List.getElem?_set_ne e, wipe_at σ vs j]
      simp only [List.mem_cons, Ne.symm e, false_or]
theorem wipe_eq {σ σ' : L2.St} {vs is : List Nat} (his : ∀ i ∈ is, i ∈ vs) (hl : σ'.length = (L2.wipe σ vs).length) (h : ∀ j : Nat, j ∉ is → σ'[j]? = (L2.wipe σ vs)[j]?) : L2.wipe σ' vs = L2.wipe σ vs := by
  rw [L2.wipe_length] at hl
  refine List.ext_getElem? fun j => ?_
  rw [wipe_at, wipe_at, hl]
  by_cases hj : j ∈ vs ∧ j < σ.length
  · rw [if_pos hj, if_pos hj]
  · rw [if_neg hj, if_neg hj]
    by_cases hi : j ∈ is
    · have : ¬ j < σ.length := fun z => hj ⟨his j hi, z⟩
      rw [List.getElem?_eq_none (by omega), List.getElem?_eq_none (by omega)]
    · rw [h j hi, wipe_at, if_neg hj]
def lcGo (s : Src) (g : Tg) (tt te : Ev) (ρ : Env) : Nat → Nat → List D → M D
  | 0, _, acc => fun S => if s.fin S = true then some (.ok (.lst acc), S) else none
  | m + 1, i, acc => fun S => match s.rd S i with
    | none => none
    | some d => ((noX (g d ρ)).bind fun ρ2 => (noX (tt ρ2)).bind fun b => match b with
      | .bl true => (noX (te ρ2)).bind fun y => if acc.length < 1000000 then lcGo s g tt te ρ m (i + 1) (acc ++ [y]) else M.stuck
      | .bl false => lcGo s g tt te ρ m (i + 1) acc
      | _ => M.stuck) S
def mLc (it : Env → M Src) (g : Tg) (tt te : Ev) (vs : List Nat) : Ev := fun ρ => (it ρ).bind fun s => lcGo s g tt te (wipeD ρ vs) s.n 0 []
def mYes : Ev := fun _ => M.ret (.bl true)
abbrev W0 : WX := fun _ _ _ _ => False
theorem bind_noX {α β : Type} {m : M α} {f : α → M β} {S : Store} {r : Rs β × Store} (h : ((noX m).bind f) S = some r) : ∃ a S1, m S = some (.ok a, S1) ∧ f a S1 = some r := by
  unfold M.bind at h
  cases q : noX m S with
  | none => rw [q] at h; cases h
  | some z =>
    obtain ⟨a, e1, e2⟩ := noX_ok q
    obtain ⟨z1, z2⟩ := z
    have e1 : z1 = .ok a := e1
    subst e1
    rw [q] at h
    exact ⟨a, z2, e2, h⟩
section
variable {K : PySem.W.Frag} {ca : CA} {is vs : List Nat} {g : TG} {f : Tg} {tt : TT} {te : TE} {ft fe : Ev}
theorem upd_no {H : Hp} {p a : Addr} {o : HO} (nt : NT o) (h : Fre (upd H p o) a) : Fre H a := by
  by_cases e : a = p
  · subst e; exact (h o upd_same nt).elim
  · exact fun u hu => h u (by rw [upd_ne e]; exact hu)
theorem Evo.grow {μ1 μ : Mm} {H1 H : Hp} {p : Addr} {ys : List V} (e : Evo μ1 H1 μ H) (h1 : H1 p = none ∨ p ∈ μ1.z) (h2 : ∃ xs, H p = some (.lst xs)) (m : Mu μ (upd H p (.lst ys))) : Evo μ1 H1 μ (upd H p (.lst ys)) :=
  ⟨e.app, e.z, fun a o h n nz nt => by
    have ne : a ≠ p := fun q => by
      rcases h1 with z | z
      · rw [q, z] at h; cases h
      · exact nz (by rw [q]; exact z)
    rw [upd_ne ne]; exact e.keep a o h n nz nt, e.tt, e.kt.trans (.upd fun u hu => by obtain ⟨xs, w⟩ := h2; rw [w] at hu; cases hu; exact .iLst), fun a h => e.no a (upd_no nt_lst h), m⟩
/-- one turn's state of a list that is being made at p -/
structure Mk1 (K : PySem.W.Frag) (ca : CA) (μ1 : Mm) (H1 : Hp) (p : Addr) (acc : List D) (H : Hp) (S : Store) (μ : Mm) (us : List V) : Prop where
  evo : Evo μ1 H1 μ H
  keep : ∀ a o, H1 a = some o → a ∉ μ1.l → NT o → H a = some o
  rel : Rel K ca μ H S
  z : μ.z = p :: μ1.z
  l : p ∉ μ.l
  at_ : H p = some (.lst us)
  vr : VRs K μ H acc us
theorem Mk1.ext {μ1 μ μ' : Mm} {H1 H H' : Hp} {p : Addr} {acc : List D} {S S' : Store} {us : List V} (k : Mk1 K ca μ1 H1 p acc H S μ us) (e : Ext μ H μ' H') (r : Rel K ca μ' H' S') : Mk1 K ca μ1 H1 p acc H' S' μ' us :=
  ⟨k.evo.trans e.evo, fun a o h n nt => e.keep a o (k.keep a o h n nt) (k.evo.out h n nt) nt, r, e.z.trans k.z, e.out k.at_ k.l, e.keep _ _ k.at_ k.l (fun _ z => nomatch z), k.vr.mono k.rel.mu e⟩
theorem Mk1.grow {μ1 μ : Mm} {H1 H : Hp} {p : Addr} {acc : List D} {S : Store} {us : List V} {y : D} {v : V} (k : Mk1 K ca μ1 H1 p acc H S μ us) (h1 : H1 p = none) (hy : VR K μ H y v) : Mk1 K ca μ1 H1 p (acc ++ [y]) (upd H p (.lst (us ++ [v]))) S μ (us ++ [v]) := by
  have hz : p ∈ μ.z := by rw [k.z]; exact List.mem_cons_self
  have r2 : Rel K ca μ (upd H p (.lst (us ++ [v]))) S := k.rel.grow hz k.l k.at_
  exact ⟨k.evo.grow (.inl h1) ⟨_, k.at_⟩ r2.mu, fun a o h n nt => by rw [upd_ne (ne_of_none h h1)]; exact k.keep a o h n nt, r2, k.z, k.l, upd_same, (k.vr.app (.iCons hy .iNil)).hid hz k.at_⟩
theorem Adq.lc {wi : TI} {it : Env → M Src} {W : WX} (hi : Adq (rI' K ca) ca W wi it) (hg : AdqG K ca is g f) (his : ∀ i ∈ is, i ∈ vs) (ht : Adq (rB K) ca W0 tt ft) (he : Adq (rV K) ca W0 te fe) : Adq (rV K) ca W (tLc wi g tt te vs) (mLc it f ft fe vs) := by
  intro μ σ H ρ S hr hE
  refine Aq.bind (R1 := rI' K ca) (R2 := rV K) (t1 := wi σ H) (k := fun J H1 (Q : VK) => ∀ D, H1 D = none → ∃ W : Nat → Nat → Hp → Prop, (∃ m, W 0 m (upd H1 D (.lst []))) ∧ ∀ i m H, W i m H →
    (J.stop i H ∧ Q (.ref D) H) ∨ (J.go i H ∧ ∃ Nx : Hp → Prop, (∀ H', Nx H' → ∃ m', m' < m ∧ W (i + 1) m' H') ∧ ∀ x H', J.yld i H x H' → g x (L2.wipe σ vs) H' fun σ2 H2 => L2.wipe σ2 vs = L2.wipe σ vs ∧ tt σ2 H2 fun b H3 =>
      if b = true then te σ2 H3 fun y H4 => ∃ acc, H4 D = some (.lst acc) ∧ acc.length < sizeLine ∧ Nx (upd H4 D (.lst (acc ++ [y]))) else Nx H3)) (hi μ σ H ρ S hr hE) fun s J μ1 H1 S1 e1 r1 o => ?_
  have hE1 : ER K μ1 H1 (wipeD ρ vs) (L2.wipe σ vs) := (hE.mono hr.mu e1).wipe vs
  intro r hf Q hp p hpn
  have hpz : p ∉ μ1.z := (r1.mu.not hpn).2
  refine ⟨fun i m H => ∃ μ acc us S, i + m = s.n ∧ Mk1 K ca μ1 H1 p acc H S μ us ∧ lcGo s f ft fe (wipeD ρ vs) m i acc S = some r, ⟨s.n, ?_⟩, ?_⟩
  · obtain ⟨x, r2⟩ := r1.hide (vs := []) hpn
    exact ⟨μ1.hide p, [], [], S1, by omega, ⟨x, fun a o h n _ => by rw [upd_ne (ne_of_none h hpn)]; exact h, r2, rfl, (r1.mu.not hpn).1, upd_same, .iNil⟩, hf⟩
  · rintro i m H ⟨μ, acc, us, S, hn, k, hf⟩
    cases m with
    | zero =>
      have hf : (if s.fin S = true then some ((Rs.ok (.lst acc) : Rs D), S) else none) = some r := hf
      split at hf
      · rename_i hfin
        cases hf
        have hin : i = s.n := by omega
        subst hin
        refine .inl ⟨o.stop μ H S k.evo k.rel hfin, ?_⟩
        obtain ⟨l, z, t⟩ := μ
        have hz : z = p :: μ1.z := k.z
        subst hz
        obtain ⟨x, r2⟩ := k.rel.show
        have xx := k.evo.trans x
        refine hp ⟨l, μ1.z, t⟩ H (.ref p) ⟨xx.app, rfl, k.keep, xx.tt, xx.kt, xx.mu⟩ r2 ?_
        exact VR.iLst ⟨k.at_, k.l, hpz⟩ (k.vr.monoE k.rel.mu x)
      · cases hf
    | succ m =>
      have hf : (match s.rd S i with
        | none => none
        | some d => ((noX (f d (wipeD ρ vs))).bind fun ρ2 => (noX (ft ρ2)).bind fun b => match b with
          | .bl true => (noX (fe ρ2)).bind fun y => if acc.length < 1000000 then lcGo s f ft fe (wipeD ρ vs) m (i + 1) (acc ++ [y]) else M.stuck
          | .bl false => lcGo s f ft fe (wipeD ρ vs) m (i + 1) acc
          | _ => M.stuck) S) = some r := hf
      split at hf
      · cases hf
      · rename_i d hd
        obtain ⟨ρ2, S2, g1, hf⟩ := bind_noX hf
        obtain ⟨b, S3, g2, hf⟩ := bind_noX hf
        obtain ⟨go, yl⟩ := o.go μ H S i d k.evo k.rel (by omega) hd
        refine .inr ⟨go, fun H' => ∃ μ acc us S, i + 1 + m = s.n ∧ Mk1 K ca μ1 H1 p acc H' S μ us ∧ lcGo s f ft fe (wipeD ρ vs) m (i + 1) acc S = some r, fun H' w => ⟨m, Nat.lt_succ_self _, w⟩, fun x H' y => ?_⟩
        obtain ⟨e2, r2, v2⟩ := yl x H' y
        have k2 := k.ext e2 r2
        have hE2 : ER K μ H' (wipeD ρ vs) (L2.wipe σ vs) := hE1.monoE r1.mu k2.evo
        refine hg μ _ H' _ S d x _ r2 hE2 v2 g1 _ fun μ3 H3 σ3 e3 r3 E3 k3 l3 => ⟨wipe_eq his l3 k3, ?_⟩
        have k4 := k2.ext e3 r3
        refine ht μ3 σ3 H3 ρ2 S2 r3 E3 _ g2 _ fun μ5 H5 bb e5 r5 x5 => ?_
        have x5 : b = .bl bb := x5
        subst x5
        have k6 := k4.ext e5 r5
        cases bb with
        | false =>
          rw [if_neg Bool.false_ne_true]
          exact ⟨μ5, acc, us, S3, by omega, k6, hf⟩
        | true =>
          rw [if_pos rfl]
          obtain ⟨y, S4, g3, hf⟩ := bind_noX hf
          split at hf
          · rename_i hl
            refine he μ5 σ3 H5 ρ2 S3 r5 (E3.mono r3.mu e5) _ g3 _ fun μ7 H7 v7 e7 r7 x7 => ?_
            have k8 := k6.ext e7 r7
            refine ⟨us, k8.at_, by rw [← k.vr.len]; exact Nat.lt_of_lt_of_le hl (by decide), μ7, _, _, S4, by omega, k8.grow hpn x7, hf⟩
          · cases hf
end
structure DTs (ca : CA) (X : Cx) (W : WX) (ifs : List Expr) (f : Ev) : Prop where
  ex : ∃ t, PTs X ifs t ∧ Adq (rB X.K) ca W t f
theorem dts_nil {ca : CA} {X : Cx} {W : WX} : DTs ca X W [] mYes := ⟨_, pts_nil, fun μ σ H ρ S hr he => Aq.ret (R := rB X.K) (v := true) hr rfl⟩
theorem dts_one {ca : CA} {X : Cx} {W : WX} {c : Expr} {f : Ev} (h : DT ca X W c f) : DTs ca X W [c] f := by
  obtain ⟨t, p, q⟩ := h.ex
  exact ⟨_, pts_one p, q⟩
theorem DTs.can {ca : CA} {X : Cx} {W : WX} {ifs : List Expr} {f : Ev} (h : DTs ca X W ifs f) : PTs X ifs (tOf (rB X.K) ca W f) := ⟨fun pins s σ H Q I ⟨μ, ρ, S, r, a, b, c, d⟩ => by
  obtain ⟨t, p, q⟩ := h.ex
  exact p.run pins s σ H Q I (q μ σ H ρ S a b r c Q d)⟩
section
variable {ca : CA} {X : Cx} {W : WX} {elt tg iter : Expr} {ifs : List Expr} {scope : Scope} {pos : Pos} {it : Env → M Src} {g : Tg} {ft fe : Ev} {is : List Nat}
theorem de_lc (own : List (Str × Nat)) (hc : X.calm = true) (hN : X.N.Nodup) (ok : BlkOk X.N X.env.scope scope own) (hi : DI ca X W tg iter it)
    (hg : ∀ (s : Shared) (H : Hp) (C : Addr) (cl : List (Str × Addr)) (fp : List Addr), DG ca (X.blk s H scope (compEnvC scope cl C X.env) fp) tg is g) (his : ∀ i ∈ is, i ∈ own.map (·.2))
    (ht : ∀ (s : Shared) (H : Hp) (C : Addr) (cl : List (Str × Addr)) (fp : List Addr), DTs ca (X.blk s H scope (compEnvC scope cl C X.env) fp) W0 ifs ft)
    (he : ∀ (s : Shared) (H : Hp) (C : Addr) (cl : List (Str × Addr)) (fp : List Addr), DE ca (X.blk s H scope (compEnvC scope cl C X.env) fp) W0 elt fe)
    (hs : ∀ x, foldedSetIterable iter X.env x = pure x := by intro _; rfl) : DE ca X W (.ListComp elt [⟨tg, iter, ifs, 0⟩] scope pos) (mLc it g ft fe (own.map (·.2))) :=
  ⟨_, pe_lc hc hN hi.can ok (fun s H C cl fp => (hg s H C cl fp).can) (fun s H C cl fp => (ht s H C cl fp).can) (fun s H C cl fp => (he s H C cl fp).can) hs, Adq.lc Adq.of AdqG.of his Adq.of Adq.of⟩
end
end Tl
set_option Elab.async false
set_option linter.all false
set_option maxRecDepth 100000
set_option maxHeartbeats 4000000
set_option autoImplicit false
namespace Tl
open PySem L2 PySem.Spec PyProof.Rows RZ

/-! ### statements -/
inductive Fl where
  | nx (ρ : Env) | rt (d : D) | bk (ρ : Env) | ct (ρ : Env) | ex (c : Nat) (fs : List (Str × D)) (ρ : Env)
abbrev Sm := Env → Store → Option (Fl × Store)
def PstS (K : PySem.W.Frag) (ca : CA) (μ : Mm) (H : Hp) (r : Fl × Store) (E : Ends) (W : WX) : Prop :=
  match r.1 with
  | .nx ρ => ∀ μ' H' σ', Ext μ H μ' H' → Rel K ca μ' H' r.2 → ER K μ' H' ρ σ' → E.nx σ' H'
  | .rt d => ∀ μ' H' v, Ext μ H μ' H' → Rel K ca μ' H' r.2 → VR K μ' H' d v → E.rt v H'
  | .bk ρ => ∀ μ' H' σ', Ext μ H μ' H' → Rel K ca μ' H' r.2 → ER K μ' H' ρ σ' → E.bk σ' H'
  | .ct ρ => ∀ μ' H' σ', Ext μ H μ' H' → Rel K ca μ' H' r.2 → ER K μ' H' ρ σ' → E.ct σ' H'
  | .ex c fs ρ => ∀ μ' H' σ' dd, Ext μ H μ' H' → Rel K ca μ' H' r.2 → ER K μ' H' ρ σ' → XR K μ' H' fs dd → W (.ref (ca c)) dd σ' H'
def AdqS (K : PySem.W.Frag) (ca : CA) (W : WX) (t : TS) (f : Sm) : Prop := ∀ μ σ H ρ S r, Rel K ca μ H S → ER K μ H ρ σ → f ρ S = some r → ∀ E : Ends, PstS K ca μ H r E W → t E σ H
structure DS (ca : CA) (X : Cx) (W : WX) (st : Stmt) (f : Sm) : Prop where
  ex : ∃ t, PS X st t ∧ AdqS X.K ca W t f
structure DSs (ca : CA) (X : Cx) (W : WX) (sts : List Stmt) (f : Sm) : Prop where
  ex : ∃ t, PSs X sts t ∧ AdqS X.K ca W t f
section
variable {K : PySem.W.Frag} {ca : CA} {μ μ' : Mm} {H H' : Hp} {r : Fl × Store} {E E' : Ends} {W : WX}
theorem PstS.ext (e : Ext μ H μ' H') (h : PstS K ca μ H r E W) : PstS K ca μ' H' r E W := by
  obtain ⟨r, S⟩ := r
  cases r with
  | nx ρ => exact fun a b c x => h a b c (e.trans x)
  | rt d => exact fun a b c x => h a b c (e.trans x)
  | bk ρ => exact fun a b c x => h a b c (e.trans x)
  | ct ρ => exact fun a b c x => h a b c (e.trans x)
  | ex c fs ρ => exact fun a b d g x => h a b d g (e.trans x)
end
def sSkip : Sm := fun ρ S => some (.nx ρ, S)
def sSeq (f g : Sm) : Sm := fun ρ S => match f ρ S with
  | some (.nx ρ', S') => g ρ' S'
  | r => r
/-- a value, then what is done with it -/
def sBnd {α : Type} (m : Env → M α) (k : α → Sm) : Sm := fun ρ S => match m ρ S with
  | some (.ok a, S') => k a ρ S'
  | some (.exc c fs, S') => some (.ex c fs ρ, S')
  | none => none
def sTg (g : Tg) (d : D) : Sm := fun ρ S => match g d ρ S with
  | some (.ok ρ', S') => some (.nx ρ', S')
  | _ => none
def sAsg (f : Ev) (g : Tg) : Sm := sBnd f fun d => sTg g d
def sExpr (f : Ev) : Sm := sBnd f fun _ => sSkip
def sRet (f : Ev) : Sm := sBnd f fun d _ S => some (.rt d, S)
def sRetN : Sm := fun _ S => some (.rt .non, S)
def sIf (c : Ev) (f g : Sm) : Sm := sBnd c fun d => match d with
  | .bl true => f
  | .bl false => g
  | _ => fun _ _ => none
def sPar (i j : Nat) (fs : Evs) : Sm := sBnd fs fun ds ρ S => match ds with
  | [d, e] => some (.nx ((ρ.set i (some d)).set j (some e)), S)
  | _ => none
def sBrk : Sm := fun ρ S => some (.bk ρ, S)
def sCnt : Sm := fun ρ S => some (.ct ρ, S)
def forGo (s : Src) (g : Tg) (b : Sm) : Nat → Nat → Sm
  | 0, _ => fun ρ S => if s.fin S = true then some (.nx ρ, S) else none
  | m + 1, i => fun ρ S => match s.rd S i with
    | none => none
    | some d => match sSeq (sTg g d) b ρ S with
      | some (.nx ρ2, S2) => forGo s g b m (i + 1) ρ2 S2
      | some (.ct ρ2, S2) => forGo s g b m (i + 1) ρ2 S2
      | some (.bk ρ2, S2) => some (.nx ρ2, S2)
      | r => r
def sFor (it : Env → M Src) (g : Tg) (b : Sm) : Sm := sBnd it fun s => forGo s g b s.n 0
def whGo (c : Ev) (b : Sm) : Nat → Sm
  | 0 => fun _ _ => none
  | m + 1 => sBnd c fun d => match d with
    | .bl true => fun ρ S => match b ρ S with
      | some (.nx ρ2, S2) => whGo c b m ρ2 S2
      | some (.ct ρ2, S2) => whGo c b m ρ2 S2
      | some (.bk ρ2, S2) => some (.nx ρ2, S2)
      | r => r
    | .bl false => sSkip
    | _ => fun _ _ => none
section
variable {K : PySem.W.Frag} {ca : CA} {W : WX}
/-- a value, then what is done with it -/
theorem sBnd_of {α β : Type} {R : RT K α β} {m : Env → M α} {k : α → Sm} {t1 : L2.St → Hp → (β → Hp → Prop) → Prop} {E : Ends} {μ : Mm} {σ : L2.St} {H : Hp} {ρ : Env} {S : Store} {r : Fl × Store} {Q : β → Hp → Prop} (h1 : Adq R ca W t1 m) (hr : Rel K ca μ H S) (he : ER K μ H ρ σ) (hf : sBnd m k ρ S = some r)
    (hp : PstS K ca μ H r E W) (h2 : ∀ a v μ1 H1 S1, Ext μ H μ1 H1 → Rel K ca μ1 H1 S1 → ER K μ1 H1 ρ σ → R.r μ1 H1 a v → k a ρ S1 = some r → PstS K ca μ1 H1 r E W → Q v H1) : t1 σ H Q := by
  unfold sBnd at hf
  cases q : m ρ S with
  | none => rw [q] at hf; cases hf
  | some z =>
    obtain ⟨z, S1⟩ := z
    rw [q] at hf
    cases z with
    | ok a => exact h1 μ σ H ρ S hr he _ q Q fun μ1 H1 v e r1 x1 => h2 a v μ1 H1 S1 e r1 (he.mono hr.mu e) x1 hf (hp.ext e)
    | exc c fs => cases hf; exact h1 μ σ H ρ S hr he _ q Q fun μ1 H1 dd e r1 x1 => hp μ1 H1 σ dd e r1 (he.mono hr.mu e) x1
theorem sTg_of {is : List Nat} {g : TG} {f : Tg} {E : Ends} {μ : Mm} {σ : L2.St} {H : Hp} {ρ : Env} {S : Store} {d : D} {v : V} {r : Fl × Store} (h : AdqG K ca is g f) (hr : Rel K ca μ H S) (he : ER K μ H ρ σ) (hv : VR K μ H d v) (hf : sTg f d ρ S = some r) (hp : PstS K ca μ H r E W) : g v σ H E.nx := by
  unfold sTg at hf
  split at hf
  · rename_i ρ' S' q
    cases hf
    exact h μ σ H ρ S d v _ hr he hv q _ fun μ1 H1 σ1 e r1 E1 _ _ => hp μ1 H1 σ1 e r1 E1
  · cases hf
end
section
variable {ca : CA} {X : Cx} {W : WX} {st : Stmt} {sts a b : List Stmt} {f g : Sm} {e c o i tg iter : Expr} {fe fo fi fc : Ev} {fg : Tg} {is : List Nat} {pos pos' tpos : Pos} {it : Env → M Src}
theorem dss_nil : DSs ca X W [] sSkip := ⟨_, pss_nil, fun μ σ H ρ S r hr he hf E hp => by cases hf; exact hp μ H σ hr.refl hr he⟩
theorem dss_cons (h1 : DS ca X W st f) (h2 : DSs ca X W sts g) : DSs ca X W (st :: sts) (sSeq f g) := by
  obtain ⟨t, p, q⟩ := h1.ex
  obtain ⟨u, p', q'⟩ := h2.ex
  refine ⟨_, pss_cons p p', fun μ σ H ρ S r hr he hf E hp => ?_⟩
  show t { E with nx := u E } σ H
  unfold sSeq at hf
  cases z : f ρ S with
  | none => rw [z] at hf; cases hf
  | some r1 =>
    obtain ⟨r1, S1⟩ := r1
    rw [z] at hf
    refine q μ σ H ρ S _ hr he z _ ?_
    cases r1 with
    | nx ρ' => exact fun μ1 H1 σ1 e1 R1 E1 => q' μ1 σ1 H1 ρ' S1 r R1 E1 hf E (hp.ext e1)
    | rt d => cases hf; exact hp
    | bk ρ' => cases hf; exact hp
    | ct ρ' => cases hf; exact hp
    | ex c fs ρ' => cases hf; exact hp
theorem dss_one (h1 : DS ca X W st f) : DSs ca X W [st] f := by
  obtain ⟨t, p, q⟩ := h1.ex
  exact ⟨_, pss_one p, q⟩
theorem ds_expr (h : DE ca X W e fe) (hs : swapsWith e none pos.line X.env = pure false := by rfl) : DS ca X W (.Expr e pos) (sExpr fe) := by
  obtain ⟨t, p, q⟩ := h.ex
  exact ⟨_, ps_expr p hs, fun μ σ H ρ S r hr he hf E hp => sBnd_of (R := rV X.K) q hr he hf hp fun d v μ1 H1 S1 e1 r1 E1 x1 hk hp1 => by cases hk; exact hp1 μ1 H1 σ r1.refl r1 E1⟩
theorem ds_ret (h : DE ca X W e fe) : DS ca X W (.Return (some e) pos) (sRet fe) := by
  obtain ⟨t, p, q⟩ := h.ex
  exact ⟨_, ps_ret p, fun μ σ H ρ S r hr he hf E hp => sBnd_of (R := rV X.K) q hr he hf hp fun d v μ1 H1 S1 e1 r1 E1 x1 hk hp1 => by cases hk; exact hp1 μ1 H1 v r1.refl r1 x1⟩
theorem ds_retN : DS ca X W (.Return none pos) sRetN := ⟨_, ps_retN, fun μ σ H ρ S r hr he hf E hp => by cases hf; exact hp μ H .non hr.refl hr .iNon⟩
theorem ds_if (hc : DT ca X W c fc) (h1 : DSs ca X W a f) (h2 : DSs ca X W b g) : DS ca X W (.If c a b pos) (sIf fc f g) := by
  obtain ⟨t, p, q⟩ := hc.ex
  obtain ⟨u, p', q'⟩ := h1.ex
  obtain ⟨v, p'', q''⟩ := h2.ex
  refine ⟨_, ps_if p p' p'', fun μ σ H ρ S r hr he hf E hp => sBnd_of (R := rB X.K) q hr he hf hp fun d k μ1 H1 S1 e1 r1 E1 x1 hk hp1 => ?_⟩
  have x1 : d = .bl k := x1
  subst x1
  cases k with
  | true => rw [if_pos rfl]; exact q' μ1 σ H1 ρ S1 r r1 E1 hk E hp1
  | false => rw [if_neg Bool.false_ne_true]; exact q'' μ1 σ H1 ρ S1 r r1 E1 hk E hp1
theorem ds_pass : DS ca X W (.Pass pos) sSkip := ⟨_, ps_pass, fun μ σ H ρ S r hr he hf E hp => by cases hf; exact hp μ H σ hr.refl hr he⟩
theorem ds_brk : DS ca X W (.Break pos) sBrk := ⟨_, ps_break, fun μ σ H ρ S r hr he hf E hp => by cases hf; exact hp μ H σ hr.refl hr he⟩
theorem ds_cnt : DS ca X W (.Continue pos) sCnt := ⟨_, ps_continue, fun μ σ H ρ S r hr he hf E hp => by cases hf; exact hp μ H σ hr.refl hr he⟩
/-- target = value -/
theorem ds_asg (h : DE ca X W e fe) (hg : DG ca X tg is fg) (hs : swapsWithSole [tg] e pos.line X.env = pure false := by rfl) (hw : swappedStores [tg] e X.env = pure none := by rfl) (h1 : (assignEach [tg] X.env).map (·.2) = [assign tg X.env] := by rfl) : DS ca X W (.Assign [tg] e pos) (sAsg fe fg) := by
  obtain ⟨t, p, q⟩ := h.ex
  obtain ⟨u, p', q'⟩ := hg.ex
  exact ⟨_, ps_asg p p' hs hw h1, fun μ σ H ρ S r hr he hf E hp => sBnd_of (R := rV X.K) q hr he hf hp fun d v μ1 H1 S1 e1 r1 E1 x1 hk hp1 => sTg_of q' r1 E1 x1 hk hp1⟩
/-- name = value -/
theorem ds_set (i : Nat) {x : Str} (hN : X.N.Nodup) (h : DE ca X W e fe) (hi : X.N[i]? = some x := by rfl) (hx : Loc X.env.scope x := by first | exact Or.inl rfl | exact Or.inr rfl) (hs : swapsWith e (some (.Name x pos')) pos.line X.env = pure false := by rfl) (hf : X.fn x = true ∨ X.env.scope.names.lookup x = some .local := by first | exact .inl rfl | exact .inr rfl) :
    DS ca X W (.Assign [.Name x pos'] e pos) (sAsg fe (gNm i)) := by
  obtain ⟨t, p, q⟩ := h.ex
  refine ⟨_, ps_set hN hi hx p hs hf, fun μ σ H ρ S r hr he hf E hp => sBnd_of (R := rV X.K) q hr he hf hp fun d v μ1 H1 S1 e1 r1 E1 x1 hk hp1 => ?_⟩
  cases hk
  exact hp1 μ1 H1 _ r1.refl r1 (E1.set i x1)
/-- name = [..] -/
theorem ds_setLc (i : Nat) {x : Str} (own : List (Str × Nat)) {elt : Expr} {ifs : List Expr} {scope : Scope} {spos : Pos} {ft fel : Ev} (hc : X.calm = true) (hN : X.N.Nodup) (hi : X.N[i]? = some x) (hx : X.env.scope.names.lookup x = some .local)
    (hsw : swapsWith (.ListComp elt [⟨tg, iter, ifs, 0⟩] scope pos) (some (.Name x pos')) spos.line X.env = pure true) (ok : BlkOk X.N X.env.scope scope own) (hit : DI ca X W tg iter it)
    (hg : ∀ (s : Shared) (H : Hp) (C : Addr) (cl : List (Str × Addr)) (fp : List Addr), DG ca (X.blk s H scope (compEnvC scope cl C X.env) fp) tg is fg) (his : ∀ i ∈ is, i ∈ own.map (·.2))
    (ht : ∀ (s : Shared) (H : Hp) (C : Addr) (cl : List (Str × Addr)) (fp : List Addr), DTs ca (X.blk s H scope (compEnvC scope cl C X.env) fp) W0 ifs ft)
    (he : ∀ (s : Shared) (H : Hp) (C : Addr) (cl : List (Str × Addr)) (fp : List Addr), DE ca (X.blk s H scope (compEnvC scope cl C X.env) fp) W0 elt fel)
    (hs : ∀ x, foldedSetIterable iter X.env x = pure x := by intro _; rfl) : DS ca X W (.Assign [.Name x pos'] (.ListComp elt [⟨tg, iter, ifs, 0⟩] scope pos) spos) (sAsg (mLc it fg ft fel (own.map (·.2))) (gNm i)) := by
  refine ⟨_, ps_setLc hc hN hi hx hsw hit.can ok (fun s H C cl fp => (hg s H C cl fp).can) (fun s H C cl fp => (ht s H C cl fp).can) (fun s H C cl fp => (he s H C cl fp).can) hs, fun μ σ H ρ S r hr he hf E hp => sBnd_of (R := rV X.K) (Adq.lc Adq.of AdqG.of his Adq.of Adq.of) hr he hf hp fun d v μ1 H1 S1 e1 r1 E1 x1 hk hp1 => ?_⟩
  cases hk
  exact hp1 μ1 H1 _ r1.refl r1 (E1.set i x1)
/-- a, b = x, y -/
theorem ds_par (i j : Nat) {x y : Str} {px py pt : Pos} {kt k2 : Nat} {pt2 : Pos} {e1 e2 : Expr} {fs : Evs} (hc : X.calm = true) (hN : X.N.Nodup) (h : DA ca X W [e1, e2] fs) (hi : X.N[i]? = some x := by rfl) (hj : X.N[j]? = some y := by rfl) (hij : i ≠ j := by decide)
    (hx : X.env.scope.names.lookup x = some .local := by rfl) (hy : X.env.scope.names.lookup y = some .local := by rfl) (hw : swappedStores [.Tuple [.Name x px, .Name y py] kt pt] (.Tuple [e1, e2] k2 pt2) X.env = pure (some [x, y]) := by rfl)
    (hs : swapsWithSole [.Tuple [.Name x px, .Name y py] kt pt] (.Tuple [e1, e2] k2 pt2) pos.line X.env = pure false := by rfl) : DS ca X W (.Assign [.Tuple [.Name x px, .Name y py] kt pt] (.Tuple [e1, e2] k2 pt2) pos) (sPar i j fs) := by
  obtain ⟨t, p, q⟩ := h.ex
  refine ⟨_, ps_par hc hN hi hj hij hx hy p hw hs, fun μ σ H ρ S r hr he hf E hp => sBnd_of (R := rVs X.K) q hr he hf hp fun ds vs μ1 H1 S1 e1 r1 E1 x1 hk hp1 => ?_⟩
  split at hk
  · obtain ⟨v, w, rfl, g1, g2⟩ := two x1
    cases hk
    exact ⟨v, w, rfl, hp1 μ1 H1 _ r1.refl r1 ((E1.set i g1).set j g2)⟩
  · cases hk
theorem ds_for (hp : PassesOwn (model X.prog X.w) X.A X.env X.xe) (hc : X.calm = true) (hi : DI ca X W tg iter it) (hg : DG ca X tg is fg) (hb : DSs ca X W b f) (hs : ∀ x, foldedSetIterable iter X.env x = pure x := by intro _; rfl) : DS ca X W (.For tg iter b [] pos) (sFor it fg f) := by
  obtain ⟨wi, p, q⟩ := hi.ex
  obtain ⟨g, pg, qg⟩ := hg.ex
  obtain ⟨t, pb, qb⟩ := hb.ex
  refine ⟨_, ps_for hp hc p pg pb hs, fun μ σ H ρ S r hr he hf E hp => sBnd_of (R := rI' X.K ca) q hr he hf hp fun s J μ1 H1 S1 e1 r1 E1 o hk hp1 => ?_⟩
  refine ⟨fun i m σ H => ∃ μ ρ S, i + m = s.n ∧ Ext μ1 H1 μ H ∧ Rel X.K ca μ H S ∧ ER X.K μ H ρ σ ∧ forGo s fg f m i ρ S = some r, ⟨s.n, μ1, ρ, S1, by omega, r1.refl, r1, E1, hk⟩, ?_⟩
  rintro i m σ H ⟨μ, ρ, S, hn, e, rl, er, hf⟩
  cases m with
  | zero =>
    have hf : (if s.fin S = true then some (Fl.nx ρ, S) else none) = some r := hf
    split at hf
    · rename_i hfin
      cases hf
      have hin : i = s.n := by omega
      subst hin
      exact .inl ⟨SrcOk.stop o μ H S e.evo rl hfin, hp1 μ H σ e rl er⟩
    · cases hf
  | succ m =>
    have hf : (match s.rd S i with
      | none => none
      | some d => match sSeq (sTg fg d) f ρ S with
        | some (.nx ρ2, S2) => forGo s fg f m (i + 1) ρ2 S2
        | some (.ct ρ2, S2) => forGo s fg f m (i + 1) ρ2 S2
        | some (.bk ρ2, S2) => some (.nx ρ2, S2)
        | r => r) = some r := hf
    split at hf
    · cases hf
    · rename_i d hd
      obtain ⟨go, yl⟩ := SrcOk.go o μ H S i d e.evo rl (by omega) hd
      refine .inr ⟨go, fun σ' H' => ∃ μ ρ S, i + 1 + m = s.n ∧ Ext μ1 H1 μ H' ∧ Rel X.K ca μ H' S ∧ ER X.K μ H' ρ σ' ∧ forGo s fg f m (i + 1) ρ S = some r, fun σ' H' w => ⟨m, Nat.lt_succ_self _, w⟩, fun x H' y => ?_⟩
      obtain ⟨e2, r2, v2⟩ := yl x H' y
      have er2 := er.mono rl.mu e2
      cases z : sSeq (sTg fg d) f ρ S with
      | none => rw [z] at hf; cases hf
      | some r3 =>
        rw [z] at hf
        unfold sSeq at z
        cases z1 : sTg fg d ρ S with
        | none => rw [z1] at z; cases z
        | some r4 =>
          unfold sTg at z1
          split at z1
          · rename_i ρ4 S4 z2
            cases z1
            unfold sTg at z
            rw [z2] at z
            refine qg μ σ H' ρ S d x _ r2 er2 v2 z2 _ fun μ5 H5 σ5 e5 r5 E5 _ _ => ?_
            refine qb μ5 σ5 H5 ρ4 S4 r3 r5 E5 z _ ?_
            have e6 := (e.trans e2).trans e5
            obtain ⟨r3, S3⟩ := r3
            cases r3 with
            | nx ρ' => exact fun μ7 H7 σ7 e7 r7 E7 => ⟨μ7, ρ', S3, by omega, e6.trans e7, r7, E7, hf⟩
            | ct ρ' => exact fun μ7 H7 σ7 e7 r7 E7 => ⟨μ7, ρ', S3, by omega, e6.trans e7, r7, E7, hf⟩
            | bk ρ' => cases hf; exact fun μ7 H7 σ7 e7 r7 E7 => hp1 μ7 H7 σ7 (e6.trans e7) r7 E7
            | rt d => cases hf; exact fun μ7 H7 v7 e7 r7 E7 => hp1 μ7 H7 v7 (e6.trans e7) r7 E7
            | ex c fs ρ' => cases hf; exact fun μ7 H7 σ7 dd e7 r7 E7 x7 => hp1 μ7 H7 σ7 dd (e6.trans e7) r7 E7 x7
          · cases z1
theorem ds_while (n : Nat) (hp : PassesOwn (model X.prog X.w) X.A X.env X.xe) (hc : DT ca X W c fc) (hb : DSs ca X W b f) : DS ca X W (.While c b [] pos) (whGo fc f n) := by
  obtain ⟨wi, p, q⟩ := hc.ex
  obtain ⟨t, pb, qb⟩ := hb.ex
  refine ⟨_, ps_while hp p pb, fun μ1 σ H1 ρ S r r1 he hf E hp1 => ?_⟩
  refine ⟨fun m σ H => ∃ μ ρ S, Ext μ1 H1 μ H ∧ Rel X.K ca μ H S ∧ ER X.K μ H ρ σ ∧ whGo fc f m ρ S = some r, ⟨n, μ1, ρ, S, r1.refl, r1, he, hf⟩, ?_⟩
  rintro m σ H ⟨μ, ρ, S, e, rl, er, hf⟩
  cases m with
  | zero => cases hf
  | succ m =>
    refine sBnd_of (R := rB X.K) q rl er (hf : sBnd fc _ ρ S = some r) (hp1.ext e) fun d k μ2 H2 S2 e2 r2 E2 x2 hk hp2 => ?_
    have x2 : d = .bl k := x2
    subst x2
    cases k with
    | false =>
      rw [if_neg Bool.false_ne_true]
      cases (show some (Fl.nx ρ, S2) = some r from hk)
      exact hp2 μ2 H2 σ r2.refl r2 E2
    | true =>
      rw [if_pos rfl]
      refine ⟨fun σ' H' => ∃ μ ρ S, Ext μ1 H1 μ H' ∧ Rel X.K ca μ H' S ∧ ER X.K μ H' ρ σ' ∧ whGo fc f m ρ S = some r, fun σ' H' w => ⟨m, Nat.lt_succ_self _, w⟩, ?_⟩
      have hk : (match f ρ S2 with
        | some (.nx ρ2, S2) => whGo fc f m ρ2 S2
        | some (.ct ρ2, S2) => whGo fc f m ρ2 S2
        | some (.bk ρ2, S2) => some (.nx ρ2, S2)
        | r => r) = some r := hk
      cases z : f ρ S2 with
      | none => rw [z] at hk; cases hk
      | some r3 =>
        rw [z] at hk
        refine qb μ2 σ H2 ρ S2 r3 r2 E2 z _ ?_
        have e6 := e.trans e2
        obtain ⟨r3, S3⟩ := r3
        cases r3 with
        | nx ρ' => exact fun μ7 H7 σ7 e7 r7 E7 => ⟨μ7, ρ', S3, e6.trans e7, r7, E7, hk⟩
        | ct ρ' => exact fun μ7 H7 σ7 e7 r7 E7 => ⟨μ7, ρ', S3, e6.trans e7, r7, E7, hk⟩
        | bk ρ' => cases hk; exact fun μ7 H7 σ7 e7 r7 E7 => hp1 μ7 H7 σ7 (e6.trans e7) r7 E7
        | rt d => cases hk; exact fun μ7 H7 v7 e7 r7 E7 => hp1 μ7 H7 v7 (e6.trans e7) r7 E7
        | ex c fs ρ' => cases hk; exact fun μ7 H7 σ7 dd e7 r7 E7 x7 => hp1 μ7 H7 σ7 dd (e6.trans e7) r7 E7 x7
end

/-! ### a def -/
def startD (n : Nat) (ds : List D) : Env := ds.map some ++ List.replicate (n - ds.length) none
def bodyD (n : Nat) (b : Sm) : Fnd := fun ds S => match b (startD n ds) S with
  | some (.nx _, S') => some (.ok .non, S')
  | some (.rt d, S') => some (.ok d, S')
  | some (.ex c fs _, S') => some (.exc c fs, S')
  | _ => none
theorem ER.start {K : PySem.W.Frag} {μ : Mm} {H : Hp} {ds : List D} {vs : List V} (N : List Str) (h : VRs K μ H ds vs) : ER K μ H (startD N.length ds) (L2.start N vs) := by
  have hl := h.len
  refine ⟨by unfold startD L2.start; simp [hl], fun i d q => ?_⟩
  unfold startD at q
  unfold L2.start
  by_cases hi : i < ds.length
  · rw [List.getElem?_append_left (by simpa using hi), List.getElem?_map] at q
    rw [List.getElem?_append_left (by simpa [← hl] using hi), List.getElem?_map]
    cases e : ds[i]? with
    | none => rw [e] at q; cases q
    | some d' =>
      rw [e] at q; cases q
      obtain ⟨v, h1, h2⟩ := h.get e
      exact ⟨v, by rw [h1]; rfl, h2⟩
  · rw [List.getElem?_append_right (by simpa using Nat.le_of_not_lt hi), List.getElem?_replicate] at q
    split at q <;> cases q
section
variable {P : Program} {w : World} {K : PySem.W.Frag} {mg : Str → Option Value} {base : Heap} {ca : CA}
theorem fn_d {x qual : Str} {st : Stmt} {f : Addr} {fd : FuncData} {N ps : List Str} {k n : Nat} {b : Sm} (F : Fun K x qual st f fd) (S : FnScope N ps (defScope st)) (hn : ps.length = n)
    (hb : ∀ (cdv : Value) (A : Around) (outer : List PySem.Env) (s : Shared) (H : Hp) (E : XK), Room k (A.deeper (envOfC qual (defScope st) s.heap.objs.size f cdv)) →
      DSs ca (cxOf (L2.CX P w) P w K mg base N qual (defScope st) f cdv A outer s H E) (fun cls d _ H => E cls d H) (defBody st) b) : FnOk P w K mg base (L2.CX P w) (k + 1) f fd ps (spF K ca n (bodyD N.length b)) := by
  refine F.okX S (fun vs H Q E h => h.1.trans hn.symm) fun cdv A outer s H vs Q E hr h => ?_
  obtain ⟨t, p, q⟩ := (hb cdv A outer s H E hr).ex
  refine ⟨t, p, ?_⟩
  obtain ⟨hl, μ, ds, S0, r, R0, hv, hf, hp⟩ := h
  unfold bodyD at hf
  cases z : b (startD N.length ds) S0 with
  | none => rw [z] at hf; cases hf
  | some r1 =>
    rw [z] at hf
    obtain ⟨r1, S1⟩ := r1
    refine q μ _ H _ S0 _ R0 (ER.start N hv) z _ ?_
    cases r1 with
    | nx ρ => cases hf; exact fun μ' H' σ' e r1 _ => hp μ' H' .non e r1 .iNon
    | rt d => cases hf; exact fun μ' H' v e r1 x1 => hp μ' H' v e r1 x1
    | ex c fs ρ => cases hf; exact fun μ' H' σ' dd e r1 _ x1 => hp μ' H' dd e r1 x1
    | bk ρ => cases hf
    | ct ρ => cases hf
end
end Tl
set_option Elab.async false
set_option linter.all false
set_option maxRecDepth 100000
set_option maxHeartbeats 4000000
set_option autoImplicit false
namespace Tl
open PySem L2 PySem.Spec PyProof.Rows RZ

/-! ### lists that change -/
/-- the list at n changed by k -/
def onR {α : Type} (o : D) (k : List D → Option (α × List D)) : M α := match o with
  | .ref n => fun S => match S[n]? with
    | some (.lst ds) => (k ds).map fun p => (.ok p.1, S.set n (.lst p.2))
    | _ => none
  | _ => M.stuck
def isR (o : D) : M Unit := match o with
  | .ref n => fun S => match S[n]? with
    | some (.lst _) => some (.ok (), S)
    | _ => none
  | _ => M.stuck
/-- o.m(e): k does it -/
def mMt (k : D → List D → Option (D × List D)) (f g : Ev) : Ev := fun ρ => (f ρ).bind fun o => (isR o).bind fun _ => (g ρ).bind fun d => onR o (k d)
def kApp (d : D) (ds : List D) : Option (D × List D) := if ds.length < 1000000 then some (.non, ds ++ [d]) else none
def kExt (d : D) (ds : List D) : Option (D × List D) := match d with
  | .lst es => if ds.length + es.length ≤ 1000000 then some (.non, ds ++ es) else none
  | _ => none
def kPop (d : D) (ds : List D) : Option (D × List D) := match d with
  | .int i => if 0 ≤ i ∧ i < 1000000 then (match ds[i.toNat]? with
    | some y => some (y, ds.eraseIdx i.toNat)
    | none => none) else none
  | _ => none
def stD (o i d : D) (ρ : Env) : M Env := match i with
  | .int i => onR o fun ds => match ixN ds.length i with
    | some j => some (ρ, ds.set j d)
    | none => none
  | _ => M.stuck
def gSubD (fo fi : Ev) : Tg := fun d ρ => (noX (fo ρ)).bind fun o => (noX (fi ρ)).bind fun i => stD o i d ρ
/-- the number that stands at a place -/
def getR (o i : D) : M Int := match o, i with
  | .ref n, .int j => fun S => if 0 ≤ j ∧ j < 1000000 then (match S[n]? with
    | some (.lst ds) => (match ds[j.toNat]? with
      | some (.int a) => some (.ok a, S)
      | _ => none)
    | _ => none) else none
  | _, _ => M.stuck
/-- o[i] += e, -= e -/
def sAugS (k : Int → Int → Int) (fo fi fe : Ev) : Sm := sBnd fo fun o => sBnd fi fun i => sBnd (fun _ => getR o i) fun a => sBnd fe fun y => fun ρ S => match y with
  | .int b => sTg (fun d ρ => stD o i d ρ) (.int (k a b)) ρ S
  | _ => none
def sAug (k : Int → Int → Int) (i : Nat) (fe : Ev) : Sm := sBnd (mVar i) fun x => sBnd fe fun y => fun ρ S => match x, y with
  | .int a, .int b => some (.nx (ρ.set i (some (.int (k a b)))), S)
  | _, _ => none
section
variable {K : PySem.W.Frag} {ca : CA}
theorem onR_of {α : Type} {o : D} {k : List D → Option (α × List D)} {S : Store} {r : Rs α × Store} (h : onR o k S = some r) : ∃ n ds a es, o = .ref n ∧ S[n]? = some (.lst ds) ∧ k ds = some (a, es) ∧ r = (.ok a, S.set n (.lst es)) := by
  unfold onR at h
  split at h
  · rename_i n
    split at h
    · rename_i ds hs
      cases q : k ds with
      | none => rw [q] at h; cases h
      | some p => rw [q] at h; cases h; exact ⟨n, ds, p.1, p.2, rfl, hs, by rw [q], rfl⟩
    · cases h
  · cases h
/-- the list at a changed -/
theorem Rel.putL {μ : Mm} {H : Hp} {S : Store} {n : Nat} {a : Addr} {es : List D} {us : List V} (r : Rel K ca μ H S) (hn : μ.l[n]? = some a) (g : VRs K μ H es us) : Ext μ H μ (upd H a (.lst us)) ∧ Rel K ca μ (upd H a (.lst us)) (S.set n (.lst es)) :=
  r.put hn .iLst fun x => ⟨us, upd_same, g.mono r.mu x⟩
theorem isR_of {o : D} {S : Store} {r : Rs Unit × Store} (h : isR o S = some r) : ∃ n ds, o = .ref n ∧ S[n]? = some (.lst ds) ∧ r = (.ok (), S) := by
  unfold isR at h
  split at h
  · split at h
    · rename_i ds hs; cases h; exact ⟨_, ds, rfl, hs, rfl⟩
    · cases h
  · cases h
theorem getR_of {o i : D} {S : Store} {r : Rs Int × Store} (h : getR o i S = some r) : ∃ n j ds a, o = .ref n ∧ i = .int j ∧ 0 ≤ j ∧ j < 1000000 ∧ S[n]? = some (.lst ds) ∧ ds[j.toNat]? = some (.int a) ∧ r = (.ok a, S) := by
  unfold getR at h
  split at h
  · split at h
    · rename_i hj
      split at h
      · rename_i hs
        split at h
        · rename_i hd
          cases h
          exact ⟨_, _, _, _, rfl, rfl, hj.1, hj.2, hs, hd, rfl⟩
        · cases h
      · cases h
    · cases h
  · cases h
theorem stD_of {o i d : D} {ρ : Env} {S : Store} {r : Rs Env × Store} (h : stD o i d ρ S = some r) : ∃ n j ds jj, o = .ref n ∧ i = .int j ∧ S[n]? = some (.lst ds) ∧ ixN ds.length j = some jj ∧ r = (.ok ρ, S.set n (.lst (ds.set jj d))) := by
  unfold stD at h
  split at h
  · obtain ⟨n, ds, ρ', es, rfl, hs, hk, rfl⟩ := onR_of h
    split at hk
    · rename_i jj hjj
      cases hk
      exact ⟨n, _, ds, jj, rfl, rfl, hs, hjj, rfl⟩
    · cases hk
  · cases h
/-- what a method of a list asks, and what is known -/
def MtOk (K : PySem.W.Frag) (r : V → List V → Hp → VK → Prop) (k : D → List D → Option (D × List D)) : Prop := ∀ (μ : Mm) (H : Hp) (a : Addr) (ds es : List D) (vs : List V) (d y : D) (x : V) (Q : VK), H a = some (.lst vs) → VRs K μ H ds vs → VR K μ H d x → k d ds = some (y, es) →
  (∀ us v, VRs K μ H es us → VR K μ H y v → Q v (upd H a (.lst us))) → r (.ref a) [x] H Q
theorem ok_app : MtOk K rAppend kApp := fun μ H a ds es vs d y x Q ho g hd hk q => by
  unfold kApp at hk
  split at hk
  · rename_i hl
    cases hk
    exact ⟨a, vs, x, rfl, rfl, ho, by rw [← g.len]; exact Nat.lt_of_lt_of_le hl (by decide), q _ .non (g.app (.iCons hd .iNil)) .iNon⟩
  · cases hk
theorem ok_ext : MtOk K rExtend kExt := fun μ H a ds es vs d y x Q ho g hd hk q => by
  unfold kExt at hk
  split at hk
  · split at hk
    · rename_i hl
      cases hk
      obtain ⟨b, us, rfl, t, g2⟩ := hd.lst
      exact ⟨a, b, vs, us, rfl, rfl, ho, t.1, by rw [← g.len, ← g2.len]; exact big hl, q _ .non (g.app g2) .iNon⟩
    · cases hk
  · cases hk
theorem ok_pop : MtOk K rPopAt kPop := fun μ H a ds es vs d y x Q ho g hd hk q => by
  unfold kPop at hk
  split at hk
  · rename_i i
    split at hk
    · rename_i hi
      split at hk
      · rename_i y' hy
        cases hk
        obtain ⟨v, h1, h2⟩ := g.get hy
        have hl : i.toNat < vs.length := (List.getElem?_eq_some_iff.mp h1).1
        exact ⟨a, vs, i, i.toNat, v, rfl, by rw [hd.int], ho, by omega, by omega, seqIndex_of hi.1 (by omega), h1, q _ v (g.erase _) h2⟩
      · cases hk
    · cases hk
  · cases hk
end
section
variable {ca : CA} {X : Cx} {W : WX} {o i e : Expr} {fo fi fe : Ev} {pos tpos apos : Pos}
theorem Adq.mt {K : PySem.W.Frag} {to te : TE} {r : V → List V → Hp → VK → Prop} {k : D → List D → Option (D × List D)} (h1 : Adq (rV K) ca W to fo) (h2 : Adq (rV K) ca W te fe) (hk : MtOk K r k) : Adq (rV K) ca W (tBM K "list" r to (tCons te tNil)) (mMt k fo fe) := fun μ σ H ρ S hr he =>
  Aq.bind (R1 := rV K) (t1 := to σ H) (k := fun x H1 (Q : VK) => tyV K "list" x H1 ∧ te σ H1 fun y H2 => r x [y] H2 Q) (h1 μ σ H ρ S hr he) fun d x μ1 H1 S1 e1 r1 x1 => by
    intro res hf Q hp
    unfold M.bind at hf
    cases q : isR d S1 with
    | none => rw [q] at hf; cases hf
    | some z =>
      obtain ⟨n, ds, rfl, hs, rfl⟩ := isR_of q
      rw [q] at hf
      obtain ⟨a, hm, rfl⟩ := VR.ref x1
      obtain ⟨vs, ho, g⟩ := r1.ob n a _ hm hs
      refine ⟨.inl ⟨rfl, vs, .inl (.inl ho)⟩, ?_⟩
      refine (Aq.bind (R1 := rV K) (R2 := rV K) (t1 := te σ H1) (k := fun y H2 (Q : VK) => r (.ref a) [y] H2 Q) (g := fun d => onR (.ref n) (k d)) (h2 μ1 σ H1 ρ S1 r1 (he.mono hr.mu e1)) fun d2 y μ2 H2 S2 e2 r2 x2 => ?_) res hf Q hp
      intro res2 hf2 Q2 hp2
      obtain ⟨n', ds2, y2, es, hn', hs2, hk2, rfl⟩ := onR_of hf2
      cases hn'
      have hm2 := e2.sub hm
      obtain ⟨vs2, ho2, g2⟩ := r2.ob n a _ hm2 hs2
      refine hk μ2 H2 a ds2 es vs2 d2 y2 y Q2 ho2 g2 x2 hk2 fun us v gu gv => ?_
      obtain ⟨x3, r3⟩ := r2.putL hm2 gu
      exact hp2 μ2 _ v x3 r3 (VR.mono r2.mu x3 gv)
theorem de_mt {nm : Str} {id : String} {r : V → List V → Hp → VK → Prop} {k : D → List D → Option (D × List D)} (slot : Slot "list" nm id) (hty : typeOf (.builtin id) = pure (.type "method_descriptor")) (hm : MtR X id r) (hk : MtOk X.K r k) (h1 : DE ca X W o fo) (h2 : DE ca X W e fe)
    (hbase : attributeBase o nm X.env (eval o X.env) = eval o X.env := by rfl)
    (hfew : ((backTo pos (starEach [e] X.env)).all (fun x => !x.1) && (backToKw pos (keywordEach [] X.env)).all (fun x => x.1.isSome) && decide ([e].length + ([] : List Keyword).length + (if ([] : List Keyword).isEmpty then 0 else 1) < 30)) = true := by rfl)
    (hline : (apos.endLine == pos.line) = true := by rfl) (hs : starEach [e] X.env = (false, eval e X.env) :: starEach [] X.env := by rfl) (hplain : (backTo pos (starEach [] X.env)).any (·.1) = false := by rfl) : DE ca X W (.Call (.Attribute o nm apos) [e] [] pos) (mMt k fo fe) := by
  obtain ⟨t, p, q⟩ := h1.ex
  obtain ⟨u, p', q'⟩ := h2.ex
  exact ⟨_, pe_bm PySem.F.plainAttrs_list slot hty hm p (pa_cons p' pa_nil hs) hbase hfew hline hs hplain, Adq.mt q q' hk⟩
theorem dg_sub (h1 : DE ca X W o fo) (h2 : DE ca X W i fi) (ha : ∀ v, assign (.Subscript o i pos) X.env v = (do
      let ov ← holding [v] (eval o X.env)
      let iv ← holding [v, ov] (eval i X.env)
      standAt pos
      holding [v, ov, iv] (setItem ov iv v)
      release [v, ov, iv] []) := by intro _; rfl) : DG ca X (.Subscript o i pos) [] (gSubD fo fi) := by
  obtain ⟨t, p, q⟩ := h1.ex
  obtain ⟨u, p', q'⟩ := h2.ex
  refine ⟨_, pg_sub p p' set_list ha, fun μ σ H ρ S d v r hr he hv hf Q hp => ?_⟩
  obtain ⟨do1, S1, g1, hf⟩ := bind_noX hf
  obtain ⟨di, S2, g2, hf⟩ := bind_noX hf
  refine q μ σ H ρ S hr he _ g1 _ fun μ1 H1 vo e1 r1 x1 => ?_
  refine q' μ1 σ H1 ρ S1 r1 (he.mono hr.mu e1) _ g2 _ fun μ2 H2 vi e2 r2 x2 => ?_
  obtain ⟨n, z, ds, j, rfl, rfl, hs, hj, rfl⟩ := stD_of hf
  obtain ⟨a, hm, rfl⟩ := VR.ref x1
  have hm2 := e2.sub hm
  obtain ⟨vs, ho, g⟩ := r2.ob n a _ hm2 hs
  have gs := g.set ((hv.mono hr.mu e1).mono r1.mu e2) j
  obtain ⟨x3, r3⟩ := r2.putL hm2 gs
  refine ⟨a, vs, z, j, rfl, VR.int x2, ho, by rw [← g.len]; exact hj, ?_⟩
  exact hp μ2 _ σ ((e1.trans e2).trans x3) r3 (((he.mono hr.mu e1).mono r1.mu e2).mono r2.mu x3) (fun _ _ => rfl) rfl
def rGet0 (K : PySem.W.Frag) : V → V → Hp → VK → Prop := fun x y H Q => ∃ p xs i v, x = .ref p ∧ y = .int i ∧ SqL K H p xs ∧ 0 ≤ i ∧ i < 1000000 ∧ xs[i.toNat]? = some v ∧ Q v H
theorem get0 : PGet X (rGet0 X.K) := by
  intro pins s σ H x y v u Q I rx ry h
  obtain ⟨p, xs, i, z, rfl, rfl, hq, h0, h1, he, q⟩ := h
  cases rx
  obtain ⟨t, rfl⟩ := ry
  obtain ⟨its, r, pl, hz⟩ := I.list hq
  obtain ⟨w, ew, rw'⟩ := r.get he
  exact wpAny_getItem_list pl.isList h0 (by omega) (by simpa using ew) ⟨z, H, I, rw', q⟩
/-- o[i] op= e -/
theorem ds_augS {op : Operator} {k : Int → Int → Int} (hop : PIp X op (ipI k)) (h1 : DE ca X W o fo) (h2 : DE ca X W i fi) (h3 : DE ca X W e fe)
    (ha : ∀ ov iv new, augStore i ov iv new = (do holding [new, ov, iv] (setItem ov iv new); release [new, ov, iv] []; pure .next) := by intros; rfl) : DS ca X W (.AugAssign (.Subscript o i tpos) op e pos) (sAugS k fo fi fe) := by
  obtain ⟨t, p, q⟩ := h1.ex
  obtain ⟨u, p', q'⟩ := h2.ex
  obtain ⟨v, p'', q''⟩ := h3.ex
  refine ⟨_, ps_augS p p' get0 p'' hop set_list ha, fun μ σ H ρ S r hr he hf E hp => sBnd_of (R := rV X.K) q hr he hf hp fun d1 x1 μ1 H1 S1 e1 r1 E1 y1 hk hp1 => ?_⟩
  refine sBnd_of (R := rV X.K) q' r1 E1 hk hp1 fun d2 x2 μ2 H2 S2 e2 r2 E2 y2 hk hp2 => ?_
  have y1' := VR.mono r1.mu e2 y1
  have hk0 := hk
  unfold sBnd at hk
  cases z : getR d1 d2 S2 with
  | none => simp only [z] at hk; cases hk
  | some rr =>
    obtain ⟨n, j, ds, a, rfl, rfl, h0, h9, hs, hd, rfl⟩ := getR_of z
    simp only [z] at hk
    obtain ⟨ad, hm, rfl⟩ := VR.ref y1'
    obtain ⟨vs, ho, g⟩ := r2.ob n ad _ hm hs
    obtain ⟨w, w1, w2⟩ := g.get hd
    refine ⟨ad, vs, j, w, rfl, VR.int y2, .inl (.inl ho), h0, h9, w1, ?_⟩
    refine sBnd_of (R := rV X.K) (k := fun y => fun ρ S => match y with
      | .int b => sTg (fun d ρ => stD (.ref n) (.int j) d ρ) (.int (k a b)) ρ S
      | _ => none) q'' r2 E2 hk hp2 fun d4 x4 μ4 H4 S4 e4 r4 E4 y4 hk4 hp4 => ?_
    split at hk4
    · rename_i b
      unfold sTg at hk4
      split at hk4
      · rename_i ρ5 S5 h5
        cases hk4
        obtain ⟨n', j', ds5, jj, hn', hj', hs5, hjj, e5⟩ := stD_of h5
        cases hn'; cases hj'; cases e5
        have hm4 := e4.sub hm
        obtain ⟨vs5, ho5, g5⟩ := r4.ob n ad _ hm4 hs5
        obtain ⟨x6, r6⟩ := r4.putL hm4 (g5.set (VR.iInt (i := k a b)) jj)
        refine ⟨a, b, VR.int w2, VR.int y4, ad, vs5, j, jj, rfl, VR.int y2, ho5, by rw [← g5.len]; exact hjj, ?_⟩
        exact hp4 μ4 _ σ x6 r6 (E4.mono r4.mu x6)
      · cases hk4
    · cases hk4
/-- x op= e -/
theorem ds_aug (i : Nat) {x : Str} {op : Operator} {k : Int → Int → Int} {pos' : Pos} (hN : X.N.Nodup) (hop : PIp X op (ipI k)) (h : DE ca X W e fe) (hi : X.N[i]? = some x := by rfl) (hx : Loc X.env.scope x := by first | exact Or.inl rfl | exact Or.inr rfl) (hf : X.fn x = true ∨ X.env.scope.names.lookup x = some .local := by first | exact .inl rfl | exact .inr rfl) :
    DS ca X W (.AugAssign (.Name x pos') op e pos) (sAug k i fe) := by
  obtain ⟨t, p, q⟩ := h.ex
  refine ⟨_, ps_aug hN hi hx p hop hf, fun μ σ H ρ S r hr he hf E hp => ?_⟩
  show tVar i σ H (fun x H => t σ H fun y H1 => ipI k x y H1 fun z H2 => E.nx (σ.set i (some z)) H2)
  refine sBnd_of (R := rV X.K) (Adq.v (i := i)) hr he hf hp fun d1 x1 μ1 H1 S1 e1 r1 E1 y1 hk hp1 => ?_
  refine sBnd_of (R := rV X.K) q r1 E1 hk hp1 fun d2 x2 μ2 H2 S2 e2 r2 E2 y2 hk2 hp2 => ?_
  split at hk2
  · cases hk2
    exact ⟨_, _, VR.int y1, VR.int y2, hp2 μ2 H2 _ r2.refl r2 (E2.set i .iInt)⟩
  · cases hk2
end
end Tl
set_option Elab.async false
set_option linter.all false
set_option maxRecDepth 100000
set_option maxHeartbeats 4000000
set_option autoImplicit false
namespace Tl
open PySem L2 PySem.Spec PyProof.Rows RZ

/-- a statement that is not come to -/
def sNo : Sm := fun _ _ => none
theorem ds_never {ca : CA} {X : Cx} {W : WX} {st : Stmt} : DS ca X W st sNo := ⟨_, ps_never, fun μ σ H ρ S r hr he hf E hp => nomatch hf⟩
theorem ds_doc {ca : CA} {X : Cx} {W : WX} {x : Str} {j : Nat} {p p' : Pos} : DS ca X W (.Expr (.Constant (.str x) j p) p') sSkip := ⟨_, ps_doc, fun μ σ H ρ S r hr he hf E hp => by cases hf; exact hp μ H σ hr.refl hr he⟩

/-! ### fields -/
def putD (f : Str) (d : D) : List (Str × D) → List (Str × D)
  | [] => [(f, d)]
  | (g, x) :: r => if g = f then (g, d) :: r else (g, x) :: putD f d r
theorem FR.put {K : PySem.W.Frag} {μ : Mm} {H : Hp} {f : Str} {d : D} {v : V} (hv : VR K μ H d v) : ∀ {fs : List (Str × D)} {vf : List (Str × V)}, FR K μ H fs vf → FR K μ H (putD f d fs) (putF f v vf)
  | [], [], _ => ⟨rfl, .iCons hv .iNil⟩
  | [], _ :: _, h => nomatch h.1
  | _ :: _, [], h => nomatch h.1
  | (m, x) :: fs, (m', y) :: vf, ⟨h, g⟩ => by
    simp only [List.map_cons, List.cons.injEq] at h
    obtain ⟨h1, h2⟩ := h
    subst h1
    obtain ⟨w, r, e1, g1, g2⟩ := VRs.cons g
    have e1 : y :: vf.map (·.2) = w :: r := e1
    cases e1
    show FR K μ H (if m = f then (m, d) :: fs else (m, x) :: putD f d fs) (if m = f then (m, v) :: vf else (m, y) :: putF f v vf)
    by_cases hm : m = f
    · rw [if_pos hm, if_pos hm]
      exact ⟨by simp [h2], .iCons hv g2⟩
    · rw [if_neg hm, if_neg hm]
      obtain ⟨i1, i2⟩ := FR.put hv (f := f) (fs := fs) (vf := vf) ⟨h2, g2⟩
      exact ⟨by simp [i1], .iCons g1 i2⟩
theorem FR.len {K : PySem.W.Frag} {μ : Mm} {H : Hp} {fs : List (Str × D)} {vf : List (Str × V)} (h : FR K μ H fs vf) : fs.length = vf.length := by
  have := congrArg List.length h.1
  simpa using this
/-- o.f = e -/
def sFldS (c : Nat) (f : Str) (fo fe : Ev) : Sm := sBnd fe fun d => sBnd fo fun o => fun ρ S => match o with
  | .ref n => (match S[n]? with
    | some (.ins c' fs) => if c' = c ∧ fs.length < 900 then some (.nx ρ, S.set n (.ins c (putD f d fs))) else none
    | _ => none)
  | _ => none
section
variable {ca : CA} {X : Cx} {W : WX} {o e : Expr} {fo fe : Ev} {pos pos' : Pos}
theorem ds_fldS {c : Nat} {f : Str} (hc : Cls X.K (ca c)) (hn : NoAttr X.K (ca c) f) (h1 : DE ca X W o fo) (h2 : DE ca X W e fe) (hs : swapsWith e (some (.Attribute o f pos')) pos.line X.env = pure false := by rfl) : DS ca X W (.Assign [.Attribute o f pos'] e pos) (sFldS c f fo fe) := by
  obtain ⟨t, p, q⟩ := h1.ex
  obtain ⟨u, p', q'⟩ := h2.ex
  refine ⟨_, ps_fld p p' hs, fun μ σ H ρ S r hr he hf E hp => sBnd_of (R := rV X.K) q' hr he hf hp fun d1 v1 μ1 H1 S1 e1 r1 E1 y1 hk hp1 => ?_⟩
  refine sBnd_of (R := rV X.K) q r1 E1 hk hp1 fun d2 v2 μ2 H2 S2 e2 r2 E2 y2 hk2 hp2 => ?_
  split at hk2
  · rename_i n
    split at hk2
    · rename_i c' fs hs2
      split at hk2
      · rename_i hcc
        cases hk2
        obtain ⟨rfl, hl⟩ := hcc
        obtain ⟨a, hm, rfl⟩ := VR.ref y2
        obtain ⟨dx, vf, ho, g⟩ := r2.ob n a _ hm hs2
        refine ⟨a, _, dx, vf, rfl, ho, hc, hn, by rw [← FR.len g]; omega, ?_⟩
        have y1' := VR.mono r1.mu e2 y1
        obtain ⟨x3, r3⟩ := r2.put (o := .ins (ca c') dx (putF f v1 vf)) (u := .ins c' (putD f d1 fs)) hm .iIns fun x => ⟨dx, _, upd_same, (FR.put y1' g).mono r2.mu x⟩
        exact hp2 μ2 _ σ x3 r3 (E2.mono r2.mu x3)
      · cases hk2
    · cases hk2
  · cases hk2
end
end Tl
set_option Elab.async false
set_option linter.all false
set_option maxRecDepth 100000
set_option maxHeartbeats 4000000
set_option autoImplicit false
namespace Tl
open PySem L2 PySem.Spec PyProof.Rows RZ

/-! ### a list made by a comprehension that may change afterwards -/
section
variable {K : PySem.W.Frag} {ca : CA} {l z : List Addr} {t : Tk} {p : Addr} {H : Hp}
mutual
theorem VR0.adopt : ∀ {d : D} {v : V}, VR0 K ⟨l, p :: z, t⟩ H d v → VR0 K ⟨l ++ [p], z, t⟩ H d v
  | .non, _, h => h
  | .bl _, _, h => h
  | .int _, _, h => h
  | .str _, _, h => h
  | .tup ds, v, h => by
    unfold VR0 at h ⊢
    obtain ⟨a, vs, r, t, q⟩ := h
    exact ⟨a, vs, r, t, VRs0.adopt q⟩
  | .lst ds, v, h => by
    unfold VR0 at h ⊢
    obtain ⟨a, vs, r, ⟨t1, t2, t3⟩, q⟩ := h
    refine ⟨a, vs, r, ⟨t1, fun hm => ?_, fun hm => t3 (List.mem_cons_of_mem _ hm)⟩, VRs0.adopt q⟩
    rcases List.mem_append.mp hm with h | h
    · exact t2 h
    · exact t3 (by rw [show a = p by simpa using h]; exact List.mem_cons_self)
  | .scr ns, v, h => by
    unfold VR0 at h ⊢
    obtain ⟨a, r, q⟩ := h
    refine ⟨a, r, ?_⟩
    rcases q with ⟨t1, t2, t3⟩ | ⟨o, t⟩ | t
    · refine .inl ⟨t1, fun hm => ?_, fun hm => t3 (List.mem_cons_of_mem _ hm)⟩
      rcases List.mem_append.mp hm with h | h
      · exact t2 h
      · exact t3 (by rw [show a = p by simpa using h]; exact List.mem_cons_self)
    · exact .inr (.inl ⟨o, t⟩)
    · exact .inr (.inr t)
  | .dct, v, h => by
    unfold VR0 at h ⊢
    obtain ⟨a, r, t2, t3, q⟩ := h
    refine ⟨a, r, fun hm => ?_, fun hm => t3 (List.mem_cons_of_mem _ hm), q⟩
    rcases List.mem_append.mp hm with h | h
    · exact t2 h
    · exact t3 (by rw [show a = p by simpa using h]; exact List.mem_cons_self)
  | .ref n, v, h => by
    unfold VR0 at h ⊢
    obtain ⟨a, t, q⟩ := h
    refine ⟨a, ?_, q⟩
    show (l ++ [p])[n]? = some a
    rw [List.getElem?_append_left (List.getElem?_eq_some_iff.mp t).1]; exact t
  | .fn n, v, h => by
    unfold VR0 at h ⊢
    exact h
  | .thk f c q vs ds, v, h => by
    unfold VR0 at h ⊢
    obtain ⟨h1, h2, h3⟩ := h
    exact ⟨h1, h2, VRs0.adopt h3⟩
theorem VRs0.adopt : ∀ {ds : List D} {vs : List V}, VRs0 K ⟨l, p :: z, t⟩ H ds vs → VRs0 K ⟨l ++ [p], z, t⟩ H ds vs
  | [], _, h => by unfold VRs0 at h ⊢; exact h
  | d :: ds, vs, h => by
    unfold VRs0 at h ⊢
    obtain ⟨v, r, q, h1, h2⟩ := h
    exact ⟨v, r, q, VR0.adopt h1, VRs0.adopt h2⟩
end
theorem VRs.adopt {ds : List D} {vs : List V} (h : VRs K ⟨l, p :: z, t⟩ H ds vs) : VRs K ⟨l ++ [p], z, t⟩ H ds vs := by
  unfold VRs at h ⊢; exact VRs0.adopt h
theorem Rel.adopt {S : Store} {ds : List D} {us : List V} (r : Rel K ca ⟨l, p :: z, t⟩ H S) (hl : p ∉ l) (ho : H p = some (.lst us)) (g : VRs K ⟨l, p :: z, t⟩ H ds us) : Rel K ca ⟨l ++ [p], z, t⟩ H (S ++ [.lst ds]) := by
  refine ⟨by have := r.len; simp at this; simp [this], ?_, fun n a o h1 h2 => ?_, fun a h => r.hid a (List.mem_cons_of_mem _ h), r.tb, r.fe⟩
  · rw [List.nodup_append]
    refine ⟨r.nd, by simp, fun a ha b hb => ?_⟩
    have e : b = p := by simpa using hb
    subst e; intro e; subst e; exact hl ha
  · have h1 : (l ++ [p])[n]? = some a := h1
    have hlen : l.length = S.length := r.len
    by_cases hn : n < l.length
    · rw [List.getElem?_append_left hn] at h1
      rw [List.getElem?_append_left (by omega)] at h2
      have := r.ob n a o h1 h2
      cases o with
      | lst es => obtain ⟨vs, h, q⟩ := this; exact ⟨vs, h, q.adopt⟩
      | ins c fs => obtain ⟨dx, vf, h, q1, q2⟩ := this; exact ⟨dx, vf, h, q1, q2.adopt⟩
      | dic kvs => obtain ⟨xs, h, q⟩ := this; exact ⟨xs, h, q.imp fun _ _ z => by unfold VR at z ⊢; exact VR0.adopt z⟩
    · have hn' : n = l.length := by
        have := (List.getElem?_eq_some_iff.mp h1).1
        simp at this; omega
      subst hn'
      rw [List.getElem?_append_right (Nat.le_refl _)] at h1
      rw [hlen, List.getElem?_append_right (Nat.le_refl _)] at h2
      simp at h1 h2
      subst h1; subst h2
      exact ⟨us, ho, g.adopt⟩
/-- the made list as a thing that may change -/
def thaw (m : M D) : M D := fun S => match m S with
  | some (.ok (.lst ds), S') => some (.ok (.ref S'.length), S' ++ [.lst ds])
  | some (.exc c fs, S') => some (.exc c fs, S')
  | _ => none
def mLcR (it : Env → M Src) (g : Tg) (tt te : Ev) (vs : List Nat) : Ev := fun ρ => (it ρ).bind fun s => thaw (lcGo s g tt te (wipeD ρ vs) s.n 0 [])
end
section
variable {K : PySem.W.Frag} {ca : CA} {is vs : List Nat} {g : TG} {f : Tg} {tt : TT} {te : TE} {ft fe : Ev}
/-- what the loop comes to is a list -/
theorem lcGo_ok {s : Src} {ρ : Env} : ∀ {m i : Nat} {acc : List D} {S : Store} {r : Rs D × Store}, lcGo s f ft fe ρ m i acc S = some r → ∃ ds S', r = (.ok (.lst ds), S')
  | 0, i, acc, S, r, h => by
    have h : (if s.fin S = true then some ((Rs.ok (.lst acc) : Rs D), S) else none) = some r := h
    split at h
    · cases h; exact ⟨acc, S, rfl⟩
    · cases h
  | m + 1, i, acc, S, r, hf => by
    have hf : (match s.rd S i with
      | none => none
      | some d => ((noX (f d ρ)).bind fun ρ2 => (noX (ft ρ2)).bind fun b => match b with
        | .bl true => (noX (fe ρ2)).bind fun y => if acc.length < 1000000 then lcGo s f ft fe ρ m (i + 1) (acc ++ [y]) else M.stuck
        | .bl false => lcGo s f ft fe ρ m (i + 1) acc
        | _ => M.stuck) S) = some r := hf
    split at hf
    · cases hf
    · obtain ⟨ρ2, S2, g1, hf⟩ := bind_noX hf
      obtain ⟨b, S3, g2, hf⟩ := bind_noX hf
      split at hf
      · obtain ⟨y, S4, g3, hf⟩ := bind_noX hf
        split at hf
        · exact lcGo_ok hf
        · cases hf
      · exact lcGo_ok hf
      · cases hf
theorem Adq.lcR {wi : TI} {it : Env → M Src} {W : WX} (hi : Adq (rI' K ca) ca W wi it) (hg : AdqG K ca is g f) (his : ∀ i ∈ is, i ∈ vs) (ht : Adq (rB K) ca W0 tt ft) (he : Adq (rV K) ca W0 te fe) : Adq (rV K) ca W (tLc wi g tt te vs) (mLcR it f ft fe vs) := by
  intro μ σ H ρ S hr hE
  refine Aq.bind (R1 := rI' K ca) (R2 := rV K) (t1 := wi σ H) (k := fun J H1 (Q : VK) => ∀ D, H1 D = none → ∃ W : Nat → Nat → Hp → Prop, (∃ m, W 0 m (upd H1 D (.lst []))) ∧ ∀ i m H, W i m H →
    (J.stop i H ∧ Q (.ref D) H) ∨ (J.go i H ∧ ∃ Nx : Hp → Prop, (∀ H', Nx H' → ∃ m', m' < m ∧ W (i + 1) m' H') ∧ ∀ x H', J.yld i H x H' → g x (L2.wipe σ vs) H' fun σ2 H2 => L2.wipe σ2 vs = L2.wipe σ vs ∧ tt σ2 H2 fun b H3 =>
      if b = true then te σ2 H3 fun y H4 => ∃ acc, H4 D = some (.lst acc) ∧ acc.length < sizeLine ∧ Nx (upd H4 D (.lst (acc ++ [y]))) else Nx H3)) (hi μ σ H ρ S hr hE) fun s J μ1 H1 S1 e1 r1 o => ?_
  have hE1 : ER K μ1 H1 (wipeD ρ vs) (L2.wipe σ vs) := (hE.mono hr.mu e1).wipe vs
  intro r hf Q hp p hpn
  unfold thaw at hf
  cases hq : lcGo s f ft fe (wipeD ρ vs) s.n 0 [] S1 with
  | none => rw [hq] at hf; cases hf
  | some r0 =>
  obtain ⟨dsF, SF, rfl⟩ := lcGo_ok hq
  rw [hq] at hf
  cases (show some ((Rs.ok (.ref SF.length) : Rs D), SF ++ [SO.lst dsF]) = some r from hf)
  have hf := hq
  have hpz : p ∉ μ1.z := (r1.mu.not hpn).2
  refine ⟨fun i m H => ∃ μ acc us S, i + m = s.n ∧ Mk1 K ca μ1 H1 p acc H S μ us ∧ lcGo s f ft fe (wipeD ρ vs) m i acc S = some (.ok (.lst dsF), SF), ⟨s.n, ?_⟩, ?_⟩
  · obtain ⟨x, r2⟩ := r1.hide (vs := []) hpn
    exact ⟨μ1.hide p, [], [], S1, by omega, ⟨x, fun a o h n _ => by rw [upd_ne (ne_of_none h hpn)]; exact h, r2, rfl, (r1.mu.not hpn).1, upd_same, .iNil⟩, hf⟩
  · rintro i m H ⟨μ, acc, us, S, hn, k, hf⟩
    cases m with
    | zero =>
      have hf : (if s.fin S = true then some ((Rs.ok (.lst acc) : Rs D), S) else none) = some (.ok (.lst dsF), SF) := hf
      split at hf
      · rename_i hfin
        cases hf
        have hin : i = s.n := by omega
        subst hin
        refine .inl ⟨o.stop μ H _ k.evo k.rel hfin, ?_⟩
        obtain ⟨l, z, t⟩ := μ
        have hz : z = p :: μ1.z := k.z
        subst hz
        have r2 := k.rel.adopt k.l k.at_ k.vr
        obtain ⟨ν, a1, a2⟩ := k.evo.app
        refine hp ⟨l ++ [p], μ1.z, t⟩ H (.ref p) ⟨⟨ν ++ [p], by show l ++ [p] = μ1.l ++ (ν ++ [p]); rw [← List.append_assoc]; exact congrArg (· ++ [p]) a1, fun a ha => ?_⟩, rfl, k.keep, k.evo.tt, k.evo.kt, r2.mu⟩ r2 ?_
        · rcases List.mem_append.mp ha with h | h
          · exact a2 a h
          · rw [show a = p by simpa using h]; exact .of hpn
        · refine VR.iRef ?_
          show (l ++ [p])[SF.length]? = some p
          rw [show SF.length = l.length from k.rel.len.symm, List.getElem?_append_right (Nat.le_refl _)]
          simp
      · cases hf
    | succ m =>
      have hf : (match s.rd S i with
        | none => none
        | some d => ((noX (f d (wipeD ρ vs))).bind fun ρ2 => (noX (ft ρ2)).bind fun b => match b with
          | .bl true => (noX (fe ρ2)).bind fun y => if acc.length < 1000000 then lcGo s f ft fe (wipeD ρ vs) m (i + 1) (acc ++ [y]) else M.stuck
          | .bl false => lcGo s f ft fe (wipeD ρ vs) m (i + 1) acc
          | _ => M.stuck) S) = some (.ok (.lst dsF), SF) := hf
      split at hf
      · cases hf
      · rename_i d hd
        obtain ⟨ρ2, S2, g1, hf⟩ := bind_noX hf
        obtain ⟨b, S3, g2, hf⟩ := bind_noX hf
        obtain ⟨go, yl⟩ := o.go μ H S i d k.evo k.rel (by omega) hd
        refine .inr ⟨go, fun H' => ∃ μ acc us S, i + 1 + m = s.n ∧ Mk1 K ca μ1 H1 p acc H' S μ us ∧ lcGo s f ft fe (wipeD ρ vs) m (i + 1) acc S = some (.ok (.lst dsF), SF), fun H' w => ⟨m, Nat.lt_succ_self _, w⟩, fun x H' y => ?_⟩
        obtain ⟨e2, r2, v2⟩ := yl x H' y
        have k2 := k.ext e2 r2
        have hE2 : ER K μ H' (wipeD ρ vs) (L2.wipe σ vs) := hE1.monoE r1.mu k2.evo
        refine hg μ _ H' _ S d x _ r2 hE2 v2 g1 _ fun μ3 H3 σ3 e3 r3 E3 k3 l3 => ⟨wipe_eq his l3 k3, ?_⟩
        have k4 := k2.ext e3 r3
        refine ht μ3 σ3 H3 ρ2 S2 r3 E3 _ g2 _ fun μ5 H5 bb e5 r5 x5 => ?_
        have x5 : b = .bl bb := x5
        subst x5
        have k6 := k4.ext e5 r5
        cases bb with
        | false =>
          rw [if_neg Bool.false_ne_true]
          exact ⟨μ5, acc, us, S3, by omega, k6, hf⟩
        | true =>
          rw [if_pos rfl]
          obtain ⟨y, S4, g3, hf⟩ := bind_noX hf
          split at hf
          · rename_i hl
            refine he μ5 σ3 H5 ρ2 S3 r5 (E3.mono r3.mu e5) _ g3 _ fun μ7 H7 v7 e7 r7 x7 => ?_
            have k8 := k6.ext e7 r7
            refine ⟨us, k8.at_, by rw [← k.vr.len]; exact Nat.lt_of_lt_of_le hl (by decide), μ7, _, _, S4, by omega, k8.grow hpn x7, hf⟩
          · cases hf
end
section
variable {ca : CA} {X : Cx} {W : WX} {elt tg iter e : Expr} {ifs : List Expr} {scope : Scope} {pos : Pos} {it : Env → M Src} {g : Tg} {f ft fe : Ev} {is : List Nat}
theorem de_lcR (own : List (Str × Nat)) (hc : X.calm = true) (hN : X.N.Nodup) (ok : BlkOk X.N X.env.scope scope own) (hi : DI ca X W tg iter it)
    (hg : ∀ (s : Shared) (H : Hp) (C : Addr) (cl : List (Str × Addr)) (fp : List Addr), DG ca (X.blk s H scope (compEnvC scope cl C X.env) fp) tg is g) (his : ∀ i ∈ is, i ∈ own.map (·.2))
    (ht : ∀ (s : Shared) (H : Hp) (C : Addr) (cl : List (Str × Addr)) (fp : List Addr), DTs ca (X.blk s H scope (compEnvC scope cl C X.env) fp) W0 ifs ft)
    (he : ∀ (s : Shared) (H : Hp) (C : Addr) (cl : List (Str × Addr)) (fp : List Addr), DE ca (X.blk s H scope (compEnvC scope cl C X.env) fp) W0 elt fe)
    (hs : ∀ x, foldedSetIterable iter X.env x = pure x := by intro _; rfl) : DE ca X W (.ListComp elt [⟨tg, iter, ifs, 0⟩] scope pos) (mLcR it g ft fe (own.map (·.2))) :=
  ⟨_, pe_lc hc hN hi.can ok (fun s H C cl fp => (hg s H C cl fp).can) (fun s H C cl fp => (ht s H C cl fp).can) (fun s H C cl fp => (he s H C cl fp).can) hs, Adq.lcR Adq.of AdqG.of his Adq.of Adq.of⟩
theorem ds_setLcR (i : Nat) {x : Str} {pos' : Pos} (own : List (Str × Nat)) {spos : Pos} (hc : X.calm = true) (hN : X.N.Nodup) (hi : X.N[i]? = some x) (hx : X.env.scope.names.lookup x = some .local)
    (hsw : swapsWith (.ListComp elt [⟨tg, iter, ifs, 0⟩] scope pos) (some (.Name x pos')) spos.line X.env = pure true) (ok : BlkOk X.N X.env.scope scope own) (hit : DI ca X W tg iter it)
    (hg : ∀ (s : Shared) (H : Hp) (C : Addr) (cl : List (Str × Addr)) (fp : List Addr), DG ca (X.blk s H scope (compEnvC scope cl C X.env) fp) tg is g) (his : ∀ i ∈ is, i ∈ own.map (·.2))
    (ht : ∀ (s : Shared) (H : Hp) (C : Addr) (cl : List (Str × Addr)) (fp : List Addr), DTs ca (X.blk s H scope (compEnvC scope cl C X.env) fp) W0 ifs ft)
    (he : ∀ (s : Shared) (H : Hp) (C : Addr) (cl : List (Str × Addr)) (fp : List Addr), DE ca (X.blk s H scope (compEnvC scope cl C X.env) fp) W0 elt fe)
    (hs : ∀ x, foldedSetIterable iter X.env x = pure x := by intro _; rfl) : DS ca X W (.Assign [.Name x pos'] (.ListComp elt [⟨tg, iter, ifs, 0⟩] scope pos) spos) (sAsg (mLcR it g ft fe (own.map (·.2))) (gNm i)) := by
  refine ⟨_, ps_setLc hc hN hi hx hsw hit.can ok (fun s H C cl fp => (hg s H C cl fp).can) (fun s H C cl fp => (ht s H C cl fp).can) (fun s H C cl fp => (he s H C cl fp).can) hs, fun μ σ H ρ S r hr he hf E hp => sBnd_of (R := rV X.K) (Adq.lcR Adq.of AdqG.of his Adq.of Adq.of) hr he hf hp fun d v μ1 H1 S1 e1 r1 E1 x1 hk hp1 => ?_⟩
  cases hk
  exact hp1 μ1 H1 _ r1.refl r1 (E1.set i x1)
def mNeg (f : Ev) : Ev := fun ρ => (f ρ).bind fun d => match d with
  | .int i => M.ret (.int (-i))
  | _ => M.stuck
theorem de_neg (h : DE ca X W e f) : DE ca X W (.UnaryOp .USub e pos) (mNeg f) := by
  obtain ⟨t, p, q⟩ := h.ex
  refine ⟨_, pe_un un_neg p, fun μ σ H ρ S hr he => Aq.bind (R1 := rV X.K) (t1 := t σ H) (k := fun x H1 (Q : VK) => ∃ i, x = .int i ∧ Q (.int (-i)) H1) (q μ σ H ρ S hr he) fun d x μ1 H1 S1 e1 r1 x1 => ?_⟩
  split
  · exact (Aq.ret (R := rV X.K) r1 VR.iInt).imp fun Q z => ⟨_, VR.int x1, z⟩
  · exact Aq.stuck
theorem dgn (i : Nat) {x : Str} (hN : X.N.Nodup) (hi : X.N[i]? = some x := by rfl) (hx : Loc X.env.scope x := by first | exact Or.inl rfl | exact Or.inr rfl) (hf : X.fn x = true ∨ X.env.scope.names.lookup x = some .local := by first | exact .inl rfl | exact .inr rfl) : DG ca X (.Name x pos) [i] (gNm i) := dg_name i hN hi hx hf
end
end Tl
set_option Elab.async false
set_option linter.all false
set_option maxRecDepth 100000
set_option maxHeartbeats 4000000
set_option autoImplicit false
namespace Tl
open PySem L2 PySem.Spec PyProof.Rows RZ HT

/-! ### while, as far as it goes -/
theorem whGo_more {c : Ev} {b : Sm} : ∀ {m : Nat} {ρ : Env} {S : Store} {r : Fl × Store}, whGo c b m ρ S = some r → ∀ j, whGo c b (m + j) ρ S = some r
  | 0, ρ, S, r, h, j => nomatch h
  | m + 1, ρ, S, r, h, j => by
    rw [Nat.succ_add]
    unfold whGo at h ⊢
    unfold sBnd at h ⊢
    cases q : c ρ S with
    | none => rw [q] at h; cases h
    | some z =>
      obtain ⟨z, S1⟩ := z
      rw [q] at h
      cases z with
      | exc c' fs => exact h
      | ok d =>
        dsimp only at h ⊢
        split at h
        · cases z : b ρ S1 with
          | none => rw [z] at h; cases h
          | some r3 =>
            rw [z] at h
            obtain ⟨r3, S3⟩ := r3
            cases r3 with
            | nx ρ2 => exact whGo_more (m := m) h j
            | ct ρ2 => exact whGo_more (m := m) h j
            | bk ρ2 => exact h
            | rt d => exact h
            | ex c' fs ρ2 => exact h
        · exact h
        · cases h
open Classical in
noncomputable def sWhile (c : Ev) (b : Sm) : Sm := fun ρ S => if h : ∃ r m, whGo c b m ρ S = some r then some h.choose else none
theorem sWhile_is {c : Ev} {b : Sm} {m : Nat} {ρ : Env} {S : Store} {r : Fl × Store} (h : whGo c b m ρ S = some r) : sWhile c b ρ S = some r := by
  unfold sWhile
  have hx : ∃ r m, whGo c b m ρ S = some r := ⟨r, m, h⟩
  rw [dif_pos hx]
  obtain ⟨m', h'⟩ := hx.choose_spec
  have e1 := whGo_more h m'
  have e2 := whGo_more h' m
  rw [Nat.add_comm] at e2
  rw [e1] at e2
  exact e2.symm ▸ rfl
section
variable {ca : CA} {X : Cx} {W : WX} {c : Expr} {b : List Stmt} {pos : Pos} {fc : Ev} {f : Sm}
theorem ds_wh (hp : PassesOwn (model X.prog X.w) X.A X.env X.xe) (hc : DT ca X W c fc) (hb : DSs ca X W b f) : DS ca X W (.While c b [] pos) (sWhile fc f) := by
  obtain ⟨wi, p, q⟩ := hc.ex
  obtain ⟨t, pb, qb⟩ := hb.ex
  refine ⟨_, ps_while hp p pb, fun μ1 σ H1 ρ S r r1 he hf E hp1 => ?_⟩
  unfold sWhile at hf
  split at hf
  · rename_i hx
    obtain ⟨n, hn⟩ := hx.choose_spec
    rw [Option.some.inj hf] at hn
    clear hf
    have hf := hn
    refine ⟨fun m σ H => ∃ μ ρ S, Ext μ1 H1 μ H ∧ Rel X.K ca μ H S ∧ ER X.K μ H ρ σ ∧ whGo fc f m ρ S = some r, ⟨n, μ1, ρ, S, r1.refl, r1, he, hf⟩, ?_⟩
    rintro m σ H ⟨μ, ρ, S, e, rl, er, hf⟩
    cases m with
    | zero => cases hf
    | succ m =>
      refine sBnd_of (R := rB X.K) q rl er (hf : sBnd fc _ ρ S = some r) (hp1.ext e) fun d k μ2 H2 S2 e2 r2 E2 x2 hk hp2 => ?_
      have x2 : d = .bl k := x2
      subst x2
      cases k with
      | false =>
        rw [if_neg Bool.false_ne_true]
        cases (show some (Fl.nx ρ, S2) = some r from hk)
        exact hp2 μ2 H2 σ r2.refl r2 E2
      | true =>
        rw [if_pos rfl]
        refine ⟨fun σ' H' => ∃ μ ρ S, Ext μ1 H1 μ H' ∧ Rel X.K ca μ H' S ∧ ER X.K μ H' ρ σ' ∧ whGo fc f m ρ S = some r, fun σ' H' w => ⟨m, Nat.lt_succ_self _, w⟩, ?_⟩
        have hk : (match f ρ S2 with
          | some (.nx ρ2, S2) => whGo fc f m ρ2 S2
          | some (.ct ρ2, S2) => whGo fc f m ρ2 S2
          | some (.bk ρ2, S2) => some (.nx ρ2, S2)
          | r => r) = some r := hk
        cases z : f ρ S2 with
        | none => rw [z] at hk; cases hk
        | some r3 =>
          rw [z] at hk
          refine qb μ2 σ H2 ρ S2 r3 r2 E2 z _ ?_
          have e6 := e.trans e2
          obtain ⟨r3, S3⟩ := r3
          cases r3 with
          | nx ρ' => exact fun μ7 H7 σ7 e7 r7 E7 => ⟨μ7, ρ', S3, e6.trans e7, r7, E7, hk⟩
          | ct ρ' => exact fun μ7 H7 σ7 e7 r7 E7 => ⟨μ7, ρ', S3, e6.trans e7, r7, E7, hk⟩
          | bk ρ' => cases hk; exact fun μ7 H7 σ7 e7 r7 E7 => hp1 μ7 H7 σ7 (e6.trans e7) r7 E7
          | rt d => cases hk; exact fun μ7 H7 v7 e7 r7 E7 => hp1 μ7 H7 v7 (e6.trans e7) r7 E7
          | ex c fs ρ' => cases hk; exact fun μ7 H7 σ7 dd e7 r7 E7 x7 => hp1 μ7 H7 σ7 dd (e6.trans e7) r7 E7 x7
  · cases hf
end

/-! ### t[::-1] -/
section
variable {prog : Program} {w : World} {A : Around} {E : Value → Shared → Prop} {s : Shared}
theorem adjust_rev (n : Nat) : Builtin.Slice.sliceAdjust none none (-1) (n : Int) = ((n : Int) - 1, -1) := by
  unfold Builtin.Slice.sliceAdjust
  simp
theorem places_rev (n : Nat) : Builtin.Slice.slicePlaces ((n : Int) - 1) (-1) (-1) = n := by
  unfold Builtin.Slice.slicePlaces
  have h1 : ¬ ((-1 : Int) > 0) := by omega
  simp only [h1, if_false]
  split
  · rename_i h
    have e : (- -1 : Int) = 1 := by decide
    simp only [e, Int.ediv_one]
    omega
  · omega
theorem sliceApplied_rev {sl : Addr} {vl vu vs : Value} {n : Nat} {Q : Int × Int × Nat → Shared → Prop} (hs : s.heap.IsSliceOf sl vl vu vs) (pl : IsPart vl none) (pu : IsPart vu none) (ps : IsPart vs (some (-1)))
    (h : Q ((n : Int) - 1, -1, n) s) : wpAny (model prog w) A (Builtin.Slice.sliceApplied (.ref sl) (pure (n : Int))) Q E s := by
  obtain ⟨os, hos, hcs, hds⟩ := id hs
  unfold Builtin.Slice.sliceApplied Builtin.Slice.sliceFields
  refine wpAny_bind (wpAny_bind (wpAny_field hos hds (x := vl) rfl (wpAny_bind (wpAny_field hos hds (x := vu) rfl (wpAny_bind (wpAny_field hos hds (x := vs) rfl (wpAny_pure ?_)))))))
  refine wpAny_bind (slicePart_ ps ?_)
  show wpAny _ _ (if ((-1 : Int) == 0) = true then _ else _) _ _ s
  rw [if_neg (by decide)]
  refine wpAny_bind (slicePart_ pl (wpAny_bind (slicePart_ pu (wpAny_bind (wpAny_pure ?_)))))
  show wpAny _ _ (match Builtin.Slice.sliceAdjust none none (-1) (n : Int) with | (lo, hi) => pure (lo, (-1 : Int), Builtin.Slice.slicePlaces lo hi (-1))) _ _ s
  rw [adjust_rev n]
  show wpAny _ _ (pure ((n : Int) - 1, (-1 : Int), Builtin.Slice.slicePlaces ((n : Int) - 1) (-1) (-1))) _ _ s
  rw [places_rev]
  exact wpAny_pure h
theorem pick_rev (xs : Array Value) : ((List.range xs.size).filterMap fun (m : Nat) => xs[(((xs.size : Int) - 1) + (m : Int) * (-1)).toNat]?).toArray = xs.toList.reverse.toArray := by
  have := PySem.W.krv_all xs
  rw [← this, ← List.filterMap_reverse, ← PySem.W.krv_range, List.filterMap_map]
  congr 1
  have aux : ∀ l : List Nat, (∀ m ∈ l, m < xs.size) → l.filterMap (fun (m : Nat) => xs[(((xs.size : Int) - 1) + (m : Int) * (-1)).toNat]?) = l.filterMap ((fun x => xs[x]?) ∘ fun k => xs.size - 1 - k) := fun l => by
    induction l with
    | nil => intro _; rfl
    | cons m l ih =>
      intro h
      have hm := h m List.mem_cons_self
      have e : (((xs.size : Int) - 1) + (m : Int) * (-1)).toNat = xs.size - 1 - m := by omega
      rw [List.filterMap_cons, List.filterMap_cons, ih fun x hx => h x (List.mem_cons_of_mem _ hx), e]
      rfl
  exact aux _ fun m hm => List.mem_range.mp hm
theorem getItem_tuple_rev {t sl : Addr} {items : Array Value} {vl vu vs : Value} {Q : Value → Shared → Prop} (ht : IsTup s.heap t items) (hs : s.heap.IsSliceOf sl vl vu vs) (pl : IsPart vl none) (pu : IsPart vu none) (ps : IsPart vs (some (-1)))
    (h : Q (.ref s.heap.objs.size) { s with heap := s.heap.push { cls := .type "tuple", data := .seq items.toList.reverse.toArray } })
    (hsz : items.size ≤ sizeLine) : wpAny (model prog w) A (getItem (.ref t) (.ref sl)) Q E s := by
  have htake : sizeOk (.seq items.toList.reverse.toArray) := by
    show items.toList.reverse.toArray.size ≤ sizeLine
    rw [List.size_toArray, List.length_reverse, Array.length_toList]
    exact hsz
  obtain ⟨os, hos, hcs, hds⟩ := id hs
  have hTs : s.TypeIs (.ref sl) "slice" := ⟨os, hos, hcs⟩
  unfold getItem
  try with_reducible refine wpAny_holding ?_
  first | refine wpAny_bind (wpAny_pure ?_) | skip
  refine wpAny_bind (wpAny_sequenceKey ht.typeIs (by decide) ?_)
  refine wpAny_bind (wpAny_callSpecial?_slot (name := Str.ofString "__getitem__") ht.typeIs PyProof.Rows.slot_tuple_getitem
    (wpAny_call_entry PyProof.Rows.slot_tuple_getitem ht.typeIs entry_tuple_getitem ?_ (args_tuple_getitem _ _)))
  show wpAny _ _ (Builtin.Tuple.tupleItemsOf (.ref t) >>= _) _ _ s
  refine wpAny_bind (tupleItemsOf_ ht ?_)
  refine wpAny_bind (wpAny_typeOf hTs ?_)
  rw [if_pos (by decide)]
  refine wpAny_bind (sliceApplied_rev hs pl pu ps ?_)
  have hno : ¬ (((((items.size : Int) - 1)) == 0 && (-1 : Int) == 1 && items.size == items.size) = true) := by
    intro q
    rw [Bool.and_eq_true, Bool.and_eq_true] at q
    exact absurd q.1.2 (by decide)
  show wpAny _ _ (if ((((items.size : Int) - 1)) == 0 && (-1 : Int) == 1 && items.size == items.size) = true then _ else _) _ _ s
  rw [if_neg hno, pick_rev]
  first
    | exact wpAny_bind (m := Builtin.Tuple.tupleExact _) (wpAny_newObj_type (wpAny_pure ⟨_, rfl, wpAny_pure h⟩) htake)
    | exact wpAny_bind (m := Builtin.Tuple.tupleExact _) (wpAny_newObj_type (wpAny_bind (wpAny_pure (wpAny_pure ⟨_, rfl, wpAny_pure h⟩))) htake)
    | exact wpAny_bind (wpAny_bind (m := Builtin.Tuple.tupleExact _) (wpAny_newObj_type (wpAny_pure (wpAny_pure ⟨_, rfl, wpAny_pure h⟩)) htake))
    | exact wpAny_bind (wpAny_bind (m := Builtin.Tuple.tupleExact _) (wpAny_newObj_type (wpAny_pure ⟨_, rfl, wpAny_pure h⟩) htake))
end
section
variable {X : Cx}
def tRevT (K : PySem.W.Frag) (te : TE) : TE := fun σ H Q => te σ H fun x H1 => ∃ a xs, x = .ref a ∧ SqT K H1 a xs ∧ ∀ p, H1 p = none → Q (.ref p) (upd H1 p (.tup xs.reverse))
theorem pe_revT {e : Expr} {te : TE} {k : Nat} {p1 p2 p3 pos : Pos} (he : PE X e te) : PE X (.Subscript e (.Slice none none (some (.UnaryOp .USub (.Constant (.int 1) k p1) p2)) p3) pos) (tRevT X.K te) := by
  refine ⟨fun pins s σ H Q I h => ?_⟩
  refine Subscript_ (thn (he.run pins s σ H _ I h) fun v s1 ⟨x, H1, I1, r1, q1⟩ => ?_)
  obtain ⟨a, xs, ex, hx, q⟩ := q1
  subst ex
  cases r1
  have hst : PO X (some (.UnaryOp .USub (.Constant (.int 1) k p1) p2)) (tPart (tUn (rU fun i => .int (-i)) (tC (.int 1)))) := po_some (pe_un un_neg pe_int)
  refine wpAny_Slice (thn (po_none.run pins s1 σ H1 (fun o H2 => o = none ∧ H2 = H1) I1 ⟨rfl, rfl⟩) fun vl s2 ⟨l, H2, I2, pl, el, e2⟩ => ?_)
  subst el e2
  refine thn (po_none.run pins s2 σ H2 (fun o H3 => o = none ∧ H3 = H2) I2 ⟨rfl, rfl⟩) fun vu s3 ⟨u, H3, I3, pu, eu, e3⟩ => ?_
  subst eu e3
  refine thn (hst.run pins s3 σ H3 (fun o H4 => o = some (-1) ∧ H4 = H3) I3 ⟨1, rfl, -1, rfl, rfl, rfl⟩) fun vs s4 ⟨o, H4, I4, ps, eo, e4⟩ => ?_
  subst eo e4
  have I5 : Inv X pins σ H4 { s4 with heap := s4.heap.push { cls := .type "slice", data := .fields #[vl, vu, vs] } } := I4.kept (t' := s4.toks) fun b ob q => Heap.get?_push_of_some _ q
  obtain ⟨its, r, ht, hz⟩ := I5.tuple hx
  have hlen := r.length
  show wpAny (model X.prog X.w) X.A (subscriptTail e (.Slice none none (some (.UnaryOp .USub (.Constant (.int 1) k p1) p2)) p3) (.ref a) (.ref s4.heap.objs.size)) (EP X pins σ Q) X.xe { s4 with heap := s4.heap.push { cls := .type "slice", data := .fields #[vl, vu, vs] } }
  refine tail_any (ops := [.ref a, .ref s4.heap.objs.size]) ht.typeIs PyProof.Rows.slot_tuple_getitem.lookup ?_ (by with_unfolding_all rfl)
  refine getItem_tuple_rev ht (Heap.IsSliceOf.new _ vl vu vs) pl pu ps ?_ (by rw [List.size_toArray]; omega)
  refine ⟨.ref _, _, I5.laid (t' := s4.toks) (o := .tup xs.reverse) (fun b ob q => Heap.get?_push_of_some _ q) (Nat.le_refl _) ?_, rfl, q _ (I5.hok.fresh (Nat.le_refl _))⟩
  exact ⟨by rw [List.length_reverse]; exact hz, _, r.reverse, IsTup.new _ _⟩
end
def mRevT (f : Ev) : Ev := fun ρ => (f ρ).bind fun d => match d with
  | .tup ds => M.ret (.tup ds.reverse)
  | _ => M.stuck
section
variable {ca : CA} {X : Cx} {W : WX} {e : Expr} {f : Ev} {pos : Pos}
theorem de_revT {k : Nat} {p1 p2 p3 : Pos} (h : DE ca X W e f) : DE ca X W (.Subscript e (.Slice none none (some (.UnaryOp .USub (.Constant (.int 1) k p1) p2)) p3) pos) (mRevT f) := by
  obtain ⟨t, p, q⟩ := h.ex
  refine ⟨_, pe_revT p, fun μ σ H ρ S hr he => Aq.bind (R1 := rV X.K) (R2 := rV X.K) (t1 := t σ H) (k := fun x H1 (Q : VK) => ∃ a xs, x = .ref a ∧ SqT X.K H1 a xs ∧ ∀ p, H1 p = none → Q (.ref p) (upd H1 p (.tup xs.reverse))) (q μ σ H ρ S hr he) fun d x μ1 H1 S1 e1 r1 x1 => ?_⟩
  split
  · rename_i ds
    obtain ⟨a, xs, rfl, t, g⟩ := VR.tup x1
    refine (Aq.new (R := rV X.K) (v := fun p => .ref p) (o := .tup xs.reverse) r1 fun p hn m x => ?_).imp fun Q q => ⟨a, xs, rfl, t, q⟩
    exact VR.iTup (SqT.of upd_same) ((g.rev).mono m x)
  · exact Aq.stuck
/-! ### {} and {(): ()} -/
theorem de_dct0 : DE ca X W (.Dict [] [] pos) (mC .dct) :=
  ⟨_, pe_dnewK, fun μ σ H ρ S hr he => Aq.new (R := rV X.K) (v := fun p => .ref p) (o := .dK []) hr fun p hn m x => VR.iDct (m.not hn) (.inl ⟨_, upd_same⟩)⟩
end

/-! ### two sources -/
def lcIn (s : Src) (g : Tg) (tt te : Ev) (ρ : Env) : Nat → Nat → List D → M (List D)
  | 0, _, acc => fun S => if s.fin S = true then some (.ok acc, S) else none
  | m + 1, i, acc => fun S => match s.rd S i with
    | none => none
    | some d => ((noX (g d ρ)).bind fun ρ2 => (noX (tt ρ2)).bind fun b => match b with
      | .bl true => (noX (te ρ2)).bind fun y => if acc.length < 1000000 then lcIn s g tt te ρ m (i + 1) (acc ++ [y]) else M.stuck
      | .bl false => lcIn s g tt te ρ m (i + 1) acc
      | _ => M.stuck) S
def lc2Go (s : Src) (g : Tg) (tt : Ev) (it1 : Env → M Src) (g1 : Tg) (tt1 te : Ev) (vs1 : List Nat) (ρ : Env) : Nat → Nat → List D → M D
  | 0, _, acc => fun S => if s.fin S = true then some (.ok (.lst acc), S) else none
  | m + 1, i, acc => fun S => match s.rd S i with
    | none => none
    | some d => ((noX (g d ρ)).bind fun ρ2 => (noX (tt ρ2)).bind fun b => match b with
      | .bl true => (noX (it1 ρ2)).bind fun s1 => (noX (lcIn s1 g1 tt1 te (wipeD ρ2 vs1) s1.n 0 acc)).bind fun acc' => lc2Go s g tt it1 g1 tt1 te vs1 ρ m (i + 1) acc'
      | .bl false => lc2Go s g tt it1 g1 tt1 te vs1 ρ m (i + 1) acc
      | _ => M.stuck) S
def mLc2 (it : Env → M Src) (g : Tg) (tt : Ev) (it1 : Env → M Src) (g1 : Tg) (tt1 te : Ev) (vs vs1 : List Nat) : Ev := fun ρ => (it ρ).bind fun s => lc2Go s g tt it1 g1 tt1 te vs1 (wipeD ρ vs) s.n 0 []
section
variable {K : PySem.W.Frag} {ca : CA} {is vs is1 vs1 : List Nat} {g g1 : TG} {f f1 : Tg} {tt tt1 : TT} {te : TE} {ft fe ft1 : Ev}
theorem Adq.lc2 {wi wi1 : TI} {it it1 : Env → M Src} {W : WX} (hi : Adq (rI' K ca) ca W wi it) (hg : AdqG K ca is g f) (his : ∀ i ∈ is, i ∈ vs) (ht : Adq (rB K) ca W0 tt ft)
    (hi1 : Adq (rI' K ca) ca W0 wi1 it1) (hg1 : AdqG K ca is1 g1 f1) (his1 : ∀ i ∈ is1, i ∈ vs1) (ht1 : Adq (rB K) ca W0 tt1 ft1) (he : Adq (rV K) ca W0 te fe) : Adq (rV K) ca W (tLc2 wi g tt wi1 g1 tt1 te vs vs1) (mLc2 it f ft it1 f1 ft1 fe vs vs1) := by
  intro μ σ H ρ S hr hE
  refine Aq.bind (R1 := rI' K ca) (R2 := rV K) (t1 := wi σ H) (k := fun J H1 (Q : VK) => ∀ D, H1 D = none → ∃ W : Nat → Nat → Hp → Prop, (∃ m, W 0 m (upd H1 D (.lst []))) ∧ ∀ i m H, W i m H →
    (J.stop i H ∧ Q (.ref D) H) ∨ (J.go i H ∧ ∃ Nx : Hp → Prop, (∀ H', Nx H' → ∃ m', m' < m ∧ W (i + 1) m' H') ∧ ∀ x H', J.yld i H x H' → g x (L2.wipe σ vs) H' fun σ2 H2 => L2.wipe σ2 vs = L2.wipe σ vs ∧ tt σ2 H2 fun b H3 =>
      if b = true then wi1 σ2 H3 fun J1 H4 => ∃ W1 : Nat → Nat → Hp → Prop, (∃ m, W1 0 m H4) ∧ ∀ j k H, W1 j k H →
        (J1.stop j H ∧ Nx H) ∨ (J1.go j H ∧ ∃ Nx1 : Hp → Prop, (∀ H', Nx1 H' → ∃ k', k' < k ∧ W1 (j + 1) k' H') ∧ ∀ x H', J1.yld j H x H' → g1 x (L2.wipe σ2 vs1) H' fun σ3 H5 => L2.wipe σ3 vs1 = L2.wipe σ2 vs1 ∧ tt1 σ3 H5 fun b H6 =>
          if b = true then te σ3 H6 fun y H7 => ∃ acc, H7 D = some (.lst acc) ∧ acc.length < sizeLine ∧ Nx1 (upd H7 D (.lst (acc ++ [y]))) else Nx1 H6)
      else Nx H3)) (hi μ σ H ρ S hr hE) fun s J μ1 H1 S1 e1 r1 o => ?_
  have hE1 : ER K μ1 H1 (wipeD ρ vs) (L2.wipe σ vs) := (hE.mono hr.mu e1).wipe vs
  intro r hf Q hp p hpn
  have hpz : p ∉ μ1.z := (r1.mu.not hpn).2
  refine ⟨fun i m H => ∃ μ acc us S, i + m = s.n ∧ Mk1 K ca μ1 H1 p acc H S μ us ∧ lc2Go s f ft it1 f1 ft1 fe vs1 (wipeD ρ vs) m i acc S = some r, ⟨s.n, ?_⟩, ?_⟩
  · obtain ⟨x, r2⟩ := r1.hide (vs := []) hpn
    exact ⟨μ1.hide p, [], [], S1, by omega, ⟨x, fun a o h n _ => by rw [upd_ne (ne_of_none h hpn)]; exact h, r2, rfl, (r1.mu.not hpn).1, upd_same, .iNil⟩, hf⟩
  · rintro i m H ⟨μ, acc, us, S, hn, k, hf⟩
    cases m with
    | zero =>
      have hf : (if s.fin S = true then some ((Rs.ok (.lst acc) : Rs D), S) else none) = some r := hf
      split at hf
      · rename_i hfin
        cases hf
        have hin : i = s.n := by omega
        subst hin
        refine .inl ⟨o.stop μ H S k.evo k.rel hfin, ?_⟩
        obtain ⟨l, z, t⟩ := μ
        have hz : z = p :: μ1.z := k.z
        subst hz
        obtain ⟨x, r2⟩ := k.rel.show
        have xx := k.evo.trans x
        refine hp ⟨l, μ1.z, t⟩ H (.ref p) ⟨xx.app, rfl, k.keep, xx.tt, xx.kt, xx.mu⟩ r2 ?_
        exact VR.iLst ⟨k.at_, k.l, hpz⟩ (k.vr.monoE k.rel.mu x)
      · cases hf
    | succ m =>
      have hf : (match s.rd S i with
        | none => none
        | some d => ((noX (f d (wipeD ρ vs))).bind fun ρ2 => (noX (ft ρ2)).bind fun b => match b with
          | .bl true => (noX (it1 ρ2)).bind fun s1 => (noX (lcIn s1 f1 ft1 fe (wipeD ρ2 vs1) s1.n 0 acc)).bind fun acc' => lc2Go s f ft it1 f1 ft1 fe vs1 (wipeD ρ vs) m (i + 1) acc'
          | .bl false => lc2Go s f ft it1 f1 ft1 fe vs1 (wipeD ρ vs) m (i + 1) acc
          | _ => M.stuck) S) = some r := hf
      split at hf
      · cases hf
      · rename_i d hd
        obtain ⟨ρ2, S2, q1, hf⟩ := bind_noX hf
        obtain ⟨b, S3, q2, hf⟩ := bind_noX hf
        obtain ⟨go, yl⟩ := o.go μ H S i d k.evo k.rel (by omega) hd
        refine .inr ⟨go, fun H' => ∃ μ acc us S, i + 1 + m = s.n ∧ Mk1 K ca μ1 H1 p acc H' S μ us ∧ lc2Go s f ft it1 f1 ft1 fe vs1 (wipeD ρ vs) m (i + 1) acc S = some r, fun H' w => ⟨m, Nat.lt_succ_self _, w⟩, fun x H' y => ?_⟩
        obtain ⟨e2, r2, v2⟩ := yl x H' y
        have k2 := k.ext e2 r2
        have hE2 : ER K μ H' (wipeD ρ vs) (L2.wipe σ vs) := hE1.monoE r1.mu k2.evo
        refine hg μ _ H' _ S d x _ r2 hE2 v2 q1 _ fun μ3 H3 σ3 e3 r3 E3 k3 l3 => ⟨wipe_eq his l3 k3, ?_⟩
        have k4 := k2.ext e3 r3
        refine ht μ3 σ3 H3 ρ2 S2 r3 E3 _ q2 _ fun μ5 H5 bb e5 r5 x5 => ?_
        have x5 : b = .bl bb := x5
        subst x5
        have k6 := k4.ext e5 r5
        cases bb with
        | false =>
          rw [if_neg Bool.false_ne_true]
          exact ⟨μ5, acc, us, S3, by omega, k6, hf⟩
        | true =>
          rw [if_pos rfl]
          obtain ⟨s1, S4, q3, hf⟩ := bind_noX hf
          obtain ⟨acc', S5, q4, hf⟩ := bind_noX hf
          refine hi1 μ5 σ3 H5 ρ2 S3 r5 (E3.mono r3.mu e5) _ q3 _ fun μ7 H7 J1 e7 r7 o1 => ?_
          have k8 := k6.ext e7 r7
          have E7 : ER K μ7 H7 (wipeD ρ2 vs1) (L2.wipe σ3 vs1) := ((E3.mono r3.mu e5).mono r5.mu e7).wipe vs1
          have hp7 : p ∈ μ7.z := by rw [k8.z]; exact List.mem_cons_self
          refine ⟨fun j n H => ∃ μ acc us S, j + n = s1.n ∧ Evo μ7 H7 μ H ∧ Mk1 K ca μ1 H1 p acc H S μ us ∧ lcIn s1 f1 ft1 fe (wipeD ρ2 vs1) n j acc S = some (.ok acc', S5), ⟨s1.n, μ7, acc, us, S4, by omega, Evo.refl r7.mu, k8, q4⟩, ?_⟩
          rintro j n H ⟨μ, acc, us, S, hn1, ev, k, hg4⟩
          cases n with
          | zero =>
            have hg4 : (if s1.fin S = true then some ((Rs.ok acc : Rs (List D)), S) else none) = some (.ok acc', S5) := hg4
            split at hg4
            · rename_i hfin
              cases hg4
              have hin : j = s1.n := by omega
              subst hin
              exact .inl ⟨o1.stop μ H _ ev k.rel hfin, μ, _, us, _, by omega, k, hf⟩
            · cases hg4
          | succ n =>
            have hg4 : (match s1.rd S j with
              | none => none
              | some d => ((noX (f1 d (wipeD ρ2 vs1))).bind fun ρ2' => (noX (ft1 ρ2')).bind fun b => match b with
                | .bl true => (noX (fe ρ2')).bind fun y => if acc.length < 1000000 then lcIn s1 f1 ft1 fe (wipeD ρ2 vs1) n (j + 1) (acc ++ [y]) else M.stuck
                | .bl false => lcIn s1 f1 ft1 fe (wipeD ρ2 vs1) n (j + 1) acc
                | _ => M.stuck) S) = some (.ok acc', S5) := hg4
            split at hg4
            · cases hg4
            · rename_i d1 hd1
              obtain ⟨ρ3, S6, p1, hg4⟩ := bind_noX hg4
              obtain ⟨b1, S7, p2, hg4⟩ := bind_noX hg4
              obtain ⟨go1, yl1⟩ := o1.go μ H S j d1 ev k.rel (by omega) hd1
              refine .inr ⟨go1, fun H' => ∃ μ acc us S, j + 1 + n = s1.n ∧ Evo μ7 H7 μ H' ∧ Mk1 K ca μ1 H1 p acc H' S μ us ∧ lcIn s1 f1 ft1 fe (wipeD ρ2 vs1) n (j + 1) acc S = some (.ok acc', S5), fun H' w => ⟨n, Nat.lt_succ_self _, w⟩, fun x H' y => ?_⟩
              obtain ⟨e2, r2, v2⟩ := yl1 x H' y
              have k2 := k.ext e2 r2
              have ev2 := ev.trans e2.evo
              have hE2 : ER K μ H' (wipeD ρ2 vs1) (L2.wipe σ3 vs1) := E7.monoE r7.mu ev2
              refine hg1 μ _ H' _ S d1 x _ r2 hE2 v2 p1 _ fun μ3 H3 σ4 e3 r3 E4 k3 l3 => ⟨wipe_eq his1 l3 k3, ?_⟩
              have k4 := k2.ext e3 r3
              refine ht1 μ3 σ4 H3 ρ3 S6 r3 E4 _ p2 _ fun μ5 H5 bb e5 r5 x5 => ?_
              have x5 : b1 = .bl bb := x5
              subst x5
              have k6 := k4.ext e5 r5
              have ev6 := (ev2.trans e3.evo).trans e5.evo
              cases bb with
              | false =>
                rw [if_neg Bool.false_ne_true]
                exact ⟨μ5, acc, us, S7, by omega, ev6, k6, hg4⟩
              | true =>
                rw [if_pos rfl]
                obtain ⟨y, S8, p3, hg4⟩ := bind_noX hg4
                split at hg4
                · rename_i hl
                  refine he μ5 σ4 H5 ρ3 S7 r5 (E4.mono r3.mu e5) _ p3 _ fun μ8 H8 v8 e8 r8 x8 => ?_
                  have k9 := k6.ext e8 r8
                  have k10 := k9.grow hpn x8
                  refine ⟨us, k9.at_, by rw [← k.vr.len]; exact Nat.lt_of_lt_of_le hl (by decide), μ8, _, _, S8, by omega, (ev6.trans e8.evo).grow (.inr hp7) ⟨_, k9.at_⟩ k10.rel.mu, k10, hg4⟩
                · cases hg4
end
section
variable {ca : CA} {X : Cx} {W : WX} {elt tg iter tg1 iter1 : Expr} {ifs ifs1 : List Expr} {scope : Scope} {pos : Pos} {it it1 : Env → M Src} {g g1 : Tg} {ft fe ft1 : Ev} {is is1 vs1 : List Nat}
theorem de_lc2 (own : List (Str × Nat)) (vs1 : List Nat) (hv : ∀ i ∈ vs1, i ∈ own.map (·.2)) (hc : X.calm = true) (hN : X.N.Nodup) (ok : BlkOk X.N X.env.scope scope own) (hi : DI ca X W tg iter it)
    (hg : ∀ (s : Shared) (H : Hp) (C : Addr) (cl : List (Str × Addr)) (fp : List Addr), DG ca (X.blk s H scope (compEnvC scope cl C X.env) fp) tg is g) (his : ∀ i ∈ is, i ∈ own.map (·.2))
    (ht : ∀ (s : Shared) (H : Hp) (C : Addr) (cl : List (Str × Addr)) (fp : List Addr), DTs ca (X.blk s H scope (compEnvC scope cl C X.env) fp) W0 ifs ft)
    (hi1 : ∀ (s : Shared) (H : Hp) (C : Addr) (cl : List (Str × Addr)) (fp : List Addr), DI ca (X.blk s H scope (compEnvC scope cl C X.env) fp) W0 tg1 iter1 it1)
    (hg1 : ∀ (s : Shared) (H : Hp) (C : Addr) (cl : List (Str × Addr)) (fp : List Addr), DG ca (X.blk s H scope (compEnvC scope cl C X.env) fp) tg1 is1 g1) (his1 : ∀ i ∈ is1, i ∈ vs1)
    (ht1 : ∀ (s : Shared) (H : Hp) (C : Addr) (cl : List (Str × Addr)) (fp : List Addr), DTs ca (X.blk s H scope (compEnvC scope cl C X.env) fp) W0 ifs1 ft1)
    (he : ∀ (s : Shared) (H : Hp) (C : Addr) (cl : List (Str × Addr)) (fp : List Addr), DE ca (X.blk s H scope (compEnvC scope cl C X.env) fp) W0 elt fe)
    (hs : ∀ x, foldedSetIterable iter X.env x = pure x := by intro _; rfl) (hs1 : ∀ env x, foldedSetIterable iter1 env x = pure x := by intro _ _; rfl) : DE ca X W (.ListComp elt [⟨tg, iter, ifs, 0⟩, ⟨tg1, iter1, ifs1, 0⟩] scope pos) (mLc2 it g ft it1 g1 ft1 fe (own.map (·.2)) vs1) :=
  ⟨_, pe_lc2 hc hN hi.can ok hv (fun s H C cl fp => (hg s H C cl fp).can) (fun s H C cl fp => (ht s H C cl fp).can) (fun s H C cl fp => (hi1 s H C cl fp).can) (fun s H C cl fp => (hg1 s H C cl fp).can) (fun s H C cl fp => (ht1 s H C cl fp).can) (fun s H C cl fp => (he s H C cl fp).can) hs hs1,
    Adq.lc2 Adq.of AdqG.of his Adq.of Adq.of AdqG.of his1 Adq.of Adq.of⟩
end
end Tl
set_option Elab.async false
set_option linter.all false
set_option maxRecDepth 100000
set_option maxHeartbeats 4000000
set_option autoImplicit false
namespace Tl
open PySem L2 PySem.Spec PyProof.Rows RZ HT

/-! ### {(): ()} -/
def tD1 : TE := fun _ H Q => ∀ d b c, H d = none → H b = none → H c = none → d ≠ b → d ≠ c → b ≠ c → Q (.ref d) (upd (upd (upd H d (.dT [([], .ref c)])) b (.tup [])) c (.tup []))
section
variable {X : Cx} {pos : Pos}
theorem pe_d1 (hu : X.A.units + 64 < cLine) {k1 k2 : Nat} {p1 p2 : Pos} : PE X (.Dict [some (.Tuple [] k1 p1)] [.Tuple [] k2 p2] pos) tD1 := by
  refine ⟨fun pins s σ H Q I q => ?_⟩
  have hn := I.hok.fresh (Nat.le_refl s.heap.objs.size)
  have I1 := I.laid (a := s.heap.objs.size) (o := .dT []) (h' := s.heap.push { cls := .type "dict", data := .dict #[] }) (t' := s.toks) (fun _ _ q => Heap.get?_push_of_some _ q) (Nat.le_refl _) (dt_empty s.heap I.big)
  have hp : PPs X pos [some (.Tuple [] k1 p1)] [.Tuple [] k2 p2] [(tTup tNil, tTup tNil)] := pps_cons (pe_tup pa_nil) (pe_tup pa_nil) pps_nil
  rw [arm_eval_Dict, zip_pairTrees _ _ _ _ rfl rfl, dictDisplay_pairs _ (by intro z; cases z) (by show 1 < 17; decide)]
  refine wpAny_bind (wpAny_standAt (wpAny_bind (wpAny_subDictH (knd := tupleKind (mixKind X.prog X.w)) (Q := fun d s' => wpAny (model X.prog X.w) X.A (pure (Value.ref d)) (EP X pins σ Q) X.xe s') (by show X.A.units < cLine; omega) (by show 1 ≤ 15; decide) ?_)))
  generalize hd : s.heap.objs.size = d at *
  refine thn (hp.run pins _ σ _ (fun ps H2 => ∃ b c, ps = [(.ref b, .ref c)] ∧ H b = none ∧ H c = none ∧ d ≠ b ∧ d ≠ c ∧ b ≠ c ∧ H2 = upd (upd (upd H d (.dT [])) b (.tup [])) c (.tup [])) I1 ?_) fun ws s2 ⟨ps, H2, I2, rel, b, c, e, nb, nc, db, dc, bc, e2⟩ => ?_
  · refine ⟨by decide, fun b hb => ⟨by decide, fun c hc => ⟨b, c, rfl, ?_, ?_, ?_, ?_, ?_, rfl⟩⟩⟩
    · by_cases e : b = d
      · subst e; rw [upd_same] at hb; cases hb
      · rw [upd_ne e] at hb; exact hb
    · by_cases e : c = b
      · subst e; rw [upd_same] at hc; cases hc
      · rw [upd_ne e] at hc
        by_cases e : c = d
        · subst e; rw [upd_same] at hc; cases hc
        · rw [upd_ne e] at hc; exact hc
    · intro e; subst e; rw [upd_same] at hb; cases hb
    · intro e; subst e
      by_cases e : d = b
      · subst e; rw [upd_same] at hc; cases hc
      · rw [upd_ne e, upd_same] at hc; cases hc
    · intro e; subst e; rw [upd_same] at hc; cases hc
  · subst e e2
    obtain ⟨w1, w2, rfl, g1, g2⟩ : ∃ w1 w2, ws = [(w1, w2)] ∧ RelV (.ref b) w1 ∧ RelV (.ref c) w2 := by
      cases rel with
      | @cons _ y _ _ g g' => cases g'; exact ⟨y.1, y.2, rfl, g.1, g.2⟩
    have g1 : w1 = Value.ref b := g1
    have g2 : w2 = Value.ref c := g2
    subst g1 g2
    have hb2 : (upd (upd (upd H d (.dT [])) b (.tup [])) c (.tup [])) b = some (.tup []) := by rw [upd_ne bc, upd_same]
    have hd2 : (upd (upd (upd H d (.dT [])) b (.tup [])) c (.tup [])) d = some (.dT []) := by rw [upd_ne dc, upd_ne db, upd_same]
    have key : (tupleKind (mixKind X.prog X.w)).is s2.heap [] b := key_of (ks := []) I2.hok hb2
    obtain ⟨z, hds, xs, r0, dd⟩ := dt_of I2.hok hd2
    cases r0
    refine ⟨[([], b, .ref c)], ⟨rfl, rfl, key, trivial⟩, dd, fun h' tk dd' hs => wpAny_pure ?_⟩
    have hz : ObjOk X.prog X.w (upd (upd (upd (upd H d (.dT [])) b (.tup [])) c (.tup [])) d (.dT [([], .ref c)])) h' d (.dT [([], .ref c)]) := by
      obtain ⟨o, es, ep, a1, a2, a3, a4, a5, a6⟩ := dd'
      refine ⟨by show 1 ≤ sizeLine; decide, hds, [([], b, .ref c)], .cons ⟨rfl, ?_, rfl⟩ .nil, o, es, ep, a1, a2, a3, a4, a6⟩
      rw [upd_ne (Ne.symm db)]; exact hb2
    have he : ∃ q, h'.get? d = some q := let ⟨o, _, _, a1, _⟩ := dd'; ⟨o, a1⟩
    refine ⟨.ref d, _, d_write I2 (by rw [hd2]; exact True.intro) hs he hz, rfl, ?_⟩
    have e : upd (upd (upd (upd H d (.dT [])) b (.tup [])) c (.tup [])) d (.dT [([], .ref c)]) = upd (upd (upd H d (.dT [([], .ref c)])) b (.tup [])) c (.tup []) := by
      funext x
      by_cases x1 : x = d
      · subst x1; rw [upd_same, upd_ne dc, upd_ne db, upd_same]
      · rw [upd_ne x1]
        by_cases x2 : x = c
        · subst x2; rw [upd_same, upd_same]
        · rw [upd_ne x2, upd_ne x2]
          by_cases x3 : x = b
          · subst x3; rw [upd_same, upd_same]
          · rw [upd_ne x3, upd_ne x3, upd_ne x1, upd_ne x1]
    rw [e]
    exact q d b c hn nb nc db dc bc
end
theorem de_dct1 {ca : CA} {X : Cx} {W : WX} {pos : Pos} (hu : X.A.units + 64 < cLine) {k1 k2 : Nat} {p1 p2 : Pos} : DE ca X W (.Dict [some (.Tuple [] k1 p1)] [.Tuple [] k2 p2] pos) (mC .dct) := by
  refine ⟨_, pe_d1 hu, fun μ σ H ρ S hr he r hf Q hp d b c hd hb hc db dc bc => ?_⟩
  cases (show some ((Rs.ok D.dct : Rs D), S) = some r from hf)
  obtain ⟨x1, r1⟩ := hr.laid (o := .dT [([], .ref c)]) hd
  obtain ⟨x2, r2⟩ := r1.laid (p := b) (o := .tup []) (by rw [upd_ne (Ne.symm db)]; exact hb)
  obtain ⟨x3, r3⟩ := r2.laid (p := c) (o := .tup []) (by rw [upd_ne (Ne.symm bc), upd_ne (Ne.symm dc)]; exact hc)
  have x := (x1.trans x2).trans x3
  have n := hr.mu.not hd
  exact hp μ _ _ x r3 (VR.iDct n (.inr ⟨_, by rw [upd_ne dc, upd_ne db, upd_same]⟩))
end Tl
set_option Elab.async false
set_option linter.all false
set_option maxRecDepth 100000
set_option maxHeartbeats 4000000
set_option autoImplicit false
namespace Tl
open PySem L2 PySem.Spec PyProof.Rows RZ

/-! ### defs that are called where no container is being shown (for repr) -/
/-- what a def does, called where nothing is being shown -/
structure FnG (P : Program) (w : World) (K : PySem.W.Frag) (mg : Str → Option Value) (base : Heap) (k : Nat) (f : Addr) (fd : FuncData) (ps : List Str) (sp : Sp) : Prop where
  many : ∀ {vs : List V} {H : Hp} {Q : VK} {E : XK}, sp vs H Q E → vs.length = ps.length
  goes : ∀ {A : Around} {outer : List PySem.Env} {s : Shared} {H : Hp} {args : Args} {us : List Value} {vs : List V} {Q : VK} {E : XK}, A.guards = some [] → Room k A → Env0 P w K mg base A outer s H →
    BindsTo s fd args (ps.zip us) → Vals vs us → sp vs H Q E → codeAny (model P w) A (.call (.ref f) args) (CR (L2.CX P w) outer P w H s Q E) s
section
variable {P : Program} {w : World} {K : PySem.W.Frag} {mg : Str → Option Value} {base : Heap} {ca : CA} {k : Nat} {f : Addr} {fd : FuncData} {ps : List Str} {sp : Sp}
theorem FnG.of (F : FnOk P w K mg base (L2.CX P w) k f fd ps sp) : FnG P w K mg base k f fd ps sp := ⟨fun h => F.len _ _ _ _ h, fun _ hr e b v h => F.run _ _ _ _ _ _ _ _ _ hr e b v h⟩
/-- a body's end is the call's end -/
theorem ends_call {X : Cx} {outer : List PySem.Env} {H : Hp} {s s' : Shared} {Q : VK} {σ' : L2.St} {H' : Hp} {v : V} {u : Value} (h0 : X.s_0 = s) (h1 : X.fs = frs outer) (h2 : X.ex = []) (h3 : X.H_0 = H) (h4 : X.prog = P) (h5 : X.w = w) (J : Inv X [] σ' H' s') (r : RelV v u) (q : Q v H') : CE outer P w H s Q u s' := by
  subst h0 h3 h4 h5
  have un := J.base
  rw [h1, h2] at un
  exact ⟨v, H', J.os, J.bare, un, J.hok, r, q⟩
/-- a def's promise by its body -/
theorem FnG.body {x qual : Str} {st : Stmt} {N : List Str} (F : Fun K x qual st f fd) (S : FnScope N ps (defScope st)) (len : ∀ {vs : List V} {H : Hp} {Q : VK} {E : XK}, sp vs H Q E → vs.length = ps.length)
    (hb : ∀ (cdv : Value) (A : Around) (outer : List PySem.Env) (s : Shared) (H : Hp) (vs : List V) (Q : VK) (E : XK), fd.code = cdv → A.guards = some [] → Room k (A.deeper (envOfC qual (defScope st) s.heap.objs.size f cdv)) → sp vs H Q E →
      ∃ t, PSs (cxOf (L2.CX P w) P w K mg base N qual (defScope st) f cdv A outer s H E) (defBody st) t ∧ t { nx := fun _ H' => Q .non H', rt := Q } (start N vs) H) : FnG P w K mg base (k + 1) f fd ps sp := by
  obtain ⟨oc, od, kV, doc, pm, an, cdv, ct, osl, hfd, lk, hcd⟩ := F.ex
  subst hfd
  refine ⟨len, ?_⟩
  intro A outer s H args us vs Q E hg hr he bt rv hs
  have kin := he.mod.kin.keeps fun b o z => (he.bs b o z).1
  have bnd : ∀ y ∈ ps.zip us, (defScope st).names.lookup y.1 = some .local ∨ ((defScope st).names.lookup y.1 = some .cell ∧ ((cellsFrom (s.heap.objs.size + 1) (defScope st).names []).lookup y.1).isSome = true) := by
    intro y hy
    rcases S.par y.1 (List.of_mem_zip (a := y.1) (b := y.2) hy).1 with q | q
    · exact Or.inl q
    · exact Or.inr ⟨q, PySem.W.cellsFrom_some _ _ _ (Or.inl q)⟩
  refine codeAny_call_function hr.depth (kin _ _ lk) rfl S.co S.gen rfl (PySem.W.codeRec_of kin hcd) (bt _ _ _ _ (wpAny_newFunctionEnv_cells S.kind bnd ?_))
  intro env henv s1 ic
  cases henv
  refine ⟨(he.mod.nolimit.keeps fun b o z => (he.bs b o z).1).keeps ic.toInCall.keep, codeAny_func ?_⟩
  obtain ⟨t, run, q⟩ := hb cdv A outer s H vs Q E rfl hg (hr.deeper _) hs
  have J0 := inv_start (CX := L2.CX P w) (E := E) S hr.hd he (len hs) rv ic
  refine wpAny_mono (run.run [] s1 _ H _ J0 q) ?_ fun _ _ z => z
  intro fl s' z
  cases fl
  case ret u => exact let ⟨v, σ', H', J, r, q'⟩ := z; ends_call rfl rfl rfl rfl rfl rfl J r q'
  case next => exact let ⟨σ', H', J, q'⟩ := z; ends_call (v := V.non) (u := Value.none) rfl rfl rfl rfl rfl rfl J rfl q'
  case brk => exact let ⟨_, _, _, q'⟩ := z; q'.elim
  case cont => exact let ⟨_, _, _, q'⟩ := z; q'.elim
end
/-! ### such a def called -/
section
variable {ca : CA} {X : Cx} {W : WX} {e : Expr} {es : List Expr} {fs : Evs} {pos p : Pos} {x : Str} {k n : Nat} {g : Fnd} {f : Addr} {fd : FuncData} {ps : List Str} {sp : Sp} {t : TA} {E : L2.St → XK}
def tCallG (sp : Sp) (E : L2.St → XK) (t : TA) : TE := fun σ H Q => t σ H fun vs H1 => sp vs H1 Q (E σ)
theorem FnG.at {pins : List (Addr × Obj)} {σ : L2.St} {H : Hp} {s : Shared} {us : List Value} {vs : List V} {Q : VK} {E : XK} (F : FnG X.prog X.w X.K X.mg X.base k f fd ps sp) (hgd : X.A.guards = some []) (hr : Room k X.A) (hb : Binds X.K fd ps [])
    (hx : PassesAt (L2.CX X.prog X.w) X σ E) (I : L2.Inv X pins σ H s) (rv : Vals vs us) (h : sp vs H Q E) : wpAny (model X.prog X.w) X.A (call (.ref f) us) (EP X pins σ Q) X.xe s := by
  have hl : us.length = ps.length := rv.length.symm.trans (F.many h)
  have bt : BindsTo s fd ⟨us, []⟩ (ps.zip us) := by simpa using hb s us I.kIn (by simpa using hl)
  refine wpAny_call (codeAny_mono (F.goes hgd hr I.env0 bt rv h) ?_)
  intro r s' z
  match r, z with
  | .error e, z => exact hx pins H s e s' I z
  | .ok (.ret u), z => exact I.after z
  | .ok .next, z => exact z.elim
  | .ok .brk, z => exact z.elim
  | .ok .cont, z => exact z.elim
theorem pe_callG (F : FnG X.prog X.w X.K X.mg X.base k f fd ps sp) (hgd : X.A.guards = some []) (hr : Room k X.A) (hg : Gl X x) (hm : X.mg x = some (.ref f)) (hk : PySem.W.keepIn X.K (.ref f) = true) (hb : Binds X.K fd ps []) (hx : ∀ σ, PassesAt (L2.CX X.prog X.w) X σ (E σ))
    (ha : PA X (e :: es) t) (hdb : (x == ("__debug__" : Str)) = false) (he : starEach (e :: es) X.env = (false, eval e X.env) :: starEach es X.env) (hpl : (backTo pos (starEach es X.env)).any (·.1) = false) : PE X (.Call (.Name x p) (e :: es) [] pos) (tCallG sp E t) := by
  constructor
  intro pins s σ H Q I h
  have args := ha.run pos pins s σ H _ I h
  refine wpAny_Call_Name_kw (ld_glob I hg hm (PySem.W.callWith_K (h₀ := X.base) I.ok.mod.kin hk (thn args ?_) he hpl) hdb)
  rintro us s1 ⟨vs, H1, I1, rv, q⟩
  exact ⟨I1.kIn, F.at hgd hr hb (hx σ) I1 rv q⟩
/-- a def as it stands, called where nothing is being shown -/
structure CalG (P : Program) (w : World) (K : PySem.W.Frag) (mg : Str → Option Value) (base : Heap) (ca : CA) (k : Nat) (x : Str) (n : Nat) (g : Fnd) : Prop where
  ex : ∃ f fd ps, mg x = some (.ref f) ∧ PySem.W.keepIn K (.ref f) = true ∧ Binds K fd ps [] ∧ FnG P w K mg base k f fd ps (spF K ca n g)
theorem CalG.of {P : Program} {w : World} {K : PySem.W.Frag} {mg : Str → Option Value} {base : Heap} (C : Cal P w K mg base ca k x n g) : CalG P w K mg base ca k x n g := let ⟨f, fd, ps, a, b, c, F⟩ := C.ex; ⟨f, fd, ps, a, b, c, FnG.of F⟩
theorem de_callG (hgd : X.A.guards = some []) (C : CalG X.prog X.w X.K X.mg X.base ca k x n g) (hr : Room k X.A) (tk : Takes X W) (h : DA ca X W (e :: es) fs) (hg : Gl X x := by rfl) (hdb : (x == ("__debug__" : Str)) = false := by decide)
    (he : starEach (e :: es) X.env = (false, eval e X.env) :: starEach es X.env := by rfl) (hpl : (backTo pos (starEach es X.env)).any (·.1) = false := by rfl) : DE ca X W (.Call (.Name x p) (e :: es) [] pos) (mCall g n fs) := by
  obtain ⟨t, pp, q⟩ := h.ex
  obtain ⟨fa, fd, ps, h1, h2, h3, F⟩ := C.ex
  refine ⟨_, pe_callG (E := WE W) F hgd hr hg h1 h2 h3 (fun σ => passAt tk σ) pp hdb he hpl, fun μ σ H ρ S hR hE => Aq.bind (R1 := rVs X.K) (t1 := t σ H) (k := fun vs H1 (Q : VK) => spF X.K ca n g vs H1 Q (WE W σ)) (q μ σ H ρ S hR hE) fun ds vs μ1 H1 S1 e1 r1 x1 => ?_⟩
  split
  · rename_i hl
    intro r hf Q hp
    exact ⟨(VRs.len x1).symm.trans hl, μ1, ds, S1, r, r1, x1, hf, hp⟩
  · exact Aq.stuck
/-- a def of the text -/
theorem fn_gC {P : Program} {w : World} {K : PySem.W.Frag} {mg : Str → Option Value} {base : Heap} {qual : Str} {st : Stmt} {N : List Str} {b : Sm} (F : Fun K x qual st f fd) (S : FnScope N ps (defScope st)) (hn : ps.length = n)
    (hb : ∀ (cdv : Value) (A : Around) (outer : List PySem.Env) (s : Shared) (H : Hp) (E : XK), fd.code = cdv → A.guards = some [] → Room k (A.deeper (envOfC qual (defScope st) s.heap.objs.size f cdv)) →
      DSs ca (cxOf (L2.CX P w) P w K mg base N qual (defScope st) f cdv A outer s H E) (fun cls d _ H => E cls d H) (defBody st) b) : FnG P w K mg base (k + 1) f fd ps (spF K ca n (bodyD N.length b)) := by
  refine FnG.body F S (fun h => h.1.trans hn.symm) fun cdv A outer s H vs Q E hc hg hr h => ?_
  obtain ⟨t, p, q⟩ := (hb cdv A outer s H E hc hg hr).ex
  refine ⟨t, p, ?_⟩
  obtain ⟨hl, μ, ds, S0, r, R0, hv, hf, hp⟩ := h
  unfold bodyD at hf
  cases z : b (startD N.length ds) S0 with
  | none => rw [z] at hf; cases hf
  | some r1 =>
    rw [z] at hf
    obtain ⟨r1, S1⟩ := r1
    refine q μ _ H _ S0 _ R0 (ER.start N hv) z _ ?_
    cases r1 with
    | nx ρ => cases hf; exact fun μ' H' σ' e r1 _ => hp μ' H' .non e r1 .iNon
    | rt d => cases hf; exact fun μ' H' v e r1 x1 => hp μ' H' v e r1 x1
    | ex c fs ρ => cases hf; exact fun μ' H' σ' dd e r1 _ x1 => hp μ' H' dd e r1 x1
    | bk ρ => cases hf
    | ct ρ => cases hf
/-- a def of the text -/
theorem fn_g {P : Program} {w : World} {K : PySem.W.Frag} {mg : Str → Option Value} {base : Heap} {qual : Str} {st : Stmt} {N : List Str} {b : Sm} (F : Fun K x qual st f fd) (S : FnScope N ps (defScope st)) (hn : ps.length = n)
    (hb : ∀ (cdv : Value) (A : Around) (outer : List PySem.Env) (s : Shared) (H : Hp) (E : XK), A.guards = some [] → Room k (A.deeper (envOfC qual (defScope st) s.heap.objs.size f cdv)) →
      DSs ca (cxOf (L2.CX P w) P w K mg base N qual (defScope st) f cdv A outer s H E) (fun cls d _ H => E cls d H) (defBody st) b) : FnG P w K mg base (k + 1) f fd ps (spF K ca n (bodyD N.length b)) :=
  fn_gC F S hn fun cdv A outer s H E _ hg hr => hb cdv A outer s H E hg hr
end
end Tl
set_option Elab.async false
set_option linter.all false
set_option maxRecDepth 100000
set_option maxHeartbeats 4000000
set_option autoImplicit false
namespace Tl
open PySem L2 PySem.Spec PyProof.Rows RZ

/-! ### the law's own call, where nothing is being shown -/
section
variable {P : Program} {w : World} {K : PySem.W.Frag} {mg mb : Str → Option Value} {k : Nat} {fa a : Addr} {fd : FuncData} {x : Str} {sp : Sp} {s1 : Shared} {us : List Value} {ns : List Int} {H : Hp}
/-- at most the script is told of -/
structure Sc (P : Program) (w : World) (K : PySem.W.Frag) (s1 : Shared) (a : Addr) (ns : List Int) (H : Hp) : Prop where
  one : ∀ b, H b ≠ none → b = a ∧ K.lookup b = none
  only : Only H
  sq : SqL K H a (ns.map V.int)
  ok : HOk P w H s1.heap
theorem sc_some (KX : K.In s1.heap) (ha : s1.heap.get? a = some { cls := .type "list", data := .seq us.toArray }) (hi : IntsAre us ns) (hl : ns.length ≤ sizeLine) : ∃ H, Sc P w K s1 a ns H := by
  have rv := vals_ints hi
  by_cases hk : K.lookup a = none
  · let o : Obj := { cls := .type "list", data := .seq us.toArray }
    let G : Hp := fun b => if b = a then some (.frz o (.lst (ns.map V.int))) else none
    have g1 : G a = some (.frz o (.lst (ns.map V.int))) := if_pos rfl
    have g2 : ∀ {b}, b ≠ a → G b = none := fun h => if_neg h
    refine ⟨G, fun b h => ?_, fun b => ?_, Or.inl (Or.inr ⟨o, g1⟩), ?_⟩
    · rcases Classical.em (b = a) with e | e
      · exact ⟨e, e ▸ hk⟩
      · exact (h (g2 e)).elim
    · rcases Classical.em (b = a) with e | e
      · exact Or.inr ⟨o, _, e ▸ g1⟩
      · exact Or.inl (g2 e)
    · intro b u z
      rcases Classical.em (b = a) with e | e
      · subst e
        rw [g1] at z
        injection z with z
        subst z
        refine ⟨ha, ?_, us, _, rv, ha⟩
        rw [List.length_map]; exact hl
      · rw [g2 e] at z; cases z
  · obtain ⟨o, ho⟩ := Option.ne_none_iff_exists'.mp hk
    have e := KX a o ho
    rw [ha] at e
    injection e with e
    subst e
    refine ⟨fun _ => none, fun b h => (h rfl).elim, fun _ => Or.inl rfl, Or.inr ⟨_, us.toArray, _, ho, rfl, rfl, rfl, ?_, ?_⟩, fun b u z => ?_⟩
    · rw [List.size_toArray, hi.length]; exact hl
    · simpa using rv
    · injection (show (none : Option HO) = some u from z)
theorem Sc.env (c : Sc P w K s1 a ns H) (KX : K.In s1.heap) (hns : s1.heap.Ns mainGlobals mg) (hb : s1.heap.Ns builtinsNs mb) (hbb : ∀ y : Str, y ≠ "__name__" → mb y = bootBuiltins y) (hlim : s1.heap.NoLimit) (hg : s1.gens = #[])
    (ha : s1.heap.get? a = some { cls := .type "list", data := .seq us.toArray }) : Env0 P w K mg (hidT s1.heap H) callerA [] s1 H := by
  have keepN : ∀ {b : Addr} {m : Str → Option Value}, s1.heap.Ns b m → (hidT s1.heap H).Ns b m := by
    rintro b m ⟨o, es, ep, e, dd, r⟩
    refine ⟨o, es, ep, hidT_get e ?_, dd, r⟩
    refine Classical.byContradiction fun h => ?_
    obtain ⟨rfl, _⟩ := c.one b h
    rw [ha] at e
    injection e with e
    subst e
    exact nomatch dd
  have kin : K.In (hidT s1.heap H) := fun b o e => hidT_get (KX b o e) (Classical.byContradiction fun h => by
    rw [(c.one b h).2] at e; cases e)
  obtain ⟨mc, l1, l2⟩ := hlim
  exact { frames := rfl, mod := ⟨kin, keepN hns, ⟨mb, keepN hb, hbb⟩, mc, keepN l1, l2⟩, bs := fun _ _ e => of_hidT e, bsz := Nat.le_of_eq (hidT_size _ _), funs := trivial, frf := fun b hm => by simp [frs] at hm, hok := c.ok, bare := AllBare.of_eq hg }
theorem law_goes (KX : K.In s1.heap) (hns : s1.heap.Ns mainGlobals mg) (hb : s1.heap.Ns builtinsNs mb) (hbb : ∀ y : Str, y ≠ "__name__" → mb y = bootBuiltins y) (hlim : s1.heap.NoLimit) (hg : s1.gens = #[])
    (ha : s1.heap.get? a = some { cls := .type "list", data := .seq us.toArray }) (hi : IntsAre us ns) (hl : ns.length ≤ sizeLine) (hr : Room k callerA) (F : ∀ base : Heap, K.In base → base.Ns mainGlobals mg → FnG P w K mg base k fa fd [x] sp)
    (hbind : ∀ (s : Shared) (u : Value), BindsTo s fd ⟨[u], []⟩ [(x, u)]) (hsp : ∀ H : Hp, Only H → SqL K H a (ns.map V.int) → sp [.ref a] H (fun v _ => v = .bl true) fun _ _ _ => False) (hCX : ∀ H e s', L2.CX P w [] H s1 (fun _ _ _ => False) e s' → False) :
    codeAny (model P w) callerA (.call (.ref fa) ⟨[.ref a], []⟩) (fun r s' => r = .ok (.ret (.bool true)) ∧ OldK s1.heap s'.heap ∧ s'.os = s1.os ∧ AllBare s'.gens) s1 := by
  obtain ⟨H, c⟩ := sc_some (P := P) (w := w) KX ha hi hl
  have e0 := c.env KX hns hb hbb hlim hg ha
  have G := F _ e0.mod.kin e0.mod.glob
  refine codeAny_mono (G.goes (us := [.ref a]) rfl hr e0 (hbind s1 _) (vs := [V.ref a]) (.cons rfl .nil) (hsp H c.only c.sq)) ?_
  intro r s' z
  match r, z with
  | .error e, z => exact (hCX H e s' z).elim
  | .ok .next, z => exact z.elim
  | .ok .brk, z => exact z.elim
  | .ok .cont, z => exact z.elim
  | .ok (.ret u), z =>
    obtain ⟨v, H', os, bare, un, ok', r', q⟩ := z
    cases (show v = .bl true from q)
    cases (show u = Value.bool true from r')
    refine ⟨rfl, OldK.of_keep fun b o e => ?_, os, bare⟩
    rcases c.only b with q | ⟨ob, xs, q⟩
    · exact un.keep b o e q (by simp [frs]) (by simp)
    · have e1 := (c.ok b _ q).1
      have e2 := (ok' b _ (un.frzs b ob _ q)).1
      rw [e] at e1
      injection e1 with e1
      subst e1
      exact e2
end
theorem walkG {l : PySem.W.OpenLaw} {n k : Nat} {q : Program} {loose : List Str} {XP : (Str → Option Value) → Heap → Prop} {YP : World → Heap → Prop} {d : DefRec} {K : Params → PySem.W.Frag} {sp : World → Sp} {x : Str}
    (hn : l.most = some n) (hn2 : n ≤ sizeLine) (hdf : d.params.defaults = []) (hr : Room k callerA) (hY : ∀ (w : World) (h : Heap), YP w h → (K w.params).In h)
    (F : ∀ (w : World) (mg : Str → Option Value) (fa : Addr) (h : Heap), (K w.params).In h → h.Ns mainGlobals mg → mg d.name = some (.ref fa) →
      ∃ fd : FuncData, (∀ (s : Shared) (u : Value), BindsTo s fd ⟨[u], []⟩ [(x, u)]) ∧ ∀ base : Heap, (K w.params).In base → base.Ns mainGlobals mg → FnG l.prog w (K w.params) mg base k fa fd [x] (sp w))
    (hsp : ∀ (w : World) (H : Hp) (a : Addr) (ns : List Int), ns.length ≤ n → Only H → SqL (K w.params) H a (ns.map V.int) → sp w [.ref a] H (fun v _ => v = .bl true) fun _ _ _ => False)
    (hCX : ∀ (w : World) (H : Hp) (s : Shared) (e : Value) (s' : Shared), L2.CX l.prog w [] H s (fun _ _ _ => False) e s' → False) : PySem.W.WalkO q loose XP YP l.row.toRowW d [] (fun f vs => PySem.call f vs) := by
  refine Att.attach_call hn hdf ?_
  intro w s0 s1 mg mb fa o pm cd doc a us ns G Y ho hd hcd hmg hobj hints hlen hg
  obtain ⟨fd, hb, hF⟩ := F w mg fa _ (hY w _ Y) G.T.g hmg
  exact law_goes (hY w _ Y) G.T.g G.T.b G.T.builtins G.T.nolimit hg hobj hints (Nat.le_trans hlen hn2) hr hF hb (fun H hO hS => hsp w H a ns hlen hO hS) fun H e s' => hCX w H s1 e s'
end Tl
set_option Elab.async false
set_option linter.all false
set_option maxRecDepth 100000
set_option maxHeartbeats 4000000
set_option autoImplicit false
namespace Tl
open PySem L2 PySem.Spec PyProof.Rows RZ

/-! ### repr of plain things -/
mutual
theorem Dp.plain {K : PySem.W.Frag} {H : Hp} : ∀ (d : PyData) (v : V), Dp K H v d → d.hasDict = false
  | .none, _, _ => by simp [PyData.hasDict]
  | .bool _, _, _ => by simp [PyData.hasDict]
  | .int _, _, _ => by simp [PyData.hasDict]
  | .str _, _, _ => by simp [PyData.hasDict]
  | .list ds, _, h => by
    cases h with
    | lst hs ha => simp only [PyData.hasDict]; exact DpAll.plain ds _ ha
  | .tuple ds, _, h => by
    cases h with
    | tup hs ha => simp only [PyData.hasDict]; exact DpAll.plain ds _ ha
  | .dict _, _, h => by cases h
theorem DpAll.plain {K : PySem.W.Frag} {H : Hp} : ∀ (ds : List PyData) (vs : List V), DpAll K H vs ds → PyData.hasDictAll ds = false
  | [], _, _ => by simp [PyData.hasDictAll]
  | d :: ds, _, h => by
    cases h with
    | cons h1 h2 => simp only [PyData.hasDictAll, Dp.plain d _ h1, DpAll.plain ds _ h2, Bool.or_false]
end
/-- what can be shown -/
structure Shows (d : PyData) : Prop where
  ok : d.showable = true
  dp : d.depth ≤ 60
  sz : d.shown.length ≤ 16000000
instance (d : PyData) : Decidable (Shows d) := decidable_of_iff (d.showable = true ∧ d.depth ≤ 60 ∧ d.shown.length ≤ 16000000) ⟨fun h => ⟨h.1, h.2.1, h.2.2⟩, fun h => ⟨h.ok, h.dp, h.sz⟩⟩
def reprD : List D → M D
  | [.tup ds] => match toP (.tup ds) with
    | some p => if Shows p then M.ret (.str p.shown) else M.stuck
    | none => M.stuck
  | [.lst ds] => match toP (.lst ds) with
    | some p => if Shows p then M.ret (.str p.shown) else M.stuck
    | none => M.stuck
  | [.int i] => if i.natAbs.log2 < 1920 then M.ret (.str (toString i)) else M.stuck
  | _ => M.stuck
theorem bb_repr : bootBuiltins ("repr" : Str) = some (.builtin "repr") := by decide +kernel
def rRepr (K : PySem.W.Frag) : List V → Hp → VK → Prop := fun xs H Q => (∃ a d, xs = [.ref a] ∧ Dp K H (.ref a) d ∧ Shows d ∧ Q (.str d.shown) H) ∨ ∃ i, xs = [.int i] ∧ i.natAbs.log2 < 1920 ∧ Q (.str (toString i)) H
section
variable {X : Cx}
theorem call_reprD (hg : X.A.guards = some []) (hu : X.A.units + 64 < cLine) : CallR X (.builtin "repr") (rRepr X.K) := by
  intro pins s σ H xs us Q I r h
  rcases h with ⟨a, d, rfl, hd, sh, q⟩ | ⟨i, rfl, hi, q⟩
  · cases r with
    | cons rx rr =>
      cases rr
      cases rx
      obtain ⟨as, rd⟩ := Dp.reads I d _ _ hd rfl
      refine repr_of_reads' rd sh.ok (PyData.noDict_hsm (Dp.plain d _ hd)) hg (by have := sh.dp; omega) (fun _ _ e => e) (fun h' u tk hk => ?_) (Nat.le_trans sh.sz (by decide))
      exact ⟨.str d.shown, H, I.kept hk, ⟨u, rfl⟩, q⟩
  · cases r with
    | cons rx rr =>
      cases rr
      obtain ⟨t, rfl⟩ := rx
      exact PySem.P.repr_of_int hi ⟨.str _, H, I.tok _, ⟨_, rfl⟩, q⟩
end
theorem q_repr {K : PySem.W.Frag} {ca : CA} : CallQ K ca (rRepr K) reprD := by
  intro μ H S ds vs W σ hr hv
  unfold reprD
  split
  · obtain ⟨v, rfl, h⟩ := one hv
    split
    · rename_i p hp
      split
      · rename_i hs
        obtain ⟨a, xs, rfl, t, hx⟩ := VR.tup h
        exact (Aq.ret (R := rV K) hr VR.iStr).imp fun Q q => .inl ⟨a, p, rfl, VR.dp h hp, hs, q⟩
      · exact Aq.stuck
    · exact Aq.stuck
  · obtain ⟨v, rfl, h⟩ := one hv
    split
    · rename_i p hp
      split
      · rename_i hs
        obtain ⟨a, xs, rfl, t, hx⟩ := VR.lst h
        exact (Aq.ret (R := rV K) hr VR.iStr).imp fun Q q => .inl ⟨a, p, rfl, VR.dp h hp, hs, q⟩
      · exact Aq.stuck
    · exact Aq.stuck
  · obtain ⟨v, rfl, h⟩ := one hv
    split
    · rename_i hs
      exact (Aq.ret (R := rV K) hr VR.iStr).imp fun Q q => .inr ⟨_, by rw [h.int], hs, q⟩
    · exact Aq.stuck
  · exact Aq.stuck
end Tl
set_option Elab.async false
set_option linter.all false
set_option maxRecDepth 100000
set_option maxHeartbeats 4000000
set_option autoImplicit false
namespace Tl
open PySem L2 PySem.Spec PyProof.Rows RZ

/-! ### own classes -/
/-- what is asked of an own class -/
structure ClF (K : PySem.W.Frag) (C : Addr) : Prop where
  cl : Cls K C
  ha : PySem.W.findIn K (.ref C) "__class__" = some (some (.builtin "object.__class__"))
  hn : PySem.W.specialIn K (.builtin "object.__class__") "__get__" = some (some (.builtin "getset_descriptor.__get__"))
  htk : PySem.W.takesIn K (.builtin "object.__class__") = some true
  hm : PySem.W.mroIn K C (.type "object") = some true
/-- C asked of instances of the classes below N, and of plain things -/
structure IsC (K : PySem.W.Frag) (ca : CA) (N : Nat) (C : Addr) (tab : Nat → Bool) : Prop where
  own : ∀ c, c < N → ClF K (ca c) ∧ PySem.W.kitOne K (.ref (ca c)) (.ref C) = some (tab c)
  bas : ∀ n ∈ ["NoneType", "bool", "int", "str", "tuple", "list", "dict"], PySem.W.kitOne K (.type n) (.ref C) = some false
def isOD (N : Nat) (tab : Nat → Bool) (d : D) : M D := match d with
  | .ref n => fun S => match S[n]? with
    | some (.ins c _) => if c < N then some (.ok (.bl (tab c)), S) else none
    | _ => none
  | .scr _ => M.stuck
  | .fn _ => M.stuck
  | .thk _ _ _ _ _ => M.stuck
  | _ => M.ret (.bl false)
def mIsO (N : Nat) (tab : Nat → Bool) (f : Ev) : Ev := fun ρ => (f ρ).bind (isOD N tab)
def mFldN (N : Nat) (n : Str) (f : Ev) : Ev := fun ρ => (f ρ).bind fun d => match d with
  | .ref k => fun S => match S[k]? with
    | some (.ins c fs) => if c < N then (match fs.lookup n with
      | some d => some (.ok d, S)
      | none => none) else none
    | _ => none
  | _ => M.stuck
section
variable {ca : CA} {X : Cx} {W : WX} {e : Expr} {f : Ev} {pos p p1 : Pos} {x : Str}
theorem isO_of {N : Nat} {C : Addr} {tab : Nat → Bool} {μ : Mm} {σ : L2.St} {H : Hp} {S : Store} {d : D} {v : V} (c : IsC X.K ca N C tab) (hr : Rel X.K ca μ H S) (h : VR X.K μ H d v) : Aq (rV X.K) ca W μ σ H S (fun Q => rIsi X.K [v, .ref C] H Q) (isOD N tab d) := by
  have base : ∀ {n : String} {b : Bool}, TyX X.K H v (.type n) → PySem.W.kitOne X.K (.type n) (.ref C) = some b → Aq (rV X.K) ca W μ σ H S (fun Q => rIsi X.K [v, .ref C] H Q) (M.ret (.bl b)) := fun t k =>
    (Aq.ret (R := rV X.K) hr VR.iBl).imp fun Q z => ⟨v, .ref C, _, _, _, rfl, .own C, t, k, z⟩
  unfold isOD
  cases d with
  | ref n =>
    intro r hf Q hp
    obtain ⟨a, hm, rfl⟩ := VR.ref h
    dsimp only at hf
    split at hf
    · rename_i c' fs hs
      split at hf
      · rename_i hc
        cases hf
        obtain ⟨dx, vf, ho, _⟩ := hr.ob n a _ hm hs
        obtain ⟨F, k⟩ := c.own c' hc
        exact ⟨_, .ref C, .ref (ca c'), .ref C, _, rfl, .own C, .base (.ins ho F.cl F.ha F.hn F.htk F.hm), k, hp μ H _ hr.refl hr VR.iBl⟩
      · cases hf
    · cases hf
  | scr _ => exact Aq.stuck
  | fn _ => exact Aq.stuck
  | thk _ _ _ _ _ => exact Aq.stuck
  | non => exact base (VR.tyX h rfl) (c.bas _ (by simp))
  | bl _ => exact base (VR.tyX h rfl) (c.bas _ (by simp))
  | int _ => exact base (VR.tyX h rfl) (c.bas _ (by simp))
  | str _ => exact base (VR.tyX h rfl) (c.bas _ (by simp))
  | tup _ => exact base (VR.tyX h rfl) (c.bas _ (by simp))
  | lst _ => exact base (VR.tyX h rfl) (c.bas _ (by simp))
  | dct => exact base (VR.tyX h rfl) (c.bas _ (by simp))
theorem de_isO {N : Nat} {C : Addr} {tab : Nat → Bool} (c : IsC X.K ca N C tab) (hC : X.mg x = some (.ref C)) (hmi : X.mg "isinstance" = none) (h : DE ca X W e f) (hgi : Gl X "isinstance" := by rfl) (hgx : Gl X x := by rfl) (hdb : (x == ("__debug__" : Str)) = false := by decide)
    (he : starEach [e, .Name x p1] X.env = (false, eval e X.env) :: starEach [.Name x p1] X.env := by rfl) (he2 : starEach [.Name x p1] X.env = (false, eval (.Name x p1) X.env) :: starEach [] X.env := by rfl) (hpl : (backTo pos (starEach [.Name x p1] X.env)).any (·.1) = false := by rfl) :
    DE ca X W (.Call (.Name "isinstance" p) [e, .Name x p1] [] pos) (mIsO N tab f) := by
  obtain ⟨t, pp, q⟩ := h.ex
  have pT : PE X (.Name x p1) (tC (.ref C)) := pe_glob (v := .ref C) hgx hC rfl hdb
  exact ⟨_, pe_callB call_isi hgi hmi bb_isi (pa_cons pp (pa_cons pT pa_nil he2) he) (by decide) (by decide) he hpl, fun μ σ H ρ S hr he => Aq.bind (R1 := rV X.K) (t1 := t σ H) (k := fun x H1 Q => rIsi X.K [x, .ref C] H1 Q) (q μ σ H ρ S hr he) fun d x μ1 H1 S1 e1 r1 x1 => isO_of c r1 x1⟩
theorem de_fldN {N : Nat} {n : Str} (hc : ∀ c, c < N → Cls X.K (ca c) ∧ NoAttr X.K (ca c) n) (h1 : DE ca X W e f) (hb : attributeBase e n X.env (eval e X.env) = eval e X.env := by rfl) : DE ca X W (.Attribute e n pos) (mFldN N n f) := by
  obtain ⟨t, p, q⟩ := h1.ex
  refine ⟨_, pe_fld p hb, fun μ σ H ρ S hr he => Aq.bind (R1 := rV X.K) (t1 := t σ H) (k := fun x H1 Q => ∃ a C dx fs v, x = .ref a ∧ H1 a = some (.ins C dx fs) ∧ Cls X.K C ∧ NoAttr X.K C n ∧ fs.lookup n = some v ∧ Q v H1) (q μ σ H ρ S hr he) fun d x μ1 H1 S1 e1 r1 x1 => ?_⟩
  cases d with
  | ref k =>
    intro r hf Q hp
    obtain ⟨a, hm, rfl⟩ := VR.ref x1
    dsimp only at hf
    split at hf
    · rename_i c' fs' hs
      split at hf
      · rename_i hcc
        split at hf
        · rename_i d hl
          cases hf
          obtain ⟨dx, vf, ho, g1, g2⟩ := r1.ob k a _ hm hs
          obtain ⟨v, l1, l2⟩ := lookup_of g1 g2 hl
          exact ⟨a, _, dx, vf, v, rfl, ho, (hc c' hcc).1, (hc c' hcc).2, l1, hp μ1 H1 v r1.refl r1 l2⟩
        · cases hf
      · cases hf
    · cases hf
  | _ => exact Aq.stuck
end
/-! ### == by an own __eq__ -/
/-- the classes below N have the same __eq__; asked of c and c' where ok c c' -/
structure Eqd (P : Program) (w : World) (K : PySem.W.Frag) (mg : Str → Option Value) (base : Heap) (ca : CA) (k N : Nat) (ok : Nat → Nat → Bool) (g : Fnd) : Prop where
  ex : ∃ f fd ps, PySem.W.isFn K (.ref f) = true ∧ Binds K fd ps [] ∧ FnOk P w K mg base (L2.CX P w) k f fd ps (spF K ca 2 g) ∧ (∀ c, c < N → PySem.W.findIn K (.ref (ca c)) "__eq__" = some (some (.ref f))) ∧
    ∀ c c', c < N → c' < N → ok c c' = true → PySem.W.notFirst K (ca c) (.ref (ca c')) = true
def rEqO (K : PySem.W.Frag) (f : Addr) (sp : Sp) : R2 := fun x y H Q => ∃ a b dx dy fs gs C C', x = .ref a ∧ y = .ref b ∧ H a = some (.ins C dx fs) ∧ H b = some (.ins C' dy gs) ∧ PySem.W.notFirst K C (.ref C') = true ∧ PySem.W.findIn K (.ref C) "__eq__" = some (some (.ref f)) ∧
  sp [x, y] H (fun v H' => ∃ t, v = .bl t ∧ Q v H') (fun _ _ _ => False)
theorem op_eqO {X : Cx} {k : Nat} {f : Addr} {fd : FuncData} {ps : List Str} {sp : Sp} (F : FnOk X.prog X.w X.K X.mg X.base (L2.CX X.prog X.w) k f fd ps sp) (hf : PySem.W.isFn X.K (.ref f) = true) (hb : Binds X.K fd ps []) (hr : Room k X.A) (hx : Passes (L2.CX X.prog X.w) X (fun _ _ _ => False)) : OpR X (compareOp .Eq) (rEqO X.K f sp) := by
  intro pins s σ H x y v u Q I rx ry h
  obtain ⟨a, b, dx, dy, fs, gs, C, C', rfl, rfl, ha, hb', nf, hs, hsp⟩ := h
  cases rx
  cases ry
  obtain ⟨_, O1, _⟩ := ins_get I.hok ha
  obtain ⟨_, O2, _⟩ := ins_get I.hok hb'
  obtain ⟨_, J1, _⟩ := O1.look
  obtain ⟨_, J2, _⟩ := O2.look
  obtain ⟨m, fr⟩ := I.fr
  have go := run_fn (Q := fun v H' => ∃ t, v = .bl t ∧ Q v H') (us := [.ref a, .ref b]) (dvs := []) F hr hb .nil hx I (vs := [V.ref a, V.ref b]) (.cons rfl (.cons rfl .nil)) (by simpa using hsp)
  refine PySem.W.cmp_K (op := .Eq) (tb := .ref C') (Nat.lt_of_le_of_lt (Nat.le_add_right _ _) hr.un |> fun h => by omega) fr I.ok.mod.kin J1 J2.type nf hs hf (thn go ?_)
  rintro z s1 ⟨z', H1, I1, rz, t, rfl, q⟩
  cases (show z = Value.bool t from rz)
  exact ⟨.bl t, H1, I1, rfl, q⟩
def eqO (N : Nat) (ok : Nat → Nat → Bool) (g : Fnd) (x y : D) : M D := match x, y with
  | .ref n, .ref m => fun S => match S[n]?, S[m]? with
    | some (.ins c _), some (.ins c' _) => if c < N ∧ c' < N ∧ ok c c' = true then (match g [.ref n, .ref m] S with
      | some (.ok (.bl t), S') => some (.ok (.bl t), S')
      | _ => none) else none
    | _, _ => none
  | _, _ => M.stuck
theorem q_eqO {K : PySem.W.Frag} {ca : CA} {N : Nat} {ok : Nat → Nat → Bool} {g : Fnd} {f : Addr} (h1 : ∀ c, c < N → PySem.W.findIn K (.ref (ca c)) "__eq__" = some (some (.ref f))) (h2 : ∀ c c', c < N → c' < N → ok c c' = true → PySem.W.notFirst K (ca c) (.ref (ca c')) = true) : OpQ K ca (rEqO K f (spF K ca 2 g)) (eqO N ok g) := by
  intro μ H S dx dy x y W σ hr hx hy
  unfold eqO
  split
  · rename_i n m
    intro r hf Q hp
    obtain ⟨a, ha, rfl⟩ := VR.ref hx
    obtain ⟨b, hb, rfl⟩ := VR.ref hy
    dsimp only at hf
    split at hf
    · rename_i c fs c' gs e1 e2
      split at hf
      · rename_i hc
        split at hf
        · rename_i t S' e
          cases hf
          obtain ⟨d1, vf, o1, _⟩ := hr.ob n a _ ha e1
          obtain ⟨d2, vg, o2, _⟩ := hr.ob m b _ hb e2
          refine ⟨a, b, d1, d2, vf, vg, _, _, rfl, rfl, o1, o2, h2 c c' hc.1 hc.2.1 hc.2.2, h1 c hc.1, rfl, μ, _, S, _, hr, .iCons hx (.iCons hy .iNil), e, ?_⟩
          intro μ' H' v x1 r1 y1
          exact ⟨t, y1.bl, hp μ' H' v x1 r1 y1⟩
        · cases hf
      · cases hf
    · cases hf
  · exact Aq.stuck
section
variable {ca : CA} {X : Cx} {W : WX} {a b : Expr} {f f' : Ev} {pos : Pos} {k N : Nat} {ok : Nat → Nat → Bool} {g : Fnd}
theorem de_eqO (C : Eqd X.prog X.w X.K X.mg X.base ca k N ok g) (hr : Room k X.A) (h1 : DE ca X W a f) (h2 : DE ca X W b f') (hm : behindInMarks .Eq b = false) : DE ca X W (.Compare a [.Eq] [b] pos) (mOp (eqO N ok g) f f') := by
  obtain ⟨fa, fd, ps, i1, i2, F, i3, i4⟩ := C.ex
  exact de_cmp (op_eqO F i1 i2 hr passL) (q_eqO i3 i4) h1 h2 hm
theorem dt_eqO (C : Eqd X.prog X.w X.K X.mg X.base ca k N ok g) (hr : Room k X.A) (h1 : DE ca X W a f) (h2 : DE ca X W b f') (hm : behindInMarks .Eq b = false) : DT ca X W (.Compare a [.Eq] [b] pos) (mB (mOp (eqO N ok g) f f')) := by
  obtain ⟨fa, fd, ps, i1, i2, F, i3, i4⟩ := C.ex
  exact dt_cmp (op_eqO F i1 i2 hr passL) (q_eqO i3 i4) h1 h2 hm
end
/-! ### max of a list -/
def maxL : List D → M D := onL fun ds => (asInts ds).bind fun ns => (ns.max?).map D.int
theorem q_maxL {K : PySem.W.Frag} {ca : CA} : CallQ K ca (rMax K) maxL := q_onL fun μ H S a ds vs d W σ hr t g e => by
  cases q : asInts ds with
  | none => rw [q] at e; cases e
  | some ns =>
    rw [q] at e
    rw [asInts_eq q] at g
    rw [g.ints_of] at t
    cases hm : ns.max? with
    | none =>
      rw [Option.bind_some, hm] at e; cases e
    | some m =>
      rw [Option.bind_some, hm] at e
      cases e
      obtain ⟨h1, h2⟩ := List.max?_eq_some_iff.mp hm
      refine (Aq.ret (R := rV K) hr VR.iInt).imp fun Q z => ⟨a, ns, rfl, t, List.length_pos_of_mem h1, fun m' a1 a2 => ?_⟩
      rw [Int.le_antisymm (h2 m' a1) (a2 m h1)]
      exact z
end Tl
set_option Elab.async false
set_option linter.all false
set_option maxRecDepth 100000
set_option maxHeartbeats 4000000
set_option autoImplicit false
namespace Tl
open PySem L2 PySem.Spec PyProof.Rows RZ

/-! ### texts compared -/
def eqS : D → D → M D
  | .str a, .str b => M.ret (.bl (decide (a = b)))
  | _, _ => M.stuck
theorem q_eqS {K : PySem.W.Frag} {ca : CA} : OpQ K ca rEq eqS := by
  intro μ H S dx dy x y W σ hr hx hy
  unfold eqS
  split
  · rename_i a b
    have h1 := hx.str
    have h2 := hy.str
    subst h1 h2
    refine (Aq.ret (R := rV K) hr VR.iBl).imp fun Q z => ⟨rfl, ?_⟩
    have e : decide (V.str a = V.str b) = decide (a = b) := by
      by_cases h : a = b
      · subst h; simp
      · rw [decide_eq_false h, decide_eq_false (fun e => h (V.str.inj e))]
    rw [e]
    exact z
  · exact Aq.stuck
end Tl
set_option Elab.async false
set_option linter.all false
set_option maxRecDepth 100000
set_option maxHeartbeats 4000000
set_option autoImplicit false
namespace Tl
open PySem L2 PySem.Spec PyProof.Rows RZ

/-! ### raise X(), X an own class -/
/-- what is asked of an own class of errors without own __init__ -/
structure ExK (K : PySem.W.Frag) (mg : Str → Option Value) (x : Str) (C : Addr) : Prop where
  ex : ∃ B newId initId bmB, ExcBaseFacts B newId initId bmB ∧ PySem.W.excIn K C bmB newId = true
  g : mg x = some (.ref C)
  k : PySem.W.keepIn K (.ref C) = true
  s : PySem.W.subIn K (.ref C) (.type "BaseException") = some true
  t : PySem.W.typeIn K (.ref C) = some (.type "type")
theorem pmk_x0 {X : Cx} {C : Addr} {x : Str} {p pos : Pos} (T : ExK X.K X.mg x C) (hg : Gl X x) (hdb : (x == ("__debug__" : Str)) = false) : PMk X (.Call (.Name x p) [] [] pos) (fun _ H Q => Q (.ref C) none H) := by
  intro pins s σ H Q I h
  obtain ⟨B, newId, initId, bmB, F, q⟩ := T.ex
  refine wpAny_Call_Name_kw (ld_glob I hg T.g ?_ hdb)
  refine PySem.W.callWith_K0 I.kIn T.k ?_
  obtain ⟨bm, N, nm, qn, bs, hdct, sn, sub, ab, col, dd, k0, k1, k2, k3, k5, mN, hC, hN, hni, tl⟩ := exc_obj I.kIn q
  exact wpAny_call_exc_subT F tl hC hN hni (fun h' e hm => mk_of I hm (raises_own T.s T.t) h (I.hok.gone hm.new)) (Nat.zero_le _)
def sRaise0 (c : Nat) : Sm := fun ρ S => some (.ex c [] ρ, S)
section
variable {ca : CA} {X : Cx} {W : WX}
theorem ds_raise0 {c : Nat} {x : Str} {p pos pos2 : Pos} (T : ExK X.K X.mg x (ca c)) (hc : X.calm = true) (tk : Takes X W) (hg : Gl X x := by rfl) (hdb : (x == ("__debug__" : Str)) = false := by decide) : DS ca X W (.Raise (some (.Call (.Name x p) [] [] pos)) none pos2) (sRaise0 c) :=
  ⟨_, ps_raise hc tk (pmk_x0 T hg hdb), fun μ σ H ρ S r hr he hf E hp => by cases hf; exact hp μ H σ none hr.refl hr he (.inl ⟨rfl, rfl⟩)⟩
end
/-! ### try: .. except X [as n]: .. -/
/-- one clause: its class, the slot of its name, its suite -/
structure Clz where
  c : Value
  i : Option Nat
  t : Addr → Value → Option Addr → TS
def setN (i : Option Nat) (v : Option V) (σ : L2.St) : L2.St := match i with
  | none => σ
  | some i => σ.set i v
def endsN (i : Option Nat) (D : Ends) : Ends := { nx := fun σ H => D.nx (setN i none σ) H, rt := D.rt, bk := fun σ H => D.bk (setN i none σ) H, ct := fun σ H => D.ct (setN i none σ) H }
def wClz (K : PySem.W.Frag) (Wout : WX) (D : Ends) : List Clz → WX
  | [] => Wout
  | z :: r => fun cls d σ H => ∃ b, PySem.W.exmOne K cls z.c = some b ∧ (b = true → ∀ a, H a = none → z.t a cls d (endsN z.i D) (setN z.i (some (.ref a)) σ) H) ∧ (b = false → wClz K Wout D r cls d σ H)
def NmOk (X : Cx) : Option Str → Option Nat → Prop
  | none, none => True
  | some n, some i => X.N[i]? = some n ∧ X.env.kindOf n = some .local
  | _, _ => False
inductive ClzOk (X : Cx) : List ExceptHandler → List Clz → Prop
  | nil : ClzOk X [] []
  | cons {x : Str} {nm : Option Str} {z : Clz} {b₀ : Stmt} {suite : List Stmt} {np pos' : Pos} {hds : List ExceptHandler} {l : List Clz} (hc : Names X x z.c) (hn : NmOk X nm z.i)
      (hsu : ∀ (a : Addr) (oe : Obj) (cls : Value) (d : Option Addr) (pn : List (Addr × Obj)), Zc cls d oe → (∃ vs, oe.data = .fields vs) → PSs (X.suite a ((a, oe) :: pn)) (b₀ :: suite) (z.t a cls d)) (r : ClzOk X hds l) :
      ClzOk X (.ExceptHandler (some (.Name x np)) nm (b₀ :: suite) pos' :: hds) (z :: l)
section
variable {X : Cx} {pins : List (Addr × Obj)} {σ : L2.St} {H : Hp}
/-- where a suite ends, the name goes -/
theorem suite_end {a : Addr} {q : Addr × Obj} {D : Ends} {i : Option Nat} {f : Flow} {s : Shared} (ok : X.Ok) (h : SP (X.suite a (q :: (X.pn ++ pins))) [] (endsN i D) f s)
    (go : ∀ {σ6 : L2.St} {H6 : Hp}, Inv X pins σ6 H6 s → ∀ Q : Shared → Prop, (∀ s7, Inv X pins (setN i none σ6) H6 s7 → Q s7) → Q s) : SP X pins D f s := by
  cases f with
  | next => obtain ⟨_, _, J, w⟩ := h; exact go (J.unsuite ok) _ fun s7 J7 => ⟨_, _, J7, w⟩
  | brk => obtain ⟨_, _, J, w⟩ := h; exact go (J.unsuite ok) _ fun s7 J7 => ⟨_, _, J7, w⟩
  | cont => obtain ⟨_, _, J, w⟩ := h; exact go (J.unsuite ok) _ fun s7 J7 => ⟨_, _, J7, w⟩
  | ret u => obtain ⟨v, _, _, J, rv, w⟩ := h; exact ⟨v, _, _, J.unsuite ok, rv, w⟩
theorem clz_go {a : Addr} {B : Heap} {sI s' : Shared} {cls : Value} {d : Option Addr} {h3 : Heap} {D : Ends} {Wout : WX} (ok : X.Ok) (hs : X.stack = X.env :: X.outer) (hf : X.env.frame = some X.env.locals) (hN : X.N.Nodup) (tk : Takes X Wout) (J : Inv X pins σ H sI)
    (nb : ∀ b o, sI.heap.get? b = some o → b ∉ frs X.stack → B.get? b = some o) (up : sI.heap.UpToSlots h3) (fl : HandSPX.FlyingZ B (X.env :: X.outer) a (Zc cls d) h3) (na : H a = none) (os : s'.os = sI.os) (ag : AllBare s'.gens) :
    ∀ {hds : List ExceptHandler} {l : List Clz}, ClzOk X hds l → wClz X.K Wout D l cls d σ H → wpAny (model X.prog X.w) X.A (handleBy (.ref a) X.env hds) (SP X pins D) X.xe { s' with heap := h3 } := by
  intro hds l hk
  have land : ∀ {h : Heap}, HandSPX.FlyingZ B (X.env :: X.outer) a (Zc cls d) h → h3.UpToSlots h → Inv X pins σ H { s' with heap := h } := fun f u => J.landed nb f.1 (up.trans u) os ag
  have J3 := land fl (Heap.UpToSlots.refl _)
  have away : a ≠ X.env.locals ∧ a ∉ X.fs := by
    obtain ⟨oe, vs, he, hz, hd⟩ := fl.there
    have no : a ∉ frs (X.env :: X.outer) := fun hm => by
      obtain ⟨_, o', e', nf⟩ := fl.2.2.1.mem hm
      cases he.symm.trans e'
      exact nf _ hd
    refine ⟨fun z => no (List.mem_filterMap.mpr ⟨X.env, List.mem_cons_self, by rw [hf, z]⟩), fun hm => ?_⟩
    obtain ⟨e, he', q⟩ := List.mem_filterMap.mp hm
    exact no (List.mem_filterMap.mpr ⟨e, List.mem_cons_of_mem _ he', q⟩)
  induction hk with
  | nil =>
    intro w
    refine wpAny_handleBy_nil ?_
    obtain ⟨_, _, _, oe, vs, T, _, _, he, _, hd, h1, _⟩ := id fl
    unfold PySem.passOn
    refine wpAny_bind (wpAny_field he hd h1 ?_)
    rw [if_neg (show ¬ ((Value.ref T == Value.none) = true) from by simp)]
    have on : wpAny (model X.prog X.w) X.A (setFlight (.ref a) X.env.frame) (fun _ s4 => wpAny (model X.prog X.w) X.A (throw (.ref a) : Sem Flow) (SP X pins D) X.xe s4) X.xe { s' with heap := h3 } := by
      rw [hf]
      refine HandSPX.setFlight_upZ fl fun h4 held u4 => wpAny_throw (tk _ _ ?_)
      exact ⟨a, B, sI, pins, σ, H, cls, d, rfl, J, nb, up.trans u4, .inr (.inr (by rw [hs]; exact held)), na, os, ag, w⟩
    first
      | exact wpAny_bind (wpAny_pure (wpAny_bind on))
      | exact wpAny_bind on
  | @cons x nm z b₀ suite np pos' hds l hc hn hsu r ih =>
    intro ⟨b, hb, yes, no⟩
    obtain ⟨oe, vs, he, hz, hd⟩ := fl.there
    have S3 := J3.suite he hd na away.1 away.2
    refine wpAny_handleBy_cons (codeAny_handlers_test ?_) (by intro q; cases q)
    have LM := PySem.W.exm_one (M := model X.prog X.w) J3.kIn (fun A Q E s k q => wpAny_typeOf_ref (k _ _ he) (by rw [hz.1]; exact q)) hb
    have ask : ∀ {Q : Value → Shared → Prop} {E : Value → Shared → Prop}, Q z.c { s' with heap := h3 } → wpAny (model X.prog X.w) (X.A.mark (some (.ref a))) (eval (.Name x np) X.env) Q E { s' with heap := h3 } := fun q => by
      obtain ⟨hg, hdb, hm | ⟨hm, hv, hnn⟩⟩ := hc
      · exact ld_glob (X := X.suite a ((a, oe) :: (X.pn ++ pins))) S3 hg hm q hdb
      · exact ld_blt (X := X.suite a ((a, oe) :: (X.pn ++ pins))) S3 hg hm hv q hnn hdb
    refine ask (LM.here ?_)
    cases b with
    | false => exact ih (no rfl)
    | true =>
      have yes := yes rfl a na
      match nm, hi : z.i, hn with
      | none, none, _ =>
        rw [hi] at yes
        refine codeAny_handlers_suite (HandSPX.lands_againZ fl fun h4 fl4 u4 => ?_)
        obtain ⟨oe4, vs4, he4, hz4, hd4⟩ := fl4.there
        have S4 := (land fl4 u4).suite he4 hd4 na away.1 away.2
        refine wpAny_mono ((hsu a oe4 cls d (X.pn ++ pins) hz4 ⟨_, hd4⟩).run [] _ _ H _ S4 yes) (fun f s6 h6 => ?_) fun _ _ z => False.elim z
        exact suite_end (i := none) ok h6 fun J6 Q hq => hq _ J6
      | some n, some i, hn =>
        obtain ⟨hni, hln⟩ : X.N[i]? = some n ∧ X.env.kindOf n = some .local := hn
        rw [hi] at yes
        refine codeAny_handlers_suite_as (HandSPX.lands_againZ fl fun h4 fl4 u4 => ?_)
        obtain ⟨oe4, vs4, he4, hz4, hd4⟩ := fl4.there
        have S4 := (land fl4 u4).suite he4 hd4 na away.1 away.2
        refine store_ok (X := X.suite a ((a, oe4) :: (X.pn ++ pins))) (v := .ref a) S4 hN hni (.inl hln) rfl (fun s5 S5 => ?_) (.inr hln)
        refine wpAny_mono ((hsu a oe4 cls d (X.pn ++ pins) hz4 ⟨_, hd4⟩).run [] s5 _ H _ S5 yes) (fun f s6 h6 => ?_) fun _ _ z => False.elim z
        have fin : ∀ {σ6 : L2.St} {H6 : Hp} {Q : Shared → Prop}, Inv (X.suite a ((a, oe4) :: (X.pn ++ pins))) [] σ6 H6 s6 → (∀ s7, Inv X pins (σ6.set i none) H6 s7 → Q s7) →
            wpAny (model X.prog X.w) X.A (do bindName X.env n .none; unbindBehindTheSuite X.env n pos') (fun _ s7 => Q s7) X.xe s6 := fun S6 hq => gone_ok (S6.unsuite ok) hN hni hln hq
        cases f with
        | next => obtain ⟨_, _, S6, w⟩ := h6; exact fin S6 fun s7 J7 => ⟨_, _, J7, w⟩
        | brk => obtain ⟨_, _, S6, w⟩ := h6; exact fin S6 fun s7 J7 => ⟨_, _, J7, w⟩
        | cont => obtain ⟨_, _, S6, w⟩ := h6; exact fin S6 fun s7 J7 => ⟨_, _, J7, w⟩
        | ret u => obtain ⟨v, _, _, S6, rv, w⟩ := h6; exact fin S6 fun s7 J7 => ⟨v, _, _, J7, rv, w⟩
end
theorem ps_tryZ {X : Cx} {body : List Stmt} {h₀ : ExceptHandler} {hds : List ExceptHandler} {l : List Clz} {pos : Pos} {tb : WX → TS} {Wout : WX} (hs : X.stack = X.env :: X.outer) (hf : X.env.frame = some X.env.locals) (hN : X.N.Nodup) (tk : Takes X Wout)
    (hb : ∀ (W : WX) (pn : List (Addr × Obj)) (xe : Value → Shared → Prop), Takes (X.tr pn xe) W → PassesOwn (model X.prog X.w) X.A X.env xe → PSs (X.tr pn xe) body (tb W))
    (hh : ClzOk X (h₀ :: hds) l) : PS X (.Try body (h₀ :: hds) [] [] pos) (fun D σ H => tb (wClz X.K Wout D l) D σ H) := by
  refine ⟨fun pins s σ H D I h => ?_⟩
  have ok := I.ok
  have hfr : X.A.frames = some (X.env :: X.outer) := by rw [ok.frames, hs]
  refine wpAny_Try_except (wpAny_mono ((hb (wClz X.K Wout D l) (X.pn ++ pins) (fun e s₁ => wpAny (model X.prog X.w) X.A (noteFrame e X.env) (fun _ s₂ => wpAny (model X.prog X.w) X.A (setFlight e none) (fun _ s₃ =>
    wpAny (model X.prog X.w) X.A (handleBy e X.env (h₀ :: hds)) (SP X pins D) X.xe s₃) X.xe s₂) X.xe s₁) (fun u s' xx => ?_) PassesOwn.looking).run [] s σ H D (I.toTry _) h) (fun f s1 e => ?_) fun e s1 he => he)
  · obtain ⟨a, B, sI, _, σ', H', cls, d, rfl, J, nb, up, sky, na, os, ag, w⟩ := xx
    have sky' : Sky B (X.env :: X.outer) a (Zc cls d) X.env.locals s'.heap := by rw [← hs]; exact sky
    show wpAny (model X.prog X.w) X.A (noteFrame (.ref a) X.env) _ _ _
    exact Sky.land Zc.steady hfr hf sky' fun h3 fl3 up3 => clz_go ok hs hf hN tk (J.ofTry ok) nb (up.trans up3) fl3 na os ag hh w
  · cases f with
    | next => obtain ⟨_, _, J, q⟩ := e; exact wpAny_execs_nil ⟨_, _, J.ofTry ok, q⟩
    | brk => obtain ⟨_, _, J, q⟩ := e; exact ⟨_, _, J.ofTry ok, q⟩
    | cont => obtain ⟨_, _, J, q⟩ := e; exact ⟨_, _, J.ofTry ok, q⟩
    | ret u => obtain ⟨v, _, _, J, r, q⟩ := e; exact ⟨v, _, _, J.ofTry ok, r, q⟩
end Tl
set_option Elab.async false
set_option linter.all false
set_option maxRecDepth 100000
set_option maxHeartbeats 4000000
set_option autoImplicit false
namespace Tl
open PySem L2 PySem.Spec PyProof.Rows RZ

/-! ### try, told by the store -/
def setD (i : Option Nat) (ρ : Env) : Env := match i with
  | none => ρ
  | some i => ρ.set i none
def inD (i : Option Nat) (ρ : Env) : Bool := match i with
  | none => true
  | some i => decide (i < ρ.length)
theorem ER.hide {K : PySem.W.Frag} {μ : Mm} {H : Hp} {ρ : Env} {σ : L2.St} (h : ER K μ H ρ σ) (i : Option Nat) (v : Option V) : ER K μ H (setD i ρ) (setN i v σ) := by
  cases i with
  | none => exact h
  | some i =>
    refine ⟨by simp [setD, setN, h.1], fun j d q => ?_⟩
    have q : (ρ.set i none)[j]? = some (some d) := q
    show ∃ w, (σ.set i v)[j]? = some (some w) ∧ VR K μ H d w
    by_cases e : i = j
    · subst e
      by_cases l : i < ρ.length
      · rw [List.getElem?_set_self l] at q; cases q
      · rw [List.getElem?_eq_none (by simpa using l)] at q; cases q
    · rw [List.getElem?_set_ne e] at q
      rw [List.getElem?_set_ne e]
      exact h.2 j d q
def sNm (i : Option Nat) (g : Sm) : Sm := fun ρ S => if inD i ρ = true then (match g (setD i ρ) S with
  | some (.nx ρ', S') => some (.nx (setD i ρ'), S')
  | some (.bk ρ', S') => some (.bk (setD i ρ'), S')
  | some (.ct ρ', S') => some (.ct (setD i ρ'), S')
  | some (.rt d, S') => some (.rt d, S')
  | _ => none) else none
/-- a clause: does it take the class, the slot of its name, what its suite does -/
structure Hn where
  t : Nat → Option Bool
  i : Option Nat
  g : Nat → List (Str × D) → Sm
def hdGo : List Hn → Nat → List (Str × D) → Sm
  | [], c, fs => fun ρ S => some (.ex c fs ρ, S)
  | z :: r, c, fs => match z.t c with
    | some true => sNm z.i (z.g c fs)
    | some false => hdGo r c fs
    | none => fun _ _ => none
def sTry (b : Sm) (hs : List Hn) : Sm := fun ρ S => match b ρ S with
  | some (.ex c fs ρ', S') => hdGo hs c fs ρ' S'
  | r => r
def Jn (i : Option Nat) (a : Addr) (σ : L2.St) : Prop := match i with
  | none => True
  | some i => σ[i]? = some (some (.ref a))
def noW : WX := fun _ _ _ _ => False
/-- a suite, told by what it does to the store -/
structure DX (ca : CA) (X : Cx) (i : Option Nat) (a : Addr) (d : Option Addr) (fs : List (Str × D)) (sts : List Stmt) (g : Sm) : Prop where
  ex : ∃ t, PSs X sts t ∧ ∀ μ σ H ρ S r, Rel X.K ca μ H S → ER X.K μ H ρ σ → XR X.K μ H fs d → Jn i a σ → g ρ S = some r → ∀ E : Ends, PstS X.K ca μ H r E noW → t E σ H
inductive HnOk (ca : CA) (X : Cx) : List ExceptHandler → List Hn → Prop
  | nil : HnOk ca X [] []
  | cons {x : Str} {nm : Option Str} {z : Hn} {b₀ : Stmt} {suite : List Stmt} {np pos' : Pos} {hds : List ExceptHandler} {l : List Hn} {C : Value} (hc : Names X x C) (hn : NmOk X nm z.i) (hx : ∀ c b, z.t c = some b → PySem.W.exmOne X.K (.ref (ca c)) C = some b)
      (hsu : ∀ (a : Addr) (oe : Obj) (c : Nat) (fs : List (Str × D)) (d : Option Addr) (pn : List (Addr × Obj)), Zc (.ref (ca c)) d oe → (∃ vs, oe.data = .fields vs) → z.t c = some true → DX ca (X.suite a ((a, oe) :: pn)) z.i a d fs (b₀ :: suite) (z.g c fs)) (r : HnOk ca X hds l) :
      HnOk ca X (.ExceptHandler (some (.Name x np)) nm (b₀ :: suite) pos' :: hds) (z :: l)
/-- what a suite is asked -/
def rdZ (K : PySem.W.Frag) (ca : CA) (z : Hn) (a : Addr) (cls : Value) (d : Option Addr) : TS := fun En σ H =>
  ∃ (c : Nat) (fs : List (Str × D)) (μ : Mm) (ρ : Env) (S : Store) (r : Fl × Store), cls = .ref (ca c) ∧ z.t c = some true ∧ Rel K ca μ H S ∧ ER K μ H ρ σ ∧ XR K μ H fs d ∧ Jn z.i a σ ∧ z.g c fs ρ S = some r ∧ PstS K ca μ H r En noW
section
variable {ca : CA} {X : Cx} {W : WX}
theorem HnOk.clz {hds : List ExceptHandler} {l : List Hn} (h : HnOk ca X hds l) : ∃ ls : List Clz, ClzOk X hds ls ∧ ∀ (Wout : WX) (En : Ends) (c : Nat) (fs : List (Str × D)) (ρ : Env) (S : Store) (r : Fl × Store) (μ : Mm) (H : Hp) (σ : L2.St) (dd : Option Addr),
    Rel X.K ca μ H S → ER X.K μ H ρ σ → XR X.K μ H fs dd → hdGo l c fs ρ S = some r → PstS X.K ca μ H r En Wout → wClz X.K Wout En ls (.ref (ca c)) dd σ H := by
  induction h with
  | nil => exact ⟨[], .nil, fun Wout D c fs ρ S r μ H σ dd hr he hx hf hp => by cases hf; exact hp μ H σ dd hr.refl hr he hx⟩
  | @cons x nm z b₀ suite np pos' hds l C hc hn hx hsu r ih =>
    obtain ⟨ls, k, go⟩ := ih
    refine ⟨⟨C, z.i, rdZ X.K ca z⟩ :: ls, .cons hc hn (fun a oe cls d pn hz hv => ⟨fun pins s σ H D I h => ?_⟩) k, ?_⟩
    · obtain ⟨c, fs, μ, ρ, S, r, rfl, ht, hr, he, hxr, hj, hg, hp⟩ := h
      obtain ⟨t, p, q⟩ := (hsu a oe c fs d pn hz hv ht).ex
      exact p.run pins s σ H D I (q μ σ H ρ S r hr he hxr hj hg D hp)
    · intro Wout D c fs ρ S r μ H σ dd hr he hxr hf hp
      unfold hdGo at hf
      cases ht : z.t c with
      | none => rw [ht] at hf; cases hf
      | some b =>
        rw [ht] at hf
        refine ⟨b, hx c b ht, fun hb a na => ?_, fun hb => ?_⟩
        · subst hb
          have hf : sNm z.i (z.g c fs) ρ S = some r := hf
          unfold sNm at hf
          split at hf
          · rename_i hin
            cases q : z.g c fs (setD z.i ρ) S with
            | none => rw [q] at hf; cases hf
            | some r1 =>
              rw [q] at hf
              obtain ⟨r1, S1⟩ := r1
              refine ⟨c, fs, μ, setD z.i ρ, S, (r1, S1), rfl, ht, hr, he.hide z.i _, hxr, ?_, q, ?_⟩
              · show Jn z.i a (setN z.i (some (.ref a)) σ)
                cases hi : z.i with
                | none => trivial
                | some i =>
                  rw [hi] at hin
                  have : i < σ.length := by rw [← he.1]; exact of_decide_eq_true hin
                  show (σ.set i (some (.ref a)))[i]? = _
                  rw [List.getElem?_set_self this]
              · cases r1 with
                | nx ρ1 => cases hf; exact fun μ1 H1 σ1 e1 R1 E1 => hp μ1 H1 _ e1 R1 (E1.hide z.i none)
                | bk ρ1 => cases hf; exact fun μ1 H1 σ1 e1 R1 E1 => hp μ1 H1 _ e1 R1 (E1.hide z.i none)
                | ct ρ1 => cases hf; exact fun μ1 H1 σ1 e1 R1 E1 => hp μ1 H1 _ e1 R1 (E1.hide z.i none)
                | rt d => cases hf; exact hp
                | ex c fs ρ1 => cases hf
          · cases hf
        · subst hb
          exact go Wout D c fs ρ S r μ H σ dd hr he hxr hf hp
theorem ds_try {body : List Stmt} {h₀ : ExceptHandler} {hds : List ExceptHandler} {l : List Hn} {f : Sm} {pos : Pos} (hs : X.stack = X.env :: X.outer) (hf : X.env.frame = some X.env.locals) (hN : X.N.Nodup) (tk : Takes X W)
    (hb : ∀ (W : WX) (pn : List (Addr × Obj)) (xe : Value → Shared → Prop), Takes (X.tr pn xe) W → DSs ca (X.tr pn xe) W body f) (hh : HnOk ca X (h₀ :: hds) l) : DS ca X W (.Try body (h₀ :: hds) [] [] pos) (sTry f l) := by
  obtain ⟨ls, k, go⟩ := hh.clz
  refine ⟨_, ps_tryZ (tb := fun W En σ H => ∃ (μ : Mm) (ρ : Env) (S : Store) (r : Fl × Store), Rel X.K ca μ H S ∧ ER X.K μ H ρ σ ∧ f ρ S = some r ∧ PstS X.K ca μ H r En W) hs hf hN tk (fun W pn xe tk _ => ⟨fun pins s σ H D I h => ?_⟩) k, fun μ σ H ρ S r hr he hf E hp => ?_⟩
  · obtain ⟨μ, ρ, S, r, hr, he, hf, hp⟩ := h
    obtain ⟨t, p, q⟩ := (hb W pn xe tk).ex
    exact p.run pins s σ H D I (q μ σ H ρ S r hr he hf D hp)
  · unfold sTry at hf
    cases q : f ρ S with
    | none => rw [q] at hf; cases hf
    | some r1 =>
      rw [q] at hf
      obtain ⟨r1, S1⟩ := r1
      refine ⟨μ, ρ, S, (r1, S1), hr, he, q, ?_⟩
      cases r1 with
      | nx ρ1 => cases hf; exact hp
      | bk ρ1 => cases hf; exact hp
      | ct ρ1 => cases hf; exact hp
      | rt d => cases hf; exact hp
      | ex c fs ρ1 => exact fun μ1 H1 σ1 dd e1 R1 E1 x1 => go W E c fs ρ1 S1 r μ1 H1 σ1 dd R1 E1 x1 hf (hp.ext e1)
/-! ### suites -/
theorem DX.of {i : Option Nat} {a : Addr} {d : Option Addr} {fs : List (Str × D)} {sts : List Stmt} {g : Sm} (h : DSs ca X noW sts g) : DX ca X i a d fs sts g := by
  obtain ⟨t, p, q⟩ := h.ex
  exact ⟨t, p, fun μ σ H ρ S r hr he _ _ hf E hp => q μ σ H ρ S r hr he hf E hp⟩
/-- an expression of a suite, e held by its slot -/
structure DEh (ca : CA) (X : Cx) (i : Nat) (a : Addr) (e : Expr) (f : Ev) : Prop where
  ex : ∃ t, PE X e t ∧ ∀ μ σ H ρ S, Rel X.K ca μ H S → ER X.K μ H ρ σ → σ[i]? = some (some (.ref a)) → Aq (rV X.K) ca noW μ σ H S (t σ H) (f ρ)
/-- u if isinstance(e, X) else v -/
theorem deh_ite {a B : Addr} {oe : Obj} {pn : List (Addr × Obj)} {i : Nat} {n x : Str} {C : Addr} {b : Bool} {eu ev : Expr} {fu fv : Ev} {p p1 p2 pos pos2 : Pos} (hE : ExcC X.K B) (hz : Zc (.ref B) none oe) (hv : ∃ vs, oe.data = .fields vs)
    (hk : PySem.W.kitOne X.K (.ref B) (.ref C) = some b) (hC : X.mg x = some (.ref C)) (hmi : X.mg "isinstance" = none) (h1 : DE ca (X.suite a ((a, oe) :: pn)) noW eu fu) (h2 : DE ca (X.suite a ((a, oe) :: pn)) noW ev fv) (hN : X.N[i]? = some n) (hvis : Vis X.env.scope n) (hgi : Gl X "isinstance" := by rfl) (hgx : Gl X x := by rfl)
    (hdb : (x == ("__debug__" : Str)) = false := by decide) (hd : (n == ("__debug__" : Str)) = false := by decide) (hcd : (n == ("__classdict__" : Str)) = false := by decide)
    (he : starEach [.Name n p2, .Name x p1] X.env = (false, eval (.Name n p2) X.env) :: starEach [.Name x p1] X.env := by rfl) (he2 : starEach [.Name x p1] X.env = (false, eval (.Name x p1) X.env) :: starEach [] X.env := by rfl) (hpl : (backTo pos (starEach [.Name x p1] X.env)).any (·.1) = false := by rfl) :
    DEh ca (X.suite a ((a, oe) :: pn)) i a (.IfExp (.Call (.Name "isinstance" p) [.Name n p2, .Name x p1] [] pos) eu ev pos2) (fun ρ => if b = true then fu ρ else fv ρ) := by
  obtain ⟨u, p', q'⟩ := h1.ex
  obtain ⟨v, p'', q''⟩ := h2.ex
  have pT : PE (X.suite a ((a, oe) :: pn)) (.Name x p1) (tC (.ref C)) := pe_glob (v := .ref C) hgx hC rfl hdb
  have pv : PE (X.suite a ((a, oe) :: pn)) (.Name n p2) (tVar i) := pe_var hN hvis hd hcd
  refine ⟨_, pe_ifExp (pt_val (pe_callB (X := X.suite a ((a, oe) :: pn)) (call_isE hE hz hv) hgi hmi bb_isi (pa_cons pv (pa_cons pT pa_nil he2) he) (by decide) (by decide) he hpl) (by intro _; rfl)) p' p'', fun μ σ H ρ S hr hE' hJ => ?_⟩
  cases b with
  | true =>
    refine (q' μ σ H ρ S hr hE').imp fun Q z => ?_
    exact ⟨.ref a, hJ, .ref C, .ref C, true, rfl, fun u h => h, hk, true, rfl, by show (if true = true then u σ H Q else v σ H Q); rw [if_pos rfl]; exact z⟩
  | false =>
    refine (q'' μ σ H ρ S hr hE').imp fun Q z => ?_
    exact ⟨.ref a, hJ, .ref C, .ref C, false, rfl, fun u h => h, hk, false, rfl, by show (if false = true then u σ H Q else v σ H Q); rw [if_neg Bool.false_ne_true]; exact z⟩
theorem PstS.no {K : PySem.W.Frag} {μ : Mm} {H : Hp} {r : Fl × Store} {E : Ends} (h : PstS K ca μ H r E noW) : PstS K ca μ H r E noW := h
/-- x = that -/
theorem dx_set (j : Nat) {i : Nat} {a : Addr} {d : Option Addr} {fs : List (Str × D)} {x : Str} {e : Expr} {fe : Ev} {pos pos' : Pos} (hN : X.N.Nodup) (h : DEh ca X i a e fe) (hi : X.N[j]? = some x := by rfl) (hx : Loc X.env.scope x := by first | exact Or.inl rfl | exact Or.inr rfl) (hs : swapsWith e (some (.Name x pos')) pos.line X.env = pure false := by rfl) (hf : X.fn x = true ∨ X.env.scope.names.lookup x = some .local := by first | exact .inl rfl | exact .inr rfl) :
    DX ca X (some i) a d fs [.Assign [.Name x pos'] e pos] (sAsg fe (gNm j)) := by
  obtain ⟨t, p, q⟩ := h.ex
  refine ⟨_, pss_one (ps_set hN hi hx p hs hf), fun μ σ H ρ S r hr he _ hj hk E hp => ?_⟩
  unfold sAsg sBnd at hk
  cases z : fe ρ S with
  | none => rw [z] at hk; cases hk
  | some r1 =>
    rw [z] at hk
    obtain ⟨r1, S1⟩ := r1
    refine q μ σ H ρ S hr he hj _ z _ ?_
    cases r1 with
    | ok d1 => cases hk; exact fun μ1 H1 v e1 R1 x1 => hp μ1 H1 _ e1 R1 ((he.mono hr.mu e1).set j x1)
    | exc c1 fs1 => cases hk; exact fun μ1 H1 dd e1 R1 x1 => hp μ1 H1 σ dd e1 R1 (he.mono hr.mu e1) x1
/-- return that -/
theorem dx_ret {i : Nat} {a : Addr} {d : Option Addr} {fs : List (Str × D)} {e : Expr} {fe : Ev} {pos : Pos} (h : DEh ca X i a e fe) : DX ca X (some i) a d fs [.Return (some e) pos] (sRet fe) := by
  obtain ⟨t, p, q⟩ := h.ex
  refine ⟨_, pss_one (ps_ret p), fun μ σ H ρ S r hr he _ hj hk E hp => ?_⟩
  unfold sRet sBnd at hk
  cases z : fe ρ S with
  | none => rw [z] at hk; cases hk
  | some r1 =>
    rw [z] at hk
    obtain ⟨r1, S1⟩ := r1
    refine q μ σ H ρ S hr he hj _ z _ ?_
    cases r1 with
    | ok d1 => cases hk; exact fun μ1 H1 v e1 R1 x1 => hp μ1 H1 v e1 R1 x1
    | exc c1 fs1 => cases hk; exact fun μ1 H1 dd e1 R1 x1 => hp μ1 H1 σ dd e1 R1 (he.mono hr.mu e1) x1
/-- a suite that is never come to with this class, or that asks for an error without fields -/
theorem dx_no {i : Option Nat} {a : Addr} {d : Option Addr} {fs : List (Str × D)} {sts : List Stmt} : DX ca X i a d fs sts sNo := ⟨fun _ _ _ => False, ⟨fun _ _ _ _ _ _ h => h.elim⟩, fun _ _ _ _ _ _ _ _ _ _ hf => nomatch hf⟩
/-- .. of an error without fields -/
def noFs (fs : List (Str × D)) (g : Sm) : Sm := match fs with
  | [] => g
  | _ :: _ => sNo
theorem dx_nf {i : Option Nat} {a : Addr} {d : Option Addr} {fs : List (Str × D)} {sts : List Stmt} {g : Sm} (h : d = none → fs = [] → DX ca X i a d fs sts g) : DX ca X i a d fs sts (noFs fs g) := by
  cases fs with
  | cons f fs => exact dx_no
  | nil =>
    by_cases hd : d = none
    · exact h hd rfl
    · refine ⟨fun _ _ _ => False, ⟨fun _ _ _ _ _ _ h => h.elim⟩, fun μ σ H ρ S r _ _ hx _ _ E _ => ?_⟩
      rcases hx with ⟨_, h2⟩ | ⟨_, _, _, _, _, h4⟩
      · exact hd h2
      · exact h4 rfl
end
end Tl
set_option Elab.async false
set_option linter.all false
set_option maxRecDepth 100000
set_option maxHeartbeats 4000000
set_option autoImplicit false
namespace Tl
open PySem L2 PySem.Spec PyProof.Rows RZ

/-! ### != by an own __eq__ -/
section
variable {M : Model} {prog : Program} {w : World} {A : Around} {E : Value → Shared → Prop} {s : Shared} {K : PySem.W.Frag} {x C f : Addr} {ox : Obj} {od : Option Obj} {b tb : Value}
theorem ifBound_objNe {args : List Value} {Q : Option Value → Shared → Prop} (X : K.In s.heap) (I : PySem.W.InstAt s.heap x ox C od) (hs : PySem.W.findIn K (.ref C) "__ne__" = some (some (.builtin "object.__ne__")))
    (h : wpAny M A (call (.builtin "object.__ne__") (.ref x :: args)) (fun v => Q (some v)) E s) : wpAny M A (callSpecialIfBound? (.ref x) "__ne__" args) Q E s := by
  simp only [callSpecialIfBound?, bindSpecialIfBound?]
  refine wpAny_holding (wpAny_bind (wpAny_bind (wpAny_bind (I.type.here ((PySem.W.looks_findIn X hs).here ?_)))))
  refine wpAny_bind (wpAny_askSetting (wpAny_ite ?_))
  have fin : wpAny M A (call (.builtin "object.__ne__") ([.ref x] ++ args) >>= fun v => pure (some v)) Q E s := wpAny_bind (wpAny_mono h (fun v s' h' => wpAny_pure h') fun _ _ h' => h')
  split
  · exact wpAny_bind (wpAny_of_eq (F.cmp_object.ne.bind _) (wpAny_pure (by exact fin)))
  · exact wpAny_tryCatch (wpAny_bind (wpAny_of_eq (F.cmp_object.ne.bind _) (wpAny_pure (by exact fin))))
theorem objNe_own (hu : A.units < cLine) (X : K.In s.heap) (I : PySem.W.InstAt s.heap x ox C od) (hs : PySem.W.findIn K (.ref C) "__eq__" = some (some (.ref f))) (hf : PySem.W.isFn K (.ref f) = true) {Q : Fin → Shared → Prop}
    (hcall : wpAny (model prog w) A (call (.ref f) [.ref x, b]) (fun v s' => ∃ t, v = .bool t ∧ Q (.done (.ret (.bool (!t)))) s') E s) : wpAny (model prog w) A (Builtin.«object.__ne__» ⟨[.ref x, b], []⟩) Q E s := by
  unfold Builtin.«object.__ne__»
  repeat (first
    | with_reducible refine wpAny_cRoomFor hu ?_
    | (refine wpAny_bind (m := callSpecialIfBound? (.ref x) (Str.ofString "__eq__") [b])
        (PySem.W.ifBound_K X I hs hf (wpAny_mono hcall (fun r s' hr => by
          obtain ⟨t, rfl, hq⟩ := hr
          repeat (first | exact hq | exact wpAny_pure hq | exact wpAny_truthy_bool hq | (refine wpAny_bind (m := truthy (.bool _)) (wpAny_truthy_bool ?_)) | wp_step)) fun _ _ e => e)))
    | wp_step)
theorem ne_own {h₀ : Heap} {L : Addr} {m : Str → Option Value} {Q : Value → Shared → Prop} (hu : A.units + 1 < cLine) (Fm : PyProof.Rows.Fr h₀ L s.heap m) (X₀ : K.In h₀) (I : PySem.W.InstAt s.heap x ox C od) (hb : PySem.W.Looks (model prog w) s.heap (typeOf b) tb) (hn : PySem.W.notFirst K C tb = true)
    (hne : PySem.W.findIn K (.ref C) "__ne__" = some (some (.builtin "object.__ne__"))) (hm : PySem.W.mroIn K C (.type "object") = some true) (hs : PySem.W.findIn K (.ref C) "__eq__" = some (some (.ref f))) (hf : PySem.W.isFn K (.ref f) = true)
    (h : wpAny (model prog w) A.in1 (call (.ref f) [.ref x, b]) (fun v s' => ∃ t, v = .bool t ∧ Q (.bool (!t)) s') E s) : wpAny (model prog w) A (richCompare .NotEq (.ref x) b) Q E s := by
  have X := X₀.keeps Fm.keep
  have one : wpAny (model prog w) A (tryCompare (.ref x) (cmpInfo .NotEq).2.1 b) (fun r s' => ∃ v, r = some v ∧ Q v s') E s := by
    unfold tryCompare
    refine wpAny_bind (ifBound_objNe X I hne (wpAny_call (codeAny_call_builtin F.cmp_object.ne.plain F.cmpEntry_ne (PySem.W.check_slot F.cmpKind_ne F.cmpSplit_ne (I.type.andThen (PySem.W.looks_mroIn X hm)) (F.cmpArgs_ne _ _)
      (objNe_own (A := A.in1) hu X I hs hf (wpAny_mono h (fun v s' hv => ?_) fun _ _ e => e))))))
    obtain ⟨t, rfl, hq⟩ := hv
    first
      | exact ⟨t, rfl, wpAny_pure ⟨_, rfl, hq⟩⟩
      | exact ⟨t, rfl, wpAny_pure (wpAny_pure ⟨_, rfl, hq⟩)⟩
      | exact ⟨t, rfl, ⟨_, rfl, hq⟩⟩
  unfold richCompare
  simp only [oneThing_ref]
  refine wpAny_holding (wpAny_bind (wpAny_cRoomFor (Nat.lt_of_succ_lt hu) ?_))
  refine wpAny_bind (I.type.here (wpAny_bind (hb.here ?_)))
  split
  · rename_i q
    have e : PySem.W.subIn K tb (.ref C) = some false := by
      rcases Bool.or_eq_true_iff.mp hn with e | e
      · rw [beq_iff_eq.mp e] at q; simp at q
      · exact beq_iff_eq.mp e
    refine wpAny_bind ((PySem.W.looks_subIn X e).here ?_)
    simp only [Bool.false_eq_true, if_false]
    refine wpAny_bind (wpAny_mono one (fun r s' z => ?_) fun _ _ e => e)
    obtain ⟨v, rfl, hq⟩ := z
    exact wpAny_pure hq
  · refine wpAny_bind (wpAny_pure ?_)
    simp only [Bool.false_eq_true, if_false]
    refine wpAny_bind (wpAny_mono one (fun r s' z => ?_) fun _ _ e => e)
    obtain ⟨v, rfl, hq⟩ := z
    exact wpAny_pure hq
end
/-- the classes below N have != of the top -/
def NeD (K : PySem.W.Frag) (ca : CA) (N : Nat) : Prop := ∀ c, c < N → PySem.W.findIn K (.ref (ca c)) "__ne__" = some (some (.builtin "object.__ne__")) ∧ PySem.W.mroIn K (ca c) (.type "object") = some true
def rNeO (K : PySem.W.Frag) (f : Addr) (sp : Sp) : R2 := fun x y H Q => ∃ a b dx dy fs gs C C', x = .ref a ∧ y = .ref b ∧ H a = some (.ins C dx fs) ∧ H b = some (.ins C' dy gs) ∧ PySem.W.notFirst K C (.ref C') = true ∧ PySem.W.findIn K (.ref C) "__eq__" = some (some (.ref f)) ∧
  (PySem.W.findIn K (.ref C) "__ne__" = some (some (.builtin "object.__ne__")) ∧ PySem.W.mroIn K C (.type "object") = some true) ∧ sp [x, y] H (fun v H' => ∃ t, v = .bl t ∧ Q (.bl (!t)) H') (fun _ _ _ => False)
theorem op_neO {X : Cx} {k : Nat} {f : Addr} {fd : FuncData} {ps : List Str} {sp : Sp} (F : FnOk X.prog X.w X.K X.mg X.base (L2.CX X.prog X.w) k f fd ps sp) (hf : PySem.W.isFn X.K (.ref f) = true) (hb : Binds X.K fd ps []) (hr : Room (k + 1) X.A) (hx : Passes (L2.CX X.prog X.w) X (fun _ _ _ => False)) : OpR X (compareOp .NotEq) (rNeO X.K f sp) := by
  intro pins s σ H x y v u Q I rx ry h
  obtain ⟨a, b, dx, dy, fs, gs, C, C', rfl, rfl, ha, hb', nf, hs, ⟨hne, hm⟩, hsp⟩ := h
  cases rx
  cases ry
  obtain ⟨_, O1, _⟩ := ins_get I.hok ha
  obtain ⟨_, O2, _⟩ := ins_get I.hok hb'
  obtain ⟨_, J1, _⟩ := O1.look
  obtain ⟨_, J2, _⟩ := O2.look
  obtain ⟨m, fr⟩ := I.fr
  have go := F.run X.A.in1 X.stack s H ⟨[.ref a, .ref b], []⟩ [.ref a, .ref b] [V.ref a, V.ref b] (fun v H' => ∃ t, v = .bl t ∧ Q (.bl (!t)) H') (fun _ _ _ => False) hr.in1 I.env0.in1
    (by have := hb s [.ref a, .ref b] I.kIn (by have := F.len _ _ _ _ hsp; simpa using this); simpa using this) (.cons rfl (.cons rfl .nil)) hsp
  refine ne_own (tb := .ref C') (by have := hr.un; omega) fr I.ok.mod.kin J1 J2.type nf hne hm hs hf (wpAny_call (codeAny_mono go fun r s' hq => ?_))
  cases r with
  | error e => exact hx pins σ H s e s' I hq
  | ok fl =>
    cases fl with
    | ret u =>
      obtain ⟨z', H1, I1, rz, t, rfl, q⟩ := I.after hq
      cases (show u = Value.bool t from rz)
      exact ⟨t, rfl, .bl (!t), H1, I1, rfl, q⟩
    | next => exact False.elim hq
    | brk => exact False.elim hq
    | cont => exact False.elim hq
def neO (N : Nat) (ok : Nat → Nat → Bool) (g : Fnd) (x y : D) : M D := match x, y with
  | .ref n, .ref m => fun S => match S[n]?, S[m]? with
    | some (.ins c _), some (.ins c' _) => if c < N ∧ c' < N ∧ ok c c' = true then (match g [.ref n, .ref m] S with
      | some (.ok (.bl t), S') => some (.ok (.bl (!t)), S')
      | _ => none) else none
    | _, _ => none
  | _, _ => M.stuck
theorem q_neO {K : PySem.W.Frag} {ca : CA} {N : Nat} {ok : Nat → Nat → Bool} {g : Fnd} {f : Addr} (hn : NeD K ca N) (h1 : ∀ c, c < N → PySem.W.findIn K (.ref (ca c)) "__eq__" = some (some (.ref f))) (h2 : ∀ c c', c < N → c' < N → ok c c' = true → PySem.W.notFirst K (ca c) (.ref (ca c')) = true) : OpQ K ca (rNeO K f (spF K ca 2 g)) (neO N ok g) := by
  intro μ H S dx dy x y W σ hr hx hy
  unfold neO
  split
  · rename_i n m
    intro r hf Q hp
    obtain ⟨a, ha, rfl⟩ := VR.ref hx
    obtain ⟨b, hb, rfl⟩ := VR.ref hy
    dsimp only at hf
    split at hf
    · rename_i c fs c' gs e1 e2
      split at hf
      · rename_i hc
        split at hf
        · rename_i t S' e
          cases hf
          obtain ⟨d1, vf, o1, _⟩ := hr.ob n a _ ha e1
          obtain ⟨d2, vg, o2, _⟩ := hr.ob m b _ hb e2
          refine ⟨a, b, d1, d2, vf, vg, _, _, rfl, rfl, o1, o2, h2 c c' hc.1 hc.2.1 hc.2.2, h1 c hc.1, hn c hc.1, rfl, μ, _, S, _, hr, .iCons hx (.iCons hy .iNil), e, ?_⟩
          intro μ' H' v x1 r1 y1
          exact ⟨t, y1.bl, hp μ' H' _ x1 r1 VR.iBl⟩
        · cases hf
      · cases hf
    · cases hf
  · exact Aq.stuck
section
variable {ca : CA} {X : Cx} {W : WX} {a b : Expr} {f f' : Ev} {pos : Pos} {k N : Nat} {ok : Nat → Nat → Bool} {g : Fnd}
theorem de_neO (hn : NeD X.K ca N) (C : Eqd X.prog X.w X.K X.mg X.base ca k N ok g) (hr : Room (k + 1) X.A) (h1 : DE ca X W a f) (h2 : DE ca X W b f') (hm : behindInMarks .NotEq b = false) : DE ca X W (.Compare a [.NotEq] [b] pos) (mOp (neO N ok g) f f') := by
  obtain ⟨fa, fd, ps, i1, i2, F, i3, i4⟩ := C.ex
  exact de_cmp (op_neO F i1 i2 hr passL) (q_neO hn i3 i4) h1 h2 hm
theorem dt_neO (hn : NeD X.K ca N) (C : Eqd X.prog X.w X.K X.mg X.base ca k N ok g) (hr : Room (k + 1) X.A) (h1 : DE ca X W a f) (h2 : DE ca X W b f') (hm : behindInMarks .NotEq b = false) : DT ca X W (.Compare a [.NotEq] [b] pos) (mB (mOp (neO N ok g) f f')) := by
  obtain ⟨fa, fd, ps, i1, i2, F, i3, i4⟩ := C.ex
  exact dt_cmp (op_neO F i1 i2 hr passL) (q_neO hn i3 i4) h1 h2 hm
end
/-! ### o.extend(x), x a list that may change -/
def extR (o d : D) : M D := match o, d with
  | .ref n, .ref m => fun S => match S[n]?, S[m]? with
    | some (.lst ds), some (.lst es) => if ds.length + es.length ≤ 1000000 then some (.ok .non, S.set n (.lst (ds ++ es))) else none
    | _, _ => none
  | _, _ => M.stuck
def mExtR (f g : Ev) : Ev := fun ρ => (f ρ).bind fun o => (isR o).bind fun _ => (g ρ).bind fun d => extR o d
theorem Adq.extR {ca : CA} {W : WX} {fo fe : Ev} {K : PySem.W.Frag} {to te : TE} (h1 : Adq (rV K) ca W to fo) (h2 : Adq (rV K) ca W te fe) : Adq (rV K) ca W (tBM K "list" rExtend to (tCons te tNil)) (mExtR fo fe) := fun μ σ H ρ S hr he =>
  Aq.bind (R1 := rV K) (t1 := to σ H) (k := fun x H1 (Q : VK) => tyV K "list" x H1 ∧ te σ H1 fun y H2 => rExtend x [y] H2 Q) (h1 μ σ H ρ S hr he) fun d x μ1 H1 S1 e1 r1 x1 => by
    intro res hf Q hp
    unfold M.bind at hf
    cases q : isR d S1 with
    | none => rw [q] at hf; cases hf
    | some z =>
      obtain ⟨n, ds, rfl, hs, rfl⟩ := isR_of q
      rw [q] at hf
      obtain ⟨a, hm, rfl⟩ := VR.ref x1
      obtain ⟨vs, ho, g⟩ := r1.ob n a _ hm hs
      refine ⟨.inl ⟨rfl, vs, .inl (.inl ho)⟩, ?_⟩
      refine (Aq.bind (R1 := rV K) (R2 := rV K) (t1 := te σ H1) (k := fun y H2 (Q : VK) => rExtend (.ref a) [y] H2 Q) (g := fun d => Tl.extR (.ref n) d) (h2 μ1 σ H1 ρ S1 r1 (he.mono hr.mu e1)) fun d2 y μ2 H2 S2 e2 r2 x2 => ?_) res hf Q hp
      intro res2 hf2 Q2 hp2
      cases d2 with
      | ref m =>
        simp only [Tl.extR] at hf2
        split at hf2
        · rename_i ds2 es hs2 hs3
          split at hf2
          · rename_i hl
            cases hf2
            have hm2 := e2.sub hm
            obtain ⟨vs2, ho2, g2⟩ := r2.ob n a _ hm2 hs2
            obtain ⟨b, hb, rfl⟩ := VR.ref x2
            obtain ⟨us2, ho3, g3⟩ := r2.ob m b _ hb hs3
            refine ⟨a, b, vs2, us2, rfl, rfl, ho2, ho3, by rw [← g2.len, ← g3.len]; exact big hl, ?_⟩
            obtain ⟨x3, r3⟩ := r2.putL hm2 (g2.app g3)
            exact hp2 μ2 _ .non x3 r3 .iNon
          · cases hf2
        · cases hf2
      | _ => nomatch hf2
theorem de_extR {ca : CA} {X : Cx} {W : WX} {o e : Expr} {fo fe : Ev} {pos apos : Pos} (h1 : DE ca X W o fo) (h2 : DE ca X W e fe)
    (hbase : attributeBase o "extend" X.env (eval o X.env) = eval o X.env := by rfl)
    (hfew : ((backTo pos (starEach [e] X.env)).all (fun x => !x.1) && (backToKw pos (keywordEach [] X.env)).all (fun x => x.1.isSome) && decide ([e].length + ([] : List Keyword).length + (if ([] : List Keyword).isEmpty then 0 else 1) < 30)) = true := by rfl)
    (hline : (apos.endLine == pos.line) = true := by rfl) (hs : starEach [e] X.env = (false, eval e X.env) :: starEach [] X.env := by rfl) (hplain : (backTo pos (starEach [] X.env)).any (·.1) = false := by rfl) : DE ca X W (.Call (.Attribute o "extend" apos) [e] [] pos) (mExtR fo fe) := by
  obtain ⟨t, p, q⟩ := h1.ex
  obtain ⟨u, p', q'⟩ := h2.ex
  exact ⟨_, pe_bm PySem.F.plainAttrs_list PySem.F.slot_list_extend PySem.F.type_list_extend mt_extend p (pa_cons p' pa_nil hs) hbase hfew hline hs hplain, Adq.extR q q'⟩
/-! ### a, b = a list -/
def gLp (n : Nat) (g : Tgs) : Tg := fun d ρ => match d with
  | .lst ds => if ds.length = n then g ds ρ else M.stuck
  | _ => M.stuck
theorem dg_lst {ca : CA} {X : Cx} {es : List Expr} {pos : Pos} {g : Tgs} {is : List Nat} {k n : Nat} (hc : X.calm = true) (h : DGs ca X es is g) (hn : (assignEach es X.env).length = n := by rfl) (hst : (assignEach es X.env).findIdx? (·.1) = none := by rfl) : DG ca X (.Tuple es k pos) is (gLp n g) := by
  obtain ⟨t, p, q⟩ := h.ex
  refine ⟨_, pg_lst hc p hn hst, fun μ σ H ρ S d v r hr he hv hf Q hp => ?_⟩
  unfold gLp at hf
  split at hf
  · split at hf
    · rename_i ds hl
      obtain ⟨a, vs, rfl, t1, g1⟩ := hv.lst
      exact ⟨a, vs, rfl, .inl (.inl t1.1), by rw [← g1.len]; exact hl, q μ σ H ρ S _ vs r hr he g1 hf Q hp⟩
    · cases hf
  · cases hf
/-! ### tables of errors -/
def tbE (n0 n1 : Nat) (l : List Bool) (c : Nat) : Option Bool := if n0 ≤ c ∧ c < n1 then some (l.getD (c - n0) false) else none
theorem tbE_lt {n0 n1 c : Nat} {l : List Bool} {b : Bool} (h : tbE n0 n1 l c = some b) : n0 ≤ c ∧ c < n1 := by
  unfold tbE at h
  split at h
  · rename_i q; exact q
  · cases h
def tbK (n0 : Nat) (l : List Bool) (c : Nat) : Bool := l.getD (c - n0) false
end Tl
set_option Elab.async false
set_option linter.all false
set_option maxRecDepth 100000
set_option maxHeartbeats 4000000
set_option autoImplicit false
namespace Tl
open PySem L2 PySem.Spec PyProof.Rows RZ

/-! ### a lambda without parameters handed to a def -/
/-- x() where x is what was handed in -/
noncomputable def mThk (f c : Addr) (q : Str) (vs : List V) (ds : List D) (th : M D) : Ev := fun ρ => match ρ[0]? with
  | some (some (D.thk f' c' q' vs' ds')) => open Classical in if f' = f ∧ c' = c ∧ q' = q ∧ vs' = vs ∧ ds' = ds then th else M.stuck
  | _ => M.stuck
theorem mThk_at {f c : Addr} {q : Str} {vs : List V} {ds : List D} {th : M D} {ρ : Env} (h : ρ[0]? = some (some (.thk f c q vs ds))) : mThk f c q vs ds th ρ = th := by
  unfold mThk; rw [h]; exact if_pos ⟨rfl, rfl, rfl, rfl, rfl⟩
theorem mThk_some {f c : Addr} {q : Str} {vs : List V} {ds : List D} {th : M D} {ρ : Env} {S : Store} {r : Rs D × Store} (h : mThk f c q vs ds th ρ S = some r) : ρ[0]? = some (some (.thk f c q vs ds)) ∧ th S = some r := by
  unfold mThk at h
  cases e : ρ[0]? with
  | none => rw [e] at h; cases h
  | some o =>
    rw [e] at h
    cases o with
    | none => cases h
    | some d =>
      cases d with
      | thk f' c2 q' vs' ds' =>
        dsimp only at h
        by_cases hh : f' = f ∧ c2 = c ∧ q' = q ∧ vs' = vs ∧ ds' = ds
        · rw [if_pos hh] at h
          obtain ⟨rfl, rfl, rfl, rfl, rfl⟩ := hh
          exact ⟨rfl, h⟩
        · rw [if_neg hh] at h; cases h
      | _ => cases h
/-- the object that a lambda makes -/
abbrev lamO (X : Cx) (params : Arguments) (body : Expr) (scope : Scope) (pm ctv : Value) (c' : Addr) : Obj := PySem.W.kla_obj "<lambda>" (X.env.qual ++ "<lambda>") params body scope (cloFrom X.env.cells scope.names []) pm c' ctv
section
variable {X : Cx} {pins : List (Addr × Obj)} {σ : L2.St} {H : Hp} {s : Shared}
/-- the context of the def that got it -/
abbrev gotCx (X : Cx) (N : List Str) (x : Str) (sc : Scope) (g : Addr) (cd : Value) (s : Shared) (H : Hp) (E : XK) : Cx := cxOf (L2.CX X.prog X.w) X.prog X.w X.K X.mg X.base N x sc g cd X.A X.stack s H E
/-- it is called there; what it raises is wished for at the slots of the call -/
theorem pe_thk {N : List Str} {x : Str} {sc : Scope} {g f c' : Addr} {cd pm ctv : Value} {params : Arguments} {body : Expr} {scope : Scope} {k i : Nat} {a : Str} {pn : List (Addr × Obj)} {xe : Value → Shared → Prop} {W : WX} {E : XK} {tb : XK → TE} {p1 p2 : Pos}
    (I : L2.Inv X pins σ H s) (L : LamX.LamS X.env.scope scope) (hf : s.heap.get? f = some (lamO X params body scope pm ctv c')) (hfn : H f = none) (hfr : f ∉ frs X.stack)
    (hbind : bindArgs (PySem.W.kla_fn "<lambda>" (X.env.qual ++ "<lambda>") params body scope (cloFrom X.env.cells scope.names []) pm (.ref c') ctv) ⟨[], []⟩ = pure [])
    (tk : Takes ((gotCx X N x sc g cd s H E).tr pn xe) W) (hr : Room (k + 1) (gotCx X N x sc g cd s H E).A)
    (hbody : ∀ (A : Around) (outer : List PySem.Env) (s : Shared) (H : Hp) (E : XK), Room k (A.deeper (LamX.lamEnv X scope s.heap.objs.size f c')) → PE (LamX.lamCx X A outer s H E scope f c') body (tb E))
    (hN : N[i]? = some a) (hv : Vis sc a) (hd : (a == ("__debug__" : Str)) = false) (hcd : (a == ("__classdict__" : Str)) = false) :
    PE ((gotCx X N x sc g cd s H E).tr pn xe) (.Call (.Name a p1) [] [] p2)
      (fun σ' H' Q => σ'[i]? = some (some (.ref f)) ∧ H' c' = some (LamX.CodeO c' (X.env.qual ++ "<lambda>")) ∧ tb (WE W σ') σ H' Q) := by
  constructor
  rintro pins' s' σ' H' Q J ⟨e1, e2, e3⟩
  have nm := (pe_var (X := (gotCx X N x sc g cd s H E).tr pn xe) (pos := p1) (i := i) hN hv hd hcd).run pins' s' σ' H' (fun v H1 => v = .ref f ∧ H1 = H') J ⟨.ref f, e1, rfl, rfl⟩
  refine wpAny_Call_Name_kw (thn nm ?_)
  rintro u t ⟨v, H1, J1, rv, rfl, rfl⟩
  cases (show u = Value.ref f from rv)
  have at_f : t.heap.get? f = some (lamO X params body scope pm ctv c') := J1.base.keep f _ hf hfn hfr (fun z => by cases (show f ∈ ([] : List Addr) from z))
  have un : Un (frs X.stack) [] H H1 s.heap t.heap := J1.base
  obtain ⟨⟨oc, vs, tt, h1, h2, h3⟩, _, _⟩ := J1.hok c' _ e2
  refine PySem.W.callWith_F0 ⟨_, _, _, _, at_f⟩ (wpAny_call (codeAny_mono (R := CR (L2.CX X.prog X.w) (gotCx X N x sc g cd s H E).stack X.prog X.w H1 t Q (WE W σ')) (PySem.W.kla_callFunE hr.depth at_f rfl L.co L.gen rfl ⟨c', oc, vs, tt, rfl, h1, h2, h3⟩ ?_) ?_))
  · rw [show (([] : List Value) ++ []) = [] from rfl, hbind]
    refine wpAny_pure (wpAny_newFunctionEnv (fun y hy => (L.own y hy).2) (fun y hy => absurd hy (by simp)) (fun h' hns hsb => ⟨J1.nolimit.fresh _ hsb, ?_⟩) L.kind)
    have kp : ∀ b o, t.heap.get? b = some o → h'.get? b = some o := fun b o e => by
      have lt := Heap.lt_size e
      exact hsb.extBut b o (Nat.ne_of_lt lt) (Heap.get?_push_of_some _ e)
    have J2 := LamX.lam_start2 (f := f) (c' := c') (E := WE W σ') (tk := t.toks + ([] : List (Str × Value)).length) I L J1.env0 hr.hd un hns kp
    have run := (hbody (gotCx X N x sc g cd s H E).A _ t H1 (WE W σ') (hr.deeper _)).run [] _ σ H1 Q J2 e3
    refine PySem.W.kla_codeExpr (wpAny_mono run ?_ fun _ _ z => z)
    rintro v s2 ⟨w, H2, J3, rw_, q⟩
    exact ⟨w, H2, J3.os, J3.bare, J3.base, J3.hok, rw_, q⟩
  · intro r s2 q
    match r, q with
    | .error e, q => exact passAt tk σ' pins' H1 t e s2 J1 q
    | .ok (.ret u), q => exact J1.after q
    | .ok .next, q => exact q.elim
    | .ok .brk, q => exact q.elim
    | .ok .cont, q => exact q.elim
end
/-- a def that calls what it got -/
structure Thd (P : Program) (w : World) (K : PySem.W.Frag) (mg : Str → Option Value) (base : Heap) (ca : CA) (k : Nat) (x : Str) (B : M D → M D) : Prop where
  ex : ∃ (g : Addr) (fd : FuncData) (st : Stmt) (N : List Str) (a : Str) (b : Ev → Sm), mg x = some (.ref g) ∧ Fun K x x st g fd ∧ FnScope N [a] (defScope st) ∧ Binds K fd [a] [] ∧ N[0]? = some a ∧ Vis (defScope st) a ∧ (a == ("__debug__" : Str)) = false ∧ (a == ("__classdict__" : Str)) = false ∧
    (∀ (cd : Value) (A : Around) (outer : List PySem.Env) (s : Shared) (H : Hp) (E : XK) (cl : Ev), Room k (A.deeper (envOfC x (defScope st) s.heap.objs.size g cd)) →
      (∀ (W : WX) (pn : List (Addr × Obj)) (xe : Value → Shared → Prop) (p1 p2 : Pos), Takes ((cxOf (L2.CX P w) P w K mg base N x (defScope st) g cd A outer s H E).tr pn xe) W →
        DE ca ((cxOf (L2.CX P w) P w K mg base N x (defScope st) g cd A outer s H E).tr pn xe) W (.Call (.Name a p1) [] [] p2) cl) →
      DSs ca (cxOf (L2.CX P w) P w K mg base N x (defScope st) g cd A outer s H E) (fun cls d _ H => E cls d H) (defBody st) (b cl)) ∧
    ∀ f c q vs ds th S, bodyD N.length (b (mThk f c q vs ds th)) [.thk f c q vs ds] S = B th S
def mLam (B : M D → M D) (fb : Ev) : Ev := fun ρ => B (fb ρ)
/-- what a lambda's maker knows of its code object at c and its table at P -/
structure TabF (X : Cx) (ca : CA) (c P : Addr) : Prop where
  tb : LamX.TabB X.base X.mg c P
  code : X.env.code = .ref c
  tl : ca.t.l = [(P, X.env.qual ++ "<lambda>")]
section
variable {X : Cx} {ca : CA} {W : WX}
/-- captured slots, filled up -/
def fillD (ρ : Env) : List D := ρ.map fun o => o.getD .non
theorem fill_ex {K : PySem.W.Frag} {μ : Mm} {H : Hp} : ∀ {ρ : Env} {σ : L2.St}, ER K μ H ρ σ → ∃ vs, VRs K μ H (fillD ρ) vs ∧ ∀ (i : Nat) (d : D), ρ[i]? = some (some d) → ∃ v, vs[i]? = some v ∧ σ[i]? = some (some v)
  | [], _, _ => ⟨[], .iNil, fun i d q => by simp at q⟩
  | o :: ρ, [], h => by have := h.1; simp at this
  | o :: ρ, u :: σ, h => by
    obtain ⟨vs, g1, g2⟩ := fill_ex (K := K) (μ := μ) (H := H) (ρ := ρ) (σ := σ) ⟨by simpa using h.1, fun i d q => by simpa using h.2 (i + 1) d (by simpa using q)⟩
    cases o with
    | none =>
      refine ⟨.non :: vs, .iCons .iNon g1, fun i d q => ?_⟩
      cases i with
      | zero => simp at q
      | succ i => simpa using g2 i d (by simpa using q)
    | some d0 =>
      obtain ⟨v, e1, e2⟩ := h.2 0 d0 (by simp)
      refine ⟨v :: vs, .iCons e2 g1, fun i d q => ?_⟩
      cases i with
      | zero => simp at q e1; subst q; exact ⟨v, by simp, by simpa using e1⟩
      | succ i => simpa using g2 i d (by simpa using q)
theorem fill_er {K : PySem.W.Frag} {μ : Mm} {H : Hp} {ρ : Env} {σ : L2.St} {vs : List V} (hl : ρ.length = σ.length) (g : VRs K μ H (fillD ρ) vs) (k : ∀ (i : Nat) (d : D), ρ[i]? = some (some d) → ∃ v, vs[i]? = some v ∧ σ[i]? = some (some v)) : ER K μ H ρ σ := ⟨hl, fun i d q => by
  obtain ⟨v, e1, e2⟩ := k i d q
  obtain ⟨v', e3, e4⟩ := g.get (i := i) (d := d) (by unfold fillD; rw [List.getElem?_map, q]; rfl)
  rw [e1] at e3; cases e3
  exact ⟨v, e2, e4⟩⟩
theorem lam_body {A : Around} {outer : List PySem.Env} {s : Shared} {H : Hp} {E : XK} {scope : Scope} {f c' : Addr} {body : Expr} {fb : Ev} {k : Nat} (hr : Room k (A.deeper (LamX.lamEnv X scope s.heap.objs.size f c')))
    (h : Room k (LamX.lamCx X A outer s H E scope f c').A → (LamX.lamCx X A outer s H E scope f c').A.units + 64 < cLine → Takes (LamX.lamCx X A outer s H E scope f c') (fun cls d _ H => E cls d H) → DE ca (LamX.lamCx X A outer s H E scope f c') (fun cls d _ H => E cls d H) body fb) :
    DE ca (LamX.lamCx X A outer s H E scope f c') (fun cls d _ H => E cls d H) body fb := h hr hr.units (takes_of rfl rfl rfl rfl)
/-- x(lambda: body) -/
theorem de_lam {x : Str} {k : Nat} {B : M D → M D} {c P : Addr} {params : Arguments} {body : Expr} {scope : Scope} {fb : Ev} {p lpos pos : Pos} (T : Thd X.prog X.w X.K X.mg X.base ca (k + 1) x B) (TF : TabF X ca c P) (hr : Room (k + 2) X.A) (tk : Takes X W)
    (L : LamX.LamS X.env.scope scope)
    (hbody : ∀ (A : Around) (outer : List PySem.Env) (s : Shared) (H : Hp) (E : XK) (f c' : Addr), Room k (A.deeper (LamX.lamEnv X scope s.heap.objs.size f c')) → DE ca (LamX.lamCx X A outer s H E scope f c') (fun cls d _ H => E cls d H) body fb)
    (hdef : defaultsOf params X.env = ([], []) := by rfl)
    (hbind : ∀ (q : Str) (cl : List (Str × Addr)) (pm cv ctv : Value), bindArgs (PySem.W.kla_fn "<lambda>" q params body scope cl pm cv ctv) ⟨[], []⟩ = pure [] := by intros; rfl)
    (hg : Gl X x := by rfl) (hdb : (x == ("__debug__" : Str)) = false := by decide) : DE ca X W (.Call (.Name x p) [.Lambda params body scope lpos] [] pos) (mLam B fb) := by
  obtain ⟨g, fd, st, N, a, b, hm, F, Sg, hb, hN0, hv, hd, hcd, hB, hi⟩ := T.ex
  have hk := F.kp
  obtain ⟨oc, od, kV, doc, pm0, an, cdv, ct, osl, hfd, lk, hcg⟩ := F.ex
  subst hfd
  refine ⟨fun σ H Q => ∃ μ ρ S r, Rel X.K ca μ H S ∧ ER X.K μ H ρ σ ∧ B (fb ρ) S = some r ∧ Pst (rV X.K) ca μ H r Q (WE W σ), ⟨?_⟩, fun μ σ H ρ S hR hE r hf Q hp => ⟨μ, ρ, S, r, hR, hE, hf, hp⟩⟩
  rintro pins s σ H Q I ⟨μ, ρ, S, r, hR, hE, hf, hp⟩
  have hl : μ.t.l = [(P, X.env.qual ++ "<lambda>")] := by rw [hR.fe]; exact TF.tl
  refine wpAny_Call_Name_kw (ld_glob I hg hm (PySem.W.callWith_K (h₀ := X.base) I.ok.mod.kin hk ?_ (by rfl) (by rfl)) hdb)
  show wpAny _ _ (spliced ((false, eval (.Lambda params body scope lpos) X.env) :: backTo pos (starEach [] X.env))) _ _ s
  refine Calls.spliced_cons (LamX.lam_make2 (T := μ.t.l) I TF.tb TF.code (by rw [hl]; exact List.mem_cons_self) (fun q hq _ => by rw [hl] at hq; rw [List.mem_singleton.mp hq]) hR.tb hdef (L.has I.ok) ?_)
  intro f c' pm ctv H1 s1 I1 eN T1 hf1 hfn hfr hco
  refine Calls.spliced_nil ⟨I1.kIn, ?_⟩
  have x1 : Ext μ H μ H1 := hR.lam eN T1
  have R1 : Rel X.K ca μ H1 S := ⟨hR.len, hR.nd, fun n a o h1 h2 => by
    have o1 := hR.ob n a o h1 h2
    obtain ⟨u, hu, cu⟩ := hR.mu.k a (List.mem_of_getElem? h1)
    refine o1.mono hR.mu x1 ?_
    rw [hu]; exact eN a u hu cu.nt, fun a ha => by
    obtain ⟨u, hu, cu⟩ := hR.hid a ha
    exact ⟨u, eN a u hu cu.nt, cu⟩, T1, hR.fe⟩
  have E1 := hE.mono hR.mu x1
  obtain ⟨vs, g1, g2⟩ := fill_ex E1
  have go : codeAny (model X.prog X.w) X.A (.call (.ref g) ⟨[.ref f], []⟩) (CR (L2.CX X.prog X.w) X.stack X.prog X.w H1 s1 Q (WE W σ)) s1 := by
    refine LamX.run_ofS (k := k + 1) (N := N) (ps := [a]) (us := [.ref f]) (vs := [.ref f]) lk hcg Sg hr I1.env0 (hb s1 [.ref f] I1.kIn rfl) (.cons rfl .nil) rfl fun hr2 => ?_
    have call : ∀ (W' : WX) (pn : List (Addr × Obj)) (xe : Value → Shared → Prop) (p1 p2 : Pos), Takes ((gotCx X N x (defScope st) g cdv s1 H1 (WE W σ)).tr pn xe) W' →
        DE ca ((gotCx X N x (defScope st) g cdv s1 H1 (WE W σ)).tr pn xe) W' (.Call (.Name a p1) [] [] p2) (mThk f c' (X.env.qual ++ "<lambda>") vs (fillD ρ) (fb ρ)) := fun W' pn xe p1 p2 tk' => by
      refine ⟨_, pe_thk (i := 0) (tb := fun E σ H Q => ∃ μ ρ' S r, Rel X.K ca μ H S ∧ ER X.K μ H ρ' σ ∧ fb ρ' S = some r ∧ Pst (rV X.K) ca μ H r Q E) I1 L hf1 hfn hfr (hbind _ _ _ _ _) tk' hr2 (fun A outer s H E hr3 => ?_) hN0 hv hd hcd, fun μ2 σ2 H2 ρ2 S2 hR2 hE2 r2 hf2 Q2 hp2 => ?_⟩
      · obtain ⟨t, pt, ad⟩ := (hbody A outer s H E f c' hr3).ex
        refine ⟨fun pins s2 σ2 H2 Q2 J h => pt.run pins s2 σ2 H2 Q2 J ?_⟩
        obtain ⟨μ3, ρ3, S3, r3, i1, i2, i3, i4⟩ := h
        exact ad μ3 σ2 H2 ρ3 S3 i1 i2 r3 i3 Q2 i4
      · obtain ⟨e, hf2⟩ := mThk_some hf2
        obtain ⟨v, y1, y2⟩ := hE2.2 0 _ e
        obtain ⟨rfl, y3, y4⟩ := y2.thk
        exact ⟨y1, y3, μ2, ρ, S2, r2, hR2, fill_er E1.1 y4 g2, hf2, hp2⟩
    obtain ⟨t, pt, q⟩ := (hB cdv X.A X.stack s1 H1 (WE W σ) _ hr2 call).ex
    refine ⟨t, pt, ?_⟩
    have hf3 := (hi f c' (X.env.qual ++ "<lambda>") vs (fillD ρ) (fb ρ) S).trans hf
    unfold bodyD at hf3
    cases z : b (mThk f c' (X.env.qual ++ "<lambda>") vs (fillD ρ) (fb ρ)) (startD N.length [.thk f c' (X.env.qual ++ "<lambda>") vs (fillD ρ)]) S with
    | none => rw [z] at hf3; cases hf3
    | some r1 =>
      rw [z] at hf3
      obtain ⟨r1, S1⟩ := r1
      have hp3 := hp.ext x1
      refine q μ _ H1 _ S _ R1 (ER.start N (.iCons (VR.iThk hco g1) .iNil)) z _ ?_
      cases r1 with
      | nx ρ => cases hf3; exact fun μ' H' σ' e r1 _ => hp3 μ' H' .non e r1 .iNon
      | rt d => cases hf3; exact fun μ' H' v e r1 x1 => hp3 μ' H' v e r1 x1
      | ex c fs ρ => cases hf3; exact fun μ' H' σ' dd e r1 _ x1 => hp3 μ' H' dd e r1 x1
      | bk ρ => cases hf3
      | ct ρ => cases hf3
  refine wpAny_call (codeAny_mono go ?_)
  intro r' s2 q
  match r', q with
  | .error e, q => exact passAt tk σ pins H1 s1 e s2 I1 q
  | .ok (.ret u), q => exact I1.after q
  | .ok .next, q => exact q.elim
  | .ok .brk, q => exact q.elim
  | .ok .cont, q => exact q.elim
end
end Tl
set_option Elab.async false
set_option linter.all false
set_option maxRecDepth 100000
set_option maxHeartbeats 4000000
set_option autoImplicit false
namespace Tl
open PySem L2 PySem.Spec PyProof.Rows RZ

/-! ### the law's own call, where a table of code objects may grow -/
section
variable {P : Program} {w : World} {K : PySem.W.Frag} {mg mb : Str → Option Value} {k : Nat} {fa a c T : Addr} {fd : FuncData} {x : Str} {sp : Sp} {s1 : Shared} {us : List Value} {ns : List Int} {H : Hp}
/-- what is told of: the script, the table -/
structure ScT (P : Program) (w : World) (K : PySem.W.Frag) (s1 : Shared) (a T : Addr) (ns : List Int) (H : Hp) : Prop where
  one : ∀ b, H b ≠ none → (b = a ∧ K.lookup b = none) ∨ b = T
  only : ∀ b, H b = none ∨ b = T ∨ ∃ ob xs, H b = some (.frz ob (.lst xs))
  tab : H T = some (.tbl #[])
  sq : SqL K H a (ns.map V.int)
  ok : HOk P w H s1.heap
abbrev tab0 : Obj := { cls := .none, data := .fields #[] }
theorem sct_some (KX : K.In s1.heap) (ha : s1.heap.get? a = some { cls := .type "list", data := .seq us.toArray }) (hi : IntsAre us ns) (hl : ns.length ≤ sizeLine) (hT : s1.heap.get? T = some tab0) : ∃ H, ScT P w K s1 a T ns H := by
  obtain ⟨H, c⟩ := sc_some (P := P) (w := w) KX ha hi hl
  have ne : a ≠ T := fun e => by
    rw [e, hT] at ha
    have z := congrArg Obj.data (Option.some.inj ha)
    cases z
  have nT : H T = none := Classical.byContradiction fun h => ne (c.one T h).1.symm
  refine ⟨upd H T (.tbl #[]), fun b h => ?_, fun b => ?_, upd_same, ?_, fun b u e => ?_⟩
  · by_cases q : b = T
    · exact .inr q
    · rw [upd_ne q] at h; exact .inl (c.one b h)
  · by_cases q : b = T
    · exact .inr (.inl q)
    · rw [upd_ne q]; exact (c.only b).imp id .inr
  · rcases c.sq with (h | ⟨o, h⟩) | h
    · exact .inl (.inl (by rw [upd_ne ne]; exact h))
    · exact .inl (.inr ⟨o, by rw [upd_ne ne]; exact h⟩)
    · exact .inr h
  · by_cases q : b = T
    · subst q
      rw [upd_same] at e; cases e
      exact hT
    · rw [upd_ne q] at e
      refine (c.ok b u e).stay (fun _ _ _ h => h) (fun d h => ?_) fun d xs h => ?_
      · rw [upd_ne (ne_of_none h nT)]; exact h
      · rw [upd_ne (ne_of_none h nT)]; exact h
theorem ScT.hidden (q : ScT P w K s1 a T ns H) (ha : s1.heap.get? a = some { cls := .type "list", data := .seq us.toArray }) (hT : s1.heap.get? T = some tab0) {b : Addr} {o : Obj} (e : s1.heap.get? b = some o) (h1 : ∀ vs n, o.data ≠ .seq vs n) (h2 : o.data ≠ .fields #[]) : H b = none := by
  refine Classical.byContradiction fun h => ?_
  rcases q.one b h with ⟨z, _⟩ | z
  · rw [z, ha] at e; cases e; exact h1 _ _ rfl
  · rw [z, hT] at e; cases e; exact h2 rfl
theorem ScT.env (q : ScT P w K s1 a T ns H) (KX : K.In s1.heap) (nT : K.lookup T = none) (hns : s1.heap.Ns mainGlobals mg) (hb : s1.heap.Ns builtinsNs mb) (hbb : ∀ y : Str, y ≠ "__name__" → mb y = bootBuiltins y) (hlim : s1.heap.NoLimit) (hg : s1.gens = #[])
    (ha : s1.heap.get? a = some { cls := .type "list", data := .seq us.toArray }) (hT : s1.heap.get? T = some tab0) : Env0 P w K mg (hidT s1.heap H) callerA [] s1 H := by
  have keepN : ∀ {b : Addr} {m : Str → Option Value}, s1.heap.Ns b m → (hidT s1.heap H).Ns b m := by
    rintro b m ⟨o, es, ep, e, dd, r⟩
    refine ⟨o, es, ep, hidT_get e (q.hidden ha hT e (fun vs n z => ?_) fun z => ?_), dd, r⟩
    · rw [dd] at z; cases z
    · rw [dd] at z; cases z
  have kin : K.In (hidT s1.heap H) := fun b o e => hidT_get (KX b o e) (Classical.byContradiction fun h => by
    rcases q.one b h with ⟨_, z⟩ | z
    · rw [z] at e; cases e
    · rw [z, nT] at e; cases e)
  obtain ⟨mc, l1, l2⟩ := hlim
  exact { frames := rfl, mod := ⟨kin, keepN hns, ⟨mb, keepN hb, hbb⟩, mc, keepN l1, l2⟩, bs := fun _ _ e => of_hidT e, bsz := Nat.le_of_eq (hidT_size _ _), funs := trivial, frf := fun b hm => by simp [frs] at hm, hok := q.ok, bare := AllBare.of_eq hg }
theorem ScT.tabB (q : ScT P w K s1 a T ns H) (hns : s1.heap.Ns mainGlobals mg) (ha : s1.heap.get? a = some { cls := .type "list", data := .seq us.toArray }) (hT : s1.heap.get? T = some tab0) (C : PySem.W.CodeHd s1.heap c T)
    (hbm : ∃ (bm : Addr) (ob : Obj), mg "__builtins__" = some (.ref bm) ∧ bm ≠ builtinsNs ∧ s1.heap.get? bm = some ob ∧ ob.cls = .type "module" ∧ ob.dict = some builtinsNs ∧ ob.data = .plain) : LamX.TabB (hidT s1.heap H) mg c T := by
  have code : PySem.W.CodeHd (hidT s1.heap H) c T := by
    obtain ⟨o, vs, fl, t1, fg, t2, nf, tx, t3, e, r1, r2, r3, rest⟩ := C
    refine ⟨o, vs, fl, t1, fg, t2, nf, tx, t3, hidT_get e (q.hidden ha hT e (fun us n z => ?_) fun z => ?_), r1, r2, r3, rest⟩
    · rw [r2] at z; cases z
    · rw [r2] at z; cases z; simp at r3
  obtain ⟨o0, es0, ep0, g1, g2, g3⟩ := hns
  have gT : mainGlobals ≠ T := fun e => by rw [e, hT] at g1; cases g1; cases g2
  refine ⟨code, ?_, gT⟩
  obtain ⟨bm, ob, b1, b2, b3, b4, b5, b6⟩ := hbm
  have n1 : bm ≠ mainGlobals := fun e => by rw [e, g1] at b3; cases b3; rw [g2] at b6; cases b6
  have n2 : bm ≠ T := fun e => by rw [e, hT] at b3; cases b3; cases b6
  have n3 : H bm = none := q.hidden ha hT b3 (fun us n z => by rw [b6] at z; cases z) fun z => by rw [b6] at z; cases z
  exact ⟨bm, ob, b1, b2, n1, n2, hidT_get b3 n3, b4, b5, b6⟩
theorem law_goesT (KX : K.In s1.heap) (nT : K.lookup T = none) (hns : s1.heap.Ns mainGlobals mg) (hb : s1.heap.Ns builtinsNs mb) (hbb : ∀ y : Str, y ≠ "__name__" → mb y = bootBuiltins y) (hlim : s1.heap.NoLimit) (hg : s1.gens = #[])
    (hT : s1.heap.get? T = some tab0) (C : PySem.W.CodeHd s1.heap c T)
    (hbm : ∃ (bm : Addr) (ob : Obj), mg "__builtins__" = some (.ref bm) ∧ bm ≠ builtinsNs ∧ s1.heap.get? bm = some ob ∧ ob.cls = .type "module" ∧ ob.dict = some builtinsNs ∧ ob.data = .plain)
    (ha : s1.heap.get? a = some { cls := .type "list", data := .seq us.toArray }) (hi : IntsAre us ns) (hl : ns.length ≤ sizeLine) (hr : Room k callerA)
    (F : ∀ base : Heap, K.In base → base.Ns mainGlobals mg → LamX.TabB base mg c T → FnG P w K mg base k fa fd [x] sp)
    (hbind : ∀ (s : Shared) (u : Value), BindsTo s fd ⟨[u], []⟩ [(x, u)]) (hsp : ∀ H : Hp, H T = some (.tbl #[]) → SqL K H a (ns.map V.int) → sp [.ref a] H (fun v _ => v = .bl true) fun _ _ _ => False) (hCX : ∀ H e s', L2.CX P w [] H s1 (fun _ _ _ => False) e s' → False) :
    codeAny (model P w) callerA (.call (.ref fa) ⟨[.ref a], []⟩) (fun r s' => r = .ok (.ret (.bool true)) ∧ OldK s1.heap s'.heap ∧ s'.os = s1.os ∧ AllBare s'.gens) s1 := by
  obtain ⟨H, q⟩ := sct_some (P := P) (w := w) KX ha hi hl hT
  have e0 := q.env KX nT hns hb hbb hlim hg ha hT
  have G := F _ e0.mod.kin e0.mod.glob (q.tabB hns ha hT C hbm)
  refine codeAny_mono (G.goes (us := [.ref a]) rfl hr e0 (hbind s1 _) (vs := [V.ref a]) (.cons rfl .nil) (hsp H q.tab q.sq)) ?_
  intro r s' z
  match r, z with
  | .error e, z => exact (hCX H e s' z).elim
  | .ok .next, z => exact z.elim
  | .ok .brk, z => exact z.elim
  | .ok .cont, z => exact z.elim
  | .ok (.ret u), z =>
    obtain ⟨v, H', os, bare, un, ok', r', qv⟩ := z
    cases (show v = .bl true from qv)
    cases (show u = Value.bool true from r')
    have stays : ∀ b o, b ≠ T → s1.heap.get? b = some o → s'.heap.get? b = some o := fun b o nb e => by
      rcases q.only b with h | h | ⟨ob, xs, h⟩
      · exact un.keep b o e h (by simp [frs]) (by simp)
      · exact (nb h).elim
      · have e1 := (q.ok b _ h).1
        have e2 := (ok' b _ (un.frzs b ob _ h)).1
        rw [e] at e1
        injection e1 with e1
        subst e1
        exact e2
    have tabs : ∃ more : Array Value, s'.heap.get? T = some { cls := .none, data := .fields more } := by
      obtain ⟨more, h⟩ := un.tbls T #[] q.tab
      exact ⟨_, ok' T _ h⟩
    refine ⟨rfl, { old := fun b o e => ?_, there := fun b o e => ?_ }, os, bare⟩
    · by_cases h : b = T
      · subst h
        rw [hT] at e; cases e
        obtain ⟨more, hm⟩ := tabs
        exact .inr (.inl ⟨(C.tab hT).isCodeTable, rfl, #[], more, rfl, by rw [Array.empty_append]; exact hm⟩)
      · exact .inl (stays b o h e)
    · by_cases h : b = T
      · subst h; obtain ⟨more, hm⟩ := tabs; exact ⟨_, hm⟩
      · exact ⟨o, stays b o h e⟩
end
theorem walkT {l : PySem.W.OpenLaw} {n k : Nat} {q : Program} {loose : List Str} {XP : (Str → Option Value) → Heap → Prop} {YP : World → Heap → Prop} {d : DefRec} {K : Params → PySem.W.Frag} {sp : World → Sp} {x : Str} {cT : Params → Addr × Addr}
    (hn : l.most = some n) (hn2 : n ≤ sizeLine) (hdf : d.params.defaults = []) (hr : Room k callerA) (hY : ∀ (w : World) (h : Heap), YP w h → (K w.params).In h ∧ h.get? (cT w.params).2 = some tab0 ∧ (K w.params).lookup (cT w.params).2 = none ∧ PySem.W.CodeHd h (cT w.params).1 (cT w.params).2)
    (F : ∀ (w : World) (mg : Str → Option Value) (fa : Addr) (h : Heap), (K w.params).In h → h.Ns mainGlobals mg → mg d.name = some (.ref fa) →
      ∃ fd : FuncData, (∀ (s : Shared) (u : Value), BindsTo s fd ⟨[u], []⟩ [(x, u)]) ∧ ∀ base : Heap, (K w.params).In base → base.Ns mainGlobals mg → LamX.TabB base mg (cT w.params).1 (cT w.params).2 → FnG l.prog w (K w.params) mg base k fa fd [x] (sp w))
    (hsp : ∀ (w : World) (H : Hp) (a : Addr) (ns : List Int), ns.length ≤ n → H (cT w.params).2 = some (.tbl #[]) → SqL (K w.params) H a (ns.map V.int) → sp w [.ref a] H (fun v _ => v = .bl true) fun _ _ _ => False)
    (hCX : ∀ (w : World) (H : Hp) (s : Shared) (e : Value) (s' : Shared), L2.CX l.prog w [] H s (fun _ _ _ => False) e s' → False) : PySem.W.WalkO q loose XP YP l.row.toRowW d [] (fun f vs => PySem.call f vs) := by
  refine Att.attach_call hn hdf ?_
  intro w s0 s1 mg mb fa o pm cd doc a us ns G Y ho hd hcd hmg hobj hints hlen hg
  obtain ⟨KX, y1, y2, y3⟩ := hY w _ Y
  obtain ⟨fd, hb, hF⟩ := F w mg fa _ KX G.T.g hmg
  exact law_goesT KX y2 G.T.g G.T.b G.T.builtins G.T.nolimit hg y1 y3 G.T.bmain hobj hints (Nat.le_trans hlen hn2) hr hF hb (fun H hO hS => hsp w H a ns hlen hO hS) fun H e s' => hCX w H s1 e s'
end Tl
set_option Elab.async false
set_option linter.all false
set_option maxRecDepth 100000
set_option maxHeartbeats 4000000
set_option autoImplicit false
namespace Tl
open PySem L2

/-! ### what a function does: it ends, with no exception, and so -/
def Does {α : Type} (m : M α) (S : Store) (P : α → Store → Prop) : Prop := ∃ a S', m S = some (.ok a, S') ∧ P a S'
def NoEx : Fl → Prop
  | .ex _ _ _ => False
  | _ => True
def DoS (f : Sm) (ρ : Env) (S : Store) (P : Fl → Store → Prop) : Prop := ∃ r S', f ρ S = some (r, S') ∧ NoEx r ∧ P r S'
theorem Does.imp {α : Type} {m : M α} {S : Store} {P Q : α → Store → Prop} (h : Does m S P) (i : ∀ a S', P a S' → Q a S') : Does m S Q := let ⟨a, S', e, p⟩ := h; ⟨a, S', e, i a S' p⟩
theorem DoS.imp {f : Sm} {ρ : Env} {S : Store} {P Q : Fl → Store → Prop} (h : DoS f ρ S P) (i : ∀ a S', P a S' → Q a S') : DoS f ρ S Q := let ⟨a, S', e, n, p⟩ := h; ⟨a, S', e, n, i a S' p⟩
theorem Does.of {α : Type} {m : M α} {S S' : Store} {a : α} {P : α → Store → Prop} (e : m S = some (.ok a, S')) (p : P a S') : Does m S P := ⟨a, S', e, p⟩
theorem Does.eq {α : Type} {m : M α} {S S' : Store} {a : α} (h : Does m S fun b S1 => b = a ∧ S1 = S') : m S = some (.ok a, S') := by
  obtain ⟨_, _, e, rfl, rfl⟩ := h; exact e
theorem does_ret {α : Type} {a : α} {S : Store} {P : α → Store → Prop} : Does (M.ret a) S P ↔ P a S := by
  constructor
  · rintro ⟨b, S', e, p⟩
    cases (show some ((Rs.ok a : Rs α), S) = some (.ok b, S') from e)
    exact p
  · exact fun p => ⟨a, S, rfl, p⟩
theorem does_stuck {α : Type} {S : Store} {P : α → Store → Prop} : Does (M.stuck : M α) S P ↔ False := ⟨fun ⟨_, _, e, _⟩ => (nomatch e), False.elim⟩
theorem does_bind {α β : Type} {m : M α} {f : α → M β} {S : Store} {P : β → Store → Prop} : Does (m.bind f) S P ↔ Does m S fun a S1 => Does (f a) S1 P := by
  constructor
  · rintro ⟨b, S', e, p⟩
    unfold M.bind at e
    cases q : m S with
    | none => rw [q] at e; cases e
    | some z =>
      obtain ⟨z, S1⟩ := z
      rw [q] at e
      cases z with
      | ok a => exact ⟨a, S1, q, b, S', e, p⟩
      | exc c fs => cases e
  · rintro ⟨a, S1, q, b, S', e, p⟩
    exact ⟨b, S', by unfold M.bind; rw [q]; exact e, p⟩
theorem does_noX {α : Type} {m : M α} {S : Store} {P : α → Store → Prop} : Does (noX m) S P ↔ Does m S P := by
  constructor
  · rintro ⟨b, S', e, p⟩
    obtain ⟨a, e1, e2⟩ := noX_ok e
    exact ⟨b, S', e2, p⟩
  · rintro ⟨b, S', e, p⟩
    exact ⟨b, S', by unfold noX; rw [e], p⟩
theorem does_if {α : Type} {c : Prop} [Decidable c] {m n : M α} {S : Store} {P : α → Store → Prop} : Does (if c then m else n) S P ↔ if c then Does m S P else Does n S P := by
  split <;> rfl
theorem do_seq {f g : Sm} {ρ : Env} {S : Store} {P : Fl → Store → Prop} : DoS (sSeq f g) ρ S P ↔ DoS f ρ S fun r S' => match r with
    | .nx ρ' => DoS g ρ' S' P
    | r => P r S' := by
  unfold DoS sSeq
  constructor
  · rintro ⟨r, S', e, n, p⟩
    cases q : f ρ S with
    | none => rw [q] at e; cases e
    | some z =>
      obtain ⟨z, S1⟩ := z
      rw [q] at e
      cases z with
      | nx ρ' => exact ⟨_, S1, rfl, trivial, r, S', e, n, p⟩
      | rt d => cases e; exact ⟨_, _, rfl, n, p⟩
      | bk d => cases e; exact ⟨_, _, rfl, n, p⟩
      | ct d => cases e; exact ⟨_, _, rfl, n, p⟩
      | ex c d _ => cases e; exact n.elim
  · rintro ⟨z, S1, q, n, p⟩
    cases z with
    | nx ρ' =>
      obtain ⟨r, S', e, n, p⟩ := p
      exact ⟨r, S', by rw [q]; exact e, n, p⟩
    | rt d => exact ⟨_, _, by rw [q], n, p⟩
    | bk d => exact ⟨_, _, by rw [q], n, p⟩
    | ct d => exact ⟨_, _, by rw [q], n, p⟩
    | ex c d _ => exact n.elim
theorem do_bnd {α : Type} {m : Env → M α} {k : α → Sm} {ρ : Env} {S : Store} {P : Fl → Store → Prop} : DoS (sBnd m k) ρ S P ↔ Does (m ρ) S fun a S1 => DoS (k a) ρ S1 P := by
  unfold DoS sBnd Does
  constructor
  · rintro ⟨r, S', e, n, p⟩
    cases q : m ρ S with
    | none => rw [q] at e; cases e
    | some z =>
      obtain ⟨z, S1⟩ := z
      rw [q] at e
      cases z with
      | ok a => exact ⟨a, S1, rfl, r, S', e, n, p⟩
      | exc c fs => cases e; exact n.elim
  · rintro ⟨a, S1, q, r, S', e, n, p⟩
    exact ⟨r, S', by rw [q]; exact e, n, p⟩
theorem do_skip {ρ : Env} {S : Store} {P : Fl → Store → Prop} : DoS sSkip ρ S P ↔ P (.nx ρ) S := ⟨fun ⟨_, _, e, _, p⟩ => by cases e; exact p, fun p => ⟨_, _, rfl, trivial, p⟩⟩
theorem do_tg {g : Tg} {d : D} {ρ : Env} {S : Store} {P : Fl → Store → Prop} : DoS (sTg g d) ρ S P ↔ Does (g d ρ) S fun ρ' S' => P (.nx ρ') S' := by
  unfold DoS sTg Does
  constructor
  · rintro ⟨r, S', e, n, p⟩
    split at e
    · rename_i ρ' S2 q; cases e; exact ⟨ρ', _, q, p⟩
    · cases e
  · rintro ⟨ρ', S', e, p⟩
    exact ⟨.nx ρ', S', by rw [e], trivial, p⟩
theorem do_asg {f : Ev} {g : Tg} {ρ : Env} {S : Store} {P : Fl → Store → Prop} : DoS (sAsg f g) ρ S P ↔ Does (f ρ) S fun d S1 => Does (g d ρ) S1 fun ρ' S' => P (.nx ρ') S' := by
  unfold sAsg; rw [do_bnd]; simp only [do_tg]
theorem do_expr {f : Ev} {ρ : Env} {S : Store} {P : Fl → Store → Prop} : DoS (sExpr f) ρ S P ↔ Does (f ρ) S fun _ S1 => P (.nx ρ) S1 := by
  unfold sExpr; rw [do_bnd]; simp only [do_skip]
theorem do_ret {f : Ev} {ρ : Env} {S : Store} {P : Fl → Store → Prop} : DoS (sRet f) ρ S P ↔ Does (f ρ) S fun d S1 => P (.rt d) S1 := by
  unfold sRet; rw [do_bnd]
  constructor
  · rintro ⟨a, S1, e, _, _, e2, _, p⟩; cases e2; exact ⟨a, S1, e, p⟩
  · rintro ⟨a, S1, e, p⟩; exact ⟨a, S1, e, _, _, rfl, trivial, p⟩
theorem do_retN {ρ : Env} {S : Store} {P : Fl → Store → Prop} : DoS sRetN ρ S P ↔ P (.rt .non) S := ⟨fun ⟨_, _, e, _, p⟩ => by cases e; exact p, fun p => ⟨_, _, rfl, trivial, p⟩⟩
theorem do_if {c : Ev} {f g : Sm} {ρ : Env} {S : Store} {P : Fl → Store → Prop} : DoS (sIf c f g) ρ S P ↔ Does (c ρ) S fun d S1 => match d with
    | .bl true => DoS f ρ S1 P
    | .bl false => DoS g ρ S1 P
    | _ => False := by
  unfold sIf; rw [do_bnd]
  constructor
  · rintro ⟨a, S1, e, h⟩
    refine ⟨a, S1, e, ?_⟩
    split at h
    · exact h
    · exact h
    · obtain ⟨_, _, e, _⟩ := h; cases e
  · rintro ⟨a, S1, e, h⟩
    refine ⟨a, S1, e, ?_⟩
    split at h
    · exact h
    · exact h
    · exact h.elim
theorem do_par {i j : Nat} {fs : Evs} {ρ : Env} {S : Store} {P : Fl → Store → Prop} : DoS (sPar i j fs) ρ S P ↔ Does (fs ρ) S fun ds S1 => match ds with
    | [d, e] => P (.nx ((ρ.set i (some d)).set j (some e))) S1
    | _ => False := by
  unfold sPar; rw [do_bnd]
  constructor
  · rintro ⟨a, S1, e, h⟩
    refine ⟨a, S1, e, ?_⟩
    obtain ⟨_, _, e, _, p⟩ := h
    split at e
    · cases e; exact p
    · cases e
  · rintro ⟨a, S1, e, h⟩
    refine ⟨a, S1, e, ?_⟩
    split at h
    · exact ⟨_, _, rfl, trivial, h⟩
    · exact h.elim
theorem does_body {n : Nat} {b : Sm} {ds : List D} {S : Store} {P : D → Store → Prop} : Does (bodyD n b ds) S P ↔ DoS b (startD n ds) S fun r S' => match r with
    | .nx _ => P .non S'
    | .rt d => P d S'
    | _ => False := by
  unfold Does DoS bodyD
  constructor
  · rintro ⟨a, S', e, p⟩
    cases q : b (startD n ds) S with
    | none => rw [q] at e; cases e
    | some z =>
      obtain ⟨z, S1⟩ := z
      rw [q] at e
      cases z with
      | nx ρ' => cases e; exact ⟨_, _, rfl, trivial, p⟩
      | rt d => cases e; exact ⟨_, _, rfl, trivial, p⟩
      | bk d => cases e
      | ct d => cases e
      | ex c d _ => cases e
  · rintro ⟨z, S1, q, n, p⟩
    cases z with
    | nx ρ' => exact ⟨_, _, by rw [q], p⟩
    | rt d => exact ⟨_, _, by rw [q], p⟩
    | bk d => exact p.elim
    | ct d => exact p.elim
    | ex c d _ => exact p.elim
theorem does_call {g : Fnd} {n : Nat} {fs : Evs} {ρ : Env} {S : Store} {P : D → Store → Prop} : Does (mCall g n fs ρ) S P ↔ Does (fs ρ) S fun ds S1 => if ds.length = n then Does (g ds) S1 P else False := by
  unfold mCall; rw [does_bind]
  constructor
  · rintro ⟨a, S1, e, h⟩; refine ⟨a, S1, e, ?_⟩
    split at h
    · rename_i hh; rw [if_pos hh]; exact h
    · exact (does_stuck.mp h).elim
  · rintro ⟨a, S1, e, h⟩; refine ⟨a, S1, e, ?_⟩
    split at h
    · rename_i hh; rw [if_pos hh]; exact h
    · exact h.elim
theorem does_var {i : Nat} {ρ : Env} {S : Store} {P : D → Store → Prop} : Does (mVar i ρ) S P ↔ ∃ d, ρ[i]? = some (some d) ∧ P d S := by
  unfold mVar
  constructor
  · intro h
    split at h
    · rename_i d e; exact ⟨d, e, does_ret.mp h⟩
    · exact (does_stuck.mp h).elim
  · rintro ⟨d, e, p⟩
    rw [e]; exact does_ret.mpr p
/-! ### loops -/
def Reads (s : Src) (ds : List D) (S : Store) : Prop := s.n = ds.length ∧ (∀ i, i < ds.length → s.rd S i = ds[i]?) ∧ s.fin S = true
theorem reads_d {ds : List D} {S : Store} : Reads (srcD ds) ds S := ⟨rfl, fun _ _ => rfl, rfl⟩
theorem reads_rg {lo : Int} {n : Nat} {S : Store} : Reads (srcRg lo n) ((List.range n).map fun (i : Nat) => .int (lo + i)) S := ⟨by simp [srcRg], fun i h => by
  have h : i < n := by simpa using h
  simp [srcRg, h], rfl⟩
theorem reads_en {s : Src} {ds : List D} {S : Store} (h : Reads s ds S) : Reads (srcEn s) (ds.zipIdx.map fun p => .tup [.int p.2, p.1]) S := ⟨by simp [srcEn, h.1], fun i hi => by
  have hi : i < ds.length := by simpa using hi
  simp [srcEn, h.2.1 i hi, hi], h.2.2⟩
theorem reads_zip {s u : Src} {ds es : List D} {S : Store} (h : Reads s ds S) (h' : Reads u es S) : Reads (srcZip s u) ((ds.zip es).map fun p => .tup [p.1, p.2]) S := ⟨by simp [srcZip, h.1, h'.1], fun i hi => by
  have hi : i < min ds.length es.length := by simpa using hi
  have h1 : i < ds.length := by omega
  have h2 : i < es.length := by omega
  have hz : (ds.zip es)[i]? = some (ds[i], es[i]) := by
    rw [List.getElem?_eq_getElem (by simp; omega)]; simp
  rw [List.getElem?_map, hz]
  simp [srcZip, h.2.1 i h1, h'.2.1 i h2, h1, h2], by simp [srcZip, h.2.2, h'.2.2]⟩
theorem reads_r {k : Nat} {ds : List D} {S : Store} (h : S[k]? = some (.lst ds)) : Reads (srcR k ds.length) ds S := ⟨rfl, fun i _ => by simp [srcR, h], by simp [srcR, h]⟩
theorem do_forGo {s : Src} {ds : List D} {g : Tg} {b : Sm} {P : Fl → Store → Prop} (I : Nat → Env → Store → Prop) (hI : ∀ i ρ S, I i ρ S → Reads s ds S)
    (hs : ∀ i d ρ S, ds[i]? = some d → I i ρ S → DoS (sSeq (sTg g d) b) ρ S fun r S' => match r with
      | .nx ρ' => I (i + 1) ρ' S'
      | .ct ρ' => I (i + 1) ρ' S'
      | .bk ρ' => P (.nx ρ') S'
      | r => P r S') (he : ∀ ρ S, I ds.length ρ S → P (.nx ρ) S) : ∀ (m i : Nat) (ρ : Env) (S : Store), i + m = ds.length → I i ρ S → DoS (forGo s g b m i) ρ S P
  | 0, i, ρ, S, e, h => by
    have e : i = ds.length := by omega
    subst e
    refine ⟨.nx ρ, S, ?_, trivial, he ρ S h⟩
    show (if s.fin S = true then some (Fl.nx ρ, S) else none) = _
    rw [if_pos (hI _ _ _ h).2.2]
  | m + 1, i, ρ, S, e, h => by
    have hi : i < ds.length := by omega
    have hd : ds[i]? = some ds[i] := List.getElem?_eq_getElem hi
    obtain ⟨r, S', q, n, p⟩ := hs i _ ρ S hd h
    have hr : s.rd S i = some ds[i] := by rw [(hI _ _ _ h).2.1 i hi, hd]
    have unf : forGo s g b (m + 1) i ρ S = match sSeq (sTg g ds[i]) b ρ S with
      | some (.nx ρ2, S2) => forGo s g b m (i + 1) ρ2 S2
      | some (.ct ρ2, S2) => forGo s g b m (i + 1) ρ2 S2
      | some (.bk ρ2, S2) => some (.nx ρ2, S2)
      | r => r := by
      show (match s.rd S i with
        | none => none
        | some d => match sSeq (sTg g d) b ρ S with
          | some (.nx ρ2, S2) => forGo s g b m (i + 1) ρ2 S2
          | some (.ct ρ2, S2) => forGo s g b m (i + 1) ρ2 S2
          | some (.bk ρ2, S2) => some (.nx ρ2, S2)
          | r => r) = _
      rw [hr]
    unfold DoS
    rw [unf, q]
    cases r with
    | nx ρ' => exact do_forGo I hI hs he m (i + 1) ρ' S' (by omega) p
    | ct ρ' => exact do_forGo I hI hs he m (i + 1) ρ' S' (by omega) p
    | bk ρ' => exact ⟨_, _, rfl, trivial, p⟩
    | rt d => exact ⟨_, _, rfl, trivial, p⟩
    | ex c d _ => exact n.elim
theorem do_for {it : Env → M Src} {g : Tg} {b : Sm} {ρ : Env} {S : Store} {P : Fl → Store → Prop} (h : Does (it ρ) S fun s S1 => ∃ (ds : List D) (I : Nat → Env → Store → Prop), I 0 ρ S1 ∧ (∀ i ρ S, I i ρ S → Reads s ds S) ∧
    (∀ i d ρ S, ds[i]? = some d → I i ρ S → DoS (sSeq (sTg g d) b) ρ S fun r S' => match r with
      | .nx ρ' => I (i + 1) ρ' S'
      | .ct ρ' => I (i + 1) ρ' S'
      | .bk ρ' => P (.nx ρ') S'
      | r => P r S') ∧ ∀ ρ S, I ds.length ρ S → P (.nx ρ) S) : DoS (sFor it g b) ρ S P := by
  unfold sFor
  refine do_bnd.mpr (h.imp fun s S1 ⟨ds, I, h0, hI, hs, he⟩ => ?_)
  exact do_forGo I hI hs he s.n 0 ρ S1 (by rw [(hI _ _ _ h0).1]; omega) h0
theorem does_lcGo {s : Src} {ds : List D} {g : Tg} {tt te : Ev} {ρ : Env} {P : D → Store → Prop} (I : Nat → List D → Store → Prop) (hI : ∀ i a S, I i a S → Reads s ds S)
    (hs : ∀ i d acc S, ds[i]? = some d → I i acc S → Does (g d ρ) S fun ρ2 S2 => Does (tt ρ2) S2 fun b S3 => match b with
      | .bl true => Does (te ρ2) S3 fun y S4 => acc.length < 1000000 ∧ I (i + 1) (acc ++ [y]) S4
      | .bl false => I (i + 1) acc S3
      | _ => False) (he : ∀ acc S, I ds.length acc S → P (.lst acc) S) : ∀ (m i : Nat) (acc : List D) (S : Store), i + m = ds.length → I i acc S → Does (lcGo s g tt te ρ m i acc) S P
  | 0, i, acc, S, e, h => by
    have e : i = ds.length := by omega
    subst e
    refine ⟨.lst acc, S, ?_, he acc S h⟩
    show (if s.fin S = true then some ((Rs.ok (.lst acc) : Rs D), S) else none) = _
    rw [if_pos (hI _ _ _ h).2.2]
  | m + 1, i, acc, S, e, h => by
    have hi : i < ds.length := by omega
    have hd : ds[i]? = some ds[i] := List.getElem?_eq_getElem hi
    have hr : s.rd S i = some ds[i] := by rw [(hI _ _ _ h).2.1 i hi, hd]
    have unf : lcGo s g tt te ρ (m + 1) i acc S = ((noX (g ds[i] ρ)).bind fun ρ2 => (noX (tt ρ2)).bind fun b => match b with
      | .bl true => (noX (te ρ2)).bind fun y => if acc.length < 1000000 then lcGo s g tt te ρ m (i + 1) (acc ++ [y]) else M.stuck
      | .bl false => lcGo s g tt te ρ m (i + 1) acc
      | _ => M.stuck) S := by
      show (match s.rd S i with
        | none => none
        | some d => ((noX (g d ρ)).bind fun ρ2 => (noX (tt ρ2)).bind fun b => match b with
          | .bl true => (noX (te ρ2)).bind fun y => if acc.length < 1000000 then lcGo s g tt te ρ m (i + 1) (acc ++ [y]) else M.stuck
          | .bl false => lcGo s g tt te ρ m (i + 1) acc
          | _ => M.stuck) S) = _
      rw [hr]
    unfold Does
    rw [unf]
    refine does_bind.mpr (does_noX.mpr ((hs i _ acc S hd h).imp fun ρ2 S2 h2 => does_bind.mpr (does_noX.mpr (h2.imp fun b S3 h3 => ?_))))
    split at h3
    · refine does_bind.mpr (does_noX.mpr (h3.imp fun y S4 ⟨hl, h4⟩ => ?_))
      rw [if_pos hl]
      exact does_lcGo I hI hs he m (i + 1) _ S4 (by omega) h4
    · exact does_lcGo I hI hs he m (i + 1) _ S3 (by omega) h3
    · exact h3.elim
theorem does_lc {it : Env → M Src} {g : Tg} {tt te : Ev} {vs : List Nat} {ρ : Env} {S : Store} {P : D → Store → Prop} (h : Does (it ρ) S fun s S1 => ∃ (ds : List D) (I : Nat → List D → Store → Prop), I 0 [] S1 ∧ (∀ i a S, I i a S → Reads s ds S) ∧
    (∀ i d acc S, ds[i]? = some d → I i acc S → Does (g d (wipeD ρ vs)) S fun ρ2 S2 => Does (tt ρ2) S2 fun b S3 => match b with
      | .bl true => Does (te ρ2) S3 fun y S4 => acc.length < 1000000 ∧ I (i + 1) (acc ++ [y]) S4
      | .bl false => I (i + 1) acc S3
      | _ => False) ∧ ∀ acc S, I ds.length acc S → P (.lst acc) S) : Does (mLc it g tt te vs ρ) S P := by
  unfold mLc
  refine does_bind.mpr (h.imp fun s S1 ⟨ds, I, h0, hI, hs, he⟩ => ?_)
  exact does_lcGo I hI hs he s.n 0 [] S1 (by rw [(hI _ _ _ h0).1]; omega) h0
theorem does_thaw {m : M D} {S : Store} {P : D → Store → Prop} (h : Does m S fun d S1 => ∃ ds, d = .lst ds ∧ P (.ref S1.length) (S1 ++ [.lst ds])) : Does (thaw m) S P := by
  obtain ⟨d, S1, e, ds, rfl, p⟩ := h
  exact ⟨_, _, by unfold thaw; rw [e], p⟩
theorem does_lcR {it : Env → M Src} {g : Tg} {tt te : Ev} {vs : List Nat} {ρ : Env} {S : Store} {P : D → Store → Prop} (h : Does (mLc it g tt te vs ρ) S fun d S1 => ∃ ds, d = .lst ds ∧ P (.ref S1.length) (S1 ++ [.lst ds])) : Does (mLcR it g tt te vs ρ) S P := by
  unfold mLc at h
  unfold mLcR
  refine does_bind.mpr ((does_bind.mp h).imp fun s S1 h1 => does_thaw h1)
/-- each item by itself, the store untouched -/
theorem does_map {it : Env → M Src} {g : Tg} {te : Ev} {vs : List Nat} {ρ : Env} {S : Store} {P : D → Store → Prop} {s : Src} {ds : List D} (f : D → D) (hi : it ρ S = some (.ok s, S)) (hr : Reads s ds S) (hl : ds.length ≤ 1000000)
    (hs : ∀ d ∈ ds, Does (g d (wipeD ρ vs)) S fun ρ2 S2 => Does (te ρ2) S2 fun y S3 => y = f d ∧ S3 = S) (hp : P (.lst (ds.map f)) S) : Does (mLc it g mYes te vs ρ) S P := by
  refine does_lc ⟨s, S, hi, ds, fun i acc S' => S' = S ∧ acc = (ds.take i).map f, ⟨rfl, by simp⟩, fun i a S' h => by rw [h.1]; exact hr, fun i d acc S' hd ⟨h1, h2⟩ => ?_, fun acc S' ⟨h1, h2⟩ => ?_⟩
  · subst h1
    refine (hs d (List.mem_of_getElem? hd)).imp fun ρ2 S2 h => ?_
    refine does_ret.mpr ?_
    refine h.imp fun y S3 ⟨h3, h4⟩ => ⟨?_, h4, ?_⟩
    · rw [h2, List.length_map, List.length_take]
      have := (List.getElem?_eq_some_iff.mp hd).1
      omega
    · rw [h2, h3, List.take_add_one, hd]; simp
  · subst h1
    rw [h2, List.take_length]; exact hp
def whK (c : Ev) (b : Sm) (k : Nat) (d : D) : Sm := match d with
  | .bl true => fun ρ S => match b ρ S with
    | some (.nx ρ2, S2) => whGo c b k ρ2 S2
    | some (.ct ρ2, S2) => whGo c b k ρ2 S2
    | some (.bk ρ2, S2) => some (.nx ρ2, S2)
    | r => r
  | .bl false => sSkip
  | _ => fun _ _ => none
theorem whGo_s (c : Ev) (b : Sm) (k : Nat) : whGo c b (k + 1) = sBnd c (whK c b k) := rfl
theorem whK_t {c : Ev} {b : Sm} {k : Nat} {ρ : Env} {S : Store} : whK c b k (.bl true) ρ S = match b ρ S with
    | some (.nx ρ2, S2) => whGo c b k ρ2 S2
    | some (.ct ρ2, S2) => whGo c b k ρ2 S2
    | some (.bk ρ2, S2) => some (.nx ρ2, S2)
    | r => r := rfl
theorem do_whGo {c : Ev} {b : Sm} {P : Fl → Store → Prop} (I : Nat → Env → Store → Prop)
    (hs : ∀ n ρ S, I n ρ S → Does (c ρ) S fun d S1 => match d with
      | .bl true => DoS b ρ S1 fun r S' => match r with
        | .nx ρ' => ∃ m, m < n ∧ I m ρ' S'
        | .ct ρ' => ∃ m, m < n ∧ I m ρ' S'
        | .bk ρ' => P (.nx ρ') S'
        | r => P r S'
      | .bl false => P (.nx ρ) S1
      | _ => False) : ∀ (n : Nat) (ρ : Env) (S : Store), I n ρ S → ∃ k, DoS (whGo c b k) ρ S P := by
  intro n
  induction n using Nat.strongRecOn with
  | _ n ih =>
  intro ρ S h
  obtain ⟨d, S1, q, h1⟩ := hs n ρ S h
  have unf : ∀ k, whGo c b (k + 1) ρ S = whK c b k d ρ S1 := fun k => by
    rw [whGo_s]
    unfold sBnd
    rw [q]
  split at h1
  · obtain ⟨r, S2, q2, n2, h2⟩ := h1
    cases r with
    | nx ρ' =>
      obtain ⟨m, hm, h3⟩ := h2
      obtain ⟨k, r, S3, e, n3, p⟩ := ih m hm ρ' S2 h3
      refine ⟨k + 1, r, S3, ?_, n3, p⟩
      rw [unf, whK_t, q2]; exact e
    | ct ρ' =>
      obtain ⟨m, hm, h3⟩ := h2
      obtain ⟨k, r, S3, e, n3, p⟩ := ih m hm ρ' S2 h3
      refine ⟨k + 1, r, S3, ?_, n3, p⟩
      rw [unf, whK_t, q2]; exact e
    | bk ρ' => exact ⟨1, .nx ρ', S2, by rw [unf, whK_t, q2], trivial, h2⟩
    | rt d => exact ⟨1, .rt d, S2, by rw [unf, whK_t, q2], trivial, h2⟩
    | ex c d _ => exact n2.elim
  · exact ⟨1, .nx ρ, S1, by rw [unf]; rfl, trivial, h1⟩
  · exact h1.elim
theorem do_while {c : Ev} {b : Sm} {ρ : Env} {S : Store} {P : Fl → Store → Prop} {n : Nat} (I : Nat → Env → Store → Prop) (h0 : I n ρ S)
    (hs : ∀ n ρ S, I n ρ S → Does (c ρ) S fun d S1 => match d with
      | .bl true => DoS b ρ S1 fun r S' => match r with
        | .nx ρ' => ∃ m, m < n ∧ I m ρ' S'
        | .ct ρ' => ∃ m, m < n ∧ I m ρ' S'
        | .bk ρ' => P (.nx ρ') S'
        | r => P r S'
      | .bl false => P (.nx ρ) S1
      | _ => False) : DoS (sWhile c b) ρ S P := by
  obtain ⟨k, r, S', e, n, p⟩ := do_whGo I hs n ρ S h0
  exact ⟨r, S', sWhile_is e, n, p⟩
end Tl
set_option Elab.async false
set_option linter.all false
set_option maxRecDepth 100000
set_option maxHeartbeats 4000000
set_option autoImplicit false
namespace Lw
open PySem L2 Tl

def tbm_HouseError : Nat → Option Bool := tbE 2 4 [true, true]
def tbm_NotAlike : Nat → Option Bool := tbE 2 4 [false, true]
/-- is_integer: thing -/
noncomputable def B_is_integer : Fnd := bodyD 1 (sRet (mAnd (mIsi "int" (mVar 0)) (mNot (mIsi "bool" (mVar 0)))))
/-- is_within: thing, least, most -/
noncomputable def B_is_within (p_is_integer : Fnd) : Fnd := bodyD 3 (sRet (mAnd (mCall p_is_integer 1 (lCons (mVar 0) lNil)) (mChain (ordD fun i j => decide (i ≤ j)) (ordD fun i j => decide (i ≤ j)) (mVar 1) (mVar 0) (mVar 2))))
/-- is_sized: thing, least, most -/
noncomputable def B_is_sized : Fnd := bodyD 3 (sRet (mAnd (mIsi "tuple" (mVar 0)) (mChain (ordD fun i j => decide (i ≤ j)) (ordD fun i j => decide (i ≤ j)) (mVar 1) (mCl lenD (lCons (mVar 0) lNil)) (mVar 2))))
/-- is_pair: thing -/
noncomputable def B_is_pair : Fnd := bodyD 1 (sRet (mAnd (mIsi "tuple" (mVar 0)) (mOp eqD (mCl lenD (lCons (mVar 0) lNil)) (mC (.int 2)))))
/-- is_triple: thing -/
noncomputable def B_is_triple : Fnd := bodyD 1 (sRet (mAnd (mIsi "tuple" (mVar 0)) (mOp eqD (mCl lenD (lCons (mVar 0) lNil)) (mC (.int 3)))))
/-- are_rising: things, one, other -/
noncomputable def B_are_rising : Fnd := bodyD 3 (sRet (mCl allD (lCons (mLc (mZip (mVar 0) (mSl (mVar 0) (oSome (mC (.int 1))) oNo)) (gTp 2 (gsCons (gNm 1) (gsCons (gNm 2) gsNil))) mYes (mOp ltD (mVar 1) (mVar 2)) [1, 2]) lNil)))
/-- divisor: one, other -/
noncomputable def B_divisor : Fnd := bodyD 2 (sSeq (sPar 0 1 (lCons (mCl absD (lCons (mVar 0) lNil)) (lCons (mCl absD (lCons (mVar 1) lNil)) lNil)))
  (sSeq (sWhile (mB (mOp neD (mVar 1) (mC (.int 0)))) (sPar 0 1 (lCons (mVar 1) (lCons (mOp modD (mVar 0) (mVar 1)) lNil))))
  (sRet (mVar 0))))
/-- lowest: top, bottom, common -/
noncomputable def B_lowest (p_divisor : Fnd) : Fnd := bodyD 3 (sSeq (sAsg (mIte (mB (mOp (ordD fun i j => decide (j < i)) (mVar 1) (mC (.int 0)))) (mCall p_divisor 2 (lCons (mVar 0) (lCons (mVar 1) lNil))) (mNeg (mCall p_divisor 2 (lCons (mVar 0) (lCons (mVar 1) lNil))))) (gNm 2))
  (sRet (mTup (lCons (mOp fdivD (mVar 0) (mVar 2)) (lCons (mOp fdivD (mVar 1) (mVar 2)) lNil)))))
/-- plus: one, other -/
noncomputable def B_plus (p_lowest : Fnd) : Fnd := bodyD 2 (sRet (mCall p_lowest 2 (lCons (mOp addD (mOp mulD (mOp idxD (mVar 0) (mC (.int 0))) (mOp idxD (mVar 1) (mC (.int 1)))) (mOp mulD (mOp idxD (mVar 1) (mC (.int 0))) (mOp idxD (mVar 0) (mC (.int 1))))) (lCons (mOp mulD (mOp idxD (mVar 0) (mC (.int 1))) (mOp idxD (mVar 1) (mC (.int 1)))) lNil))))
/-- total: fractions, found, one -/
noncomputable def B_total (p_plus : Fnd) : Fnd := bodyD 3 (sSeq (sAsg (mC (.tup [(.int 0), (.int 1)])) (gNm 1))
  (sSeq (sFor (mIt (mVar 0)) (gNm 2) (sAsg (mCall p_plus 2 (lCons (mVar 1) (lCons (mVar 2) lNil))) (gNm 1)))
  (sRet (mVar 1))))
/-- is_fraction: thing -/
noncomputable def B_is_fraction (p_is_integer p_is_pair p_divisor : Fnd) : Fnd := bodyD 1 (sSeq (sIf (mOr (mNot (mB (mCall p_is_pair 1 (lCons (mVar 0) lNil)))) (mOr (mNot (mB (mCall p_is_integer 1 (lCons (mOp idxD (mVar 0) (mC (.int 0))) lNil)))) (mNot (mB (mCall p_is_integer 1 (lCons (mOp idxD (mVar 0) (mC (.int 1))) lNil)))))) (sRet (mC (.bl false))) sSkip)
  (sRet (mAnd (mOp (ordD fun i j => decide (j < i)) (mOp idxD (mVar 0) (mC (.int 1))) (mC (.int 0))) (mOp eqD (mCall p_divisor 2 (lCons (mOp idxD (mVar 0) (mC (.int 0))) (lCons (mOp idxD (mVar 0) (mC (.int 1))) lNil))) (mC (.int 1))))))
/-- is_chance: thing -/
noncomputable def B_is_chance (p_is_fraction : Fnd) : Fnd := bodyD 1 (sRet (mAnd (mCall p_is_fraction 1 (lCons (mVar 0) lNil)) (mChain (ordD fun i j => decide (i ≤ j)) (ordD fun i j => decide (i ≤ j)) (mC (.int 0)) (mOp idxD (mVar 0) (mC (.int 0))) (mOp idxD (mVar 0) (mC (.int 1))))))
/-- is_word: thing, number -/
noncomputable def B_is_word (p_is_within p_is_sized : Fnd) : Fnd := bodyD 2 (sRet (mAnd (mCall p_is_sized 3 (lCons (mVar 0) (lCons (mC (.int 0)) (lCons (mC (.int 8)) lNil)))) (mCl allD (lCons (mLc (mIt (mVar 0)) (gNm 1) mYes (mCall p_is_within 3 (lCons (mVar 1) (lCons (mC (.int 0)) (lCons (mC (.int 99)) lNil)))) [1]) lNil))))
/-- is_answer: worlds, thing, chance -/
noncomputable def B_is_answer (p_is_sized p_is_triple p_is_chance p_is_word : Fnd) : Fnd := bodyD 3 (sSeq (sIf (mOr (mNot (mB (mCall p_is_triple 1 (lCons (mVar 1) lNil)))) (mOr (mNot (mB (mCall p_is_word 1 (lCons (mOp idxD (mVar 1) (mC (.int 0))) lNil)))) (mNot (mB (mCall p_is_sized 3 (lCons (mOp idxD (mVar 1) (mC (.int 1))) (lCons (mVar 0) (lCons (mVar 0) lNil)))))))) (sRet (mC (.bl false))) sSkip)
  (sRet (mCl allD (lCons (mLc (mIt (mOp idxD (mVar 1) (mC (.int 1)))) (gNm 2) mYes (mCall p_is_chance 1 (lCons (mVar 2) lNil)) [2]) lNil))))
/-- added_weights: worlds, question, world, answer -/
noncomputable def B_added_weights (p_total : Fnd) : Fnd := bodyD 4 (sRet (mCl tupleD (lCons (mLc (mRg1 (mVar 0)) (gNm 2) mYes (mCall p_total 1 (lCons (mLc (mIt (mVar 1)) (gNm 3) mYes (mOp idxD (mOp idxD (mVar 3) (mC (.int 1))) (mVar 2)) [3]) lNil)) [2]) lNil)))
/-- wrong_in_node: worlds, node, ahead, place, number, question, wrong -/
noncomputable def B_wrong_in_node (p_is_sized p_wrong_in_question : Fnd) : Fnd := bodyD 7 (sSeq (sIf (mOr (mNot (mB (mCall p_is_sized 3 (lCons (mVar 1) (lCons (mC (.int 0)) (lCons (mC (.int 5)) lNil)))))) (mAnd (mB (mOp eqD (mCl lenD (lCons (mVar 3) lNil)) (mOp mulD (mC (.int 2)) (mC (.int 8))))) (mB (mOp (ordD fun i j => decide (j < i)) (mCl lenD (lCons (mVar 1) lNil)) (mC (.int 0)))))) (sRet (mVar 3)) sSkip)
  (sSeq (sFor (mEn (mVar 1)) (gTp 2 (gsCons (gNm 4) (gsCons (gNm 5) gsNil))) (sSeq (sAsg (mCall p_wrong_in_question 4 (lCons (mVar 0) (lCons (mVar 5) (lCons (mVar 2) (lCons (mOp addD (mVar 3) (mTup (lCons (mVar 4) lNil))) lNil))))) (gNm 6))
  (sIf (mB (mOp (isD true) (mVar 6) (mC .non))) (sRet (mVar 6)) sSkip)))
  (sRet (mC .non))))
/-- wrong_in_question: worlds, question, ahead, place, number, answer, wrong -/
noncomputable def B_wrong_in_question (p_is_sized p_are_rising p_is_answer p_added_weights p_wrong_in_node : Fnd) : Fnd := bodyD 7 (sSeq (sIf (mNot (mB (mCall p_is_sized 3 (lCons (mVar 1) (lCons (mC (.int 1)) (lCons (mC (.int 12)) lNil)))))) (sRet (mVar 3)) sSkip)
  (sSeq (sFor (mEn (mVar 1)) (gTp 2 (gsCons (gNm 4) (gsCons (gNm 5) gsNil))) (sIf (mNot (mB (mCall p_is_answer 2 (lCons (mVar 0) (lCons (mVar 5) lNil))))) (sRet (mOp addD (mVar 3) (mTup (lCons (mVar 4) lNil)))) sSkip))
  (sSeq (sIf (mOr (mNot (mB (mCall p_are_rising 1 (lCons (mLc (mIt (mVar 1)) (gNm 5) mYes (mOp idxD (mVar 5) (mC (.int 0))) [5]) lNil)))) (mB (mOp neD (mCall p_added_weights 2 (lCons (mVar 0) (lCons (mVar 1) lNil))) (mVar 2)))) (sRet (mVar 3)) sSkip)
  (sSeq (sFor (mEn (mVar 1)) (gTp 2 (gsCons (gNm 4) (gsCons (gNm 5) gsNil))) (sSeq (sAsg (mCall p_wrong_in_node 4 (lCons (mVar 0) (lCons (mOp idxD (mVar 5) (mC (.int 2))) (lCons (mOp idxD (mVar 5) (mC (.int 1))) (lCons (mOp addD (mVar 3) (mTup (lCons (mVar 4) lNil))) lNil))))) (gNm 6))
  (sIf (mB (mOp (isD true) (mVar 6) (mC .non))) (sRet (mVar 6)) sSkip)))
  (sRet (mC .non))))))
/-- count_answers: node, question, answer -/
noncomputable def B_count_answers (p_count_answers : Fnd) : Fnd := bodyD 3 (sRet (mCl sumD (lCons (mLc2 (mIt (mVar 0)) (gNm 1) mYes (mIt (mVar 1)) (gNm 2) mYes (mOp addD (mC (.int 1)) (mCall p_count_answers 1 (lCons (mOp idxD (mVar 2) (mC (.int 2))) lNil))) [1, 2] [2]) lNil)))
/-- House.__init__: self, worlds, tree, wrong -/
noncomputable def B_House (p_is_within p_wrong_in_node p_count_answers : Fnd) : Fnd := bodyD 4 (sSeq (sIf (mNot (mB (mCall p_is_within 3 (lCons (mVar 1) (lCons (mC (.int 1)) (lCons (mC (.int 5)) lNil)))))) sNo sSkip)
  (sSeq (sAsg (mCall p_wrong_in_node 4 (lCons (mVar 1) (lCons (mVar 2) (lCons (mOp mulD (mTup (lCons (mC (.tup [(.int 1), (.int 1)])) lNil)) (mVar 1)) (lCons (mTup lNil) lNil))))) (gNm 3))
  (sSeq (sIf (mB (mOp (isD true) (mVar 3) (mC .non))) sNo sSkip)
  (sSeq (sIf (mB (mOp (ordD fun i j => decide (j < i)) (mCall p_count_answers 1 (lCons (mVar 2) lNil)) (mC (.int 1500)))) sNo sSkip)
  (sSeq (sFldS 0 "worlds" (mVar 0) (mVar 1))
  (sFldS 0 "tree" (mVar 0) (mVar 2)))))))
/-- check_alike: one, other -/
noncomputable def B_check_alike : Fnd := bodyD 2 (sIf (mB (mOp neD (mFldN 2 "worlds" (mVar 0)) (mFldN 2 "worlds" (mVar 1)))) (sRaise0 3) sSkip)
/-- is_wait: node, goal, thing, question, move -/
noncomputable def B_is_wait (p_is_sized p_is_move : Fnd) : Fnd := bodyD 5 (sSeq (sIf (mNot (mB (mCall p_is_sized 3 (lCons (mVar 2) (lCons (mCl lenD (lCons (mVar 1) lNil)) (lCons (mCl lenD (lCons (mVar 1) lNil)) lNil)))))) (sRet (mC (.bl false))) sSkip)
  (sRet (mCl allD (lCons (mLc (mZip (mVar 1) (mVar 2)) (gTp 2 (gsCons (gNm 3) (gsCons (gNm 4) gsNil))) mYes (mCall p_is_move 3 (lCons (mVar 0) (lCons (mVar 3) (lCons (mVar 4) lNil)))) [3, 4]) lNil))))
/-- is_move: node, question, thing, word, number, rest, answer, move -/
noncomputable def B_is_move (p_is_within p_is_sized p_is_triple p_is_wait p_is_move : Fnd) : Fnd := bodyD 8 (sSeq (sIf (mOr (mNot (mB (mCall p_is_triple 1 (lCons (mVar 2) lNil)))) (mNot (mB (mIsi "str" (mOp idxD (mVar 2) (mC (.int 0))))))) (sRet (mC (.bl false))) sSkip)
  (sSeq (sAsg (mVar 2) (gTp 3 (gsCons (gNm 3) (gsCons (gNm 4) (gsCons (gNm 5) gsNil)))))
  (sSeq (sIf (mB (mOp eqD (mVar 3) (mC (.str "tell")))) (sRet (mAnd (mCall p_is_within 3 (lCons (mVar 4) (lCons (mC (.int 0)) (lCons (mOp subD (mCl lenD (lCons (mVar 1) lNil)) (mC (.int 1))) lNil)))) (mCall p_is_wait 3 (lCons (mVar 0) (lCons (mOp idxD (mOp idxD (mVar 1) (mVar 4)) (mC (.int 2))) (lCons (mVar 5) lNil)))))) sSkip)
  (sSeq (sIf (mOr (mB (mOp neD (mVar 3) (mC (.str "ask")))) (mNot (mB (mCall p_is_within 3 (lCons (mVar 4) (lCons (mC (.int 0)) (lCons (mOp subD (mCl lenD (lCons (mVar 0) lNil)) (mC (.int 1))) lNil))))))) (sRet (mC (.bl false))) sSkip)
  (sSeq (sIf (mNot (mB (mCall p_is_sized 3 (lCons (mVar 5) (lCons (mCl lenD (lCons (mOp idxD (mVar 0) (mVar 4)) lNil)) (lCons (mCl lenD (lCons (mOp idxD (mVar 0) (mVar 4)) lNil)) lNil)))))) (sRet (mC (.bl false))) sSkip)
  (sRet (mCl allD (lCons (mLc (mZip (mOp idxD (mVar 0) (mVar 4)) (mVar 5)) (gTp 2 (gsCons (gNm 6) (gsCons (gNm 7) gsNil))) mYes (mCall p_is_move 3 (lCons (mOp idxD (mVar 6) (mC (.int 2))) (lCons (mVar 1) (lCons (mVar 7) lNil)))) [6, 7]) lNil))))))))
/-- is_plan_of: house, other, thing -/
noncomputable def B_is_plan_of (p_is_wait : Fnd) : Fnd := bodyD 3 (sRet (mCall p_is_wait 3 (lCons (mFldN 2 "tree" (mVar 0)) (lCons (mFldN 2 "tree" (mVar 1)) (lCons (mVar 2) lNil)))))
/-- is_plan: house, other, thing -/
noncomputable def B_is_plan (p_check_alike p_is_plan_of : Fnd) : Fnd := bodyD 3 (sSeq (sExpr (mCall p_check_alike 2 (lCons (mVar 0) (lCons (mVar 1) lNil))))
  (sRet (mCall p_is_plan_of 3 (lCons (mVar 0) (lCons (mVar 1) (lCons (mVar 2) lNil))))))
/-- wait_passing: node, found, number, question, told, at, answer -/
noncomputable def B_wait_passing (p_wait_passing : Fnd) : Fnd := bodyD 7 (sSeq (sAsg (mNew lNil) (gNm 1))
  (sSeq (sFor (mEn (mVar 0)) (gTp 2 (gsCons (gNm 2) (gsCons (gNm 3) gsNil))) (sSeq (sAsg (mLc (mEn (mVar 3)) (gTp 2 (gsCons (gNm 5) (gsCons (gNm 6) gsNil))) mYes (mTup (lCons (mC (.str "tell")) (lCons (mVar 5) (lCons (mCall p_wait_passing 1 (lCons (mOp idxD (mVar 6) (mC (.int 2))) lNil)) lNil)))) [5, 6]) (gNm 4))
  (sExpr (mMt kApp (mVar 1) (mTup (lCons (mC (.str "ask")) (lCons (mVar 2) (lCons (mCl tupleD (lCons (mVar 4) lNil)) lNil))))))))
  (sRet (mCl tupleD (lCons (mVar 1) lNil)))))
/-- passing: house -/
noncomputable def B_passing (p_wait_passing : Fnd) : Fnd := bodyD 1 (sRet (mTup (lCons (mTup (lCons (mC (.tup [(.int 1), (.int 1)])) (lCons (mCall p_wait_passing 1 (lCons (mFldN 2 "tree" (mVar 0)) lNil)) lNil))) lNil)))
/-- _law_bag: _law_script, _law_seed, _law_cell, _law_great, _law_always -/
noncomputable def B_l_bag : Fnd := bodyD 5 (sSeq (sAsg (mOp addD (mC (.int 29)) (mCl lenD (lCons (mVar 0) lNil))) (gNm 1))
  (sSeq (sFor (mIt (mSl (mVar 0) oNo (oSome (mC (.int 63))))) (gNm 2) (sAsg (mOp modD (mCl intD (lCons (mOp addD (mOp addD (mOp mulD (mVar 1) (mC (.int 69621))) (mOp modD (mCl intD (lCons (mVar 2) lNil)) (mC (.int 1000003)))) (mC (.int 7))) lNil)) (mC (.int 2147483647))) (gNm 1)))
  (sSeq (sAsg (mLcR (mIt (mSl (mVar 0) oNo (oSome (mC (.int 63))))) (gNm 2) (mB (mOp (ordD fun i j => decide (j ≤ i)) (mCl absD (lCons (mCl intD (lCons (mVar 2) lNil)) lNil)) (mOp powD (mC (.int 10)) (mC (.int 18))))) (mCl absD (lCons (mCl intD (lCons (mVar 2) lNil)) lNil)) [2]) (gNm 3))
  (sSeq (sAsg (mC .non) (gNm 4))
  (sSeq (sIf (mAnd (mB (mOp ltD (mCl lenD (lCons (mVar 0) lNil)) (mC (.int 2)))) (mB (mOp eqD (mCl lenD (lCons (mVar 3) lNil)) (mC (.int 0))))) (sAsg (mCl absD (lCons (mCl sumD (lCons (mLc (mIt (mVar 0)) (gNm 2) mYes (mCl intD (lCons (mVar 2) lNil)) [2]) lNil)) lNil)) (gNm 4)) sSkip)
  (sRet (mNew (lCons (mVar 1) (lCons (mC (.int 1)) (lCons (mVar 3) (lCons (mVar 4) lNil)))))))))))
/-- _law_pick: _law_bag_here, _law_many, _law_great, _law_digit, _law_number -/
noncomputable def B_l_pick : Fnd := bodyD 5 (sSeq (sIf (mB (mOp (isD true) (mOp idxD (mVar 0) (mC (.int 3))) (mC .non))) (sRet (mOp modD (mCl intD (lCons (mOp idxD (mVar 0) (mC (.int 3))) lNil)) (mVar 1))) sSkip)
  (sSeq (sAsg (mOp addD (mOp idxD (mVar 0) (mC (.int 1))) (mC (.int 1))) (gSubD (mVar 0) (mC (.int 1))))
  (sSeq (sAsg (mOp idxD (mVar 0) (mC (.int 2))) (gNm 2))
  (sSeq (sIf (mB (mOp (ordD fun i j => decide (j < i)) (mCl lenD (lCons (mVar 2) lNil)) (mC (.int 0)))) (sSeq (sAsg (mOp modD (mCl intD (lCons (mOp idxD (mVar 2) (mC (.int 0))) lNil)) (mVar 1)) (gNm 3))
  (sSeq (sAsg (mOp fdivD (mCl intD (lCons (mOp idxD (mVar 2) (mC (.int 0))) lNil)) (mVar 1)) (gSubD (mVar 2) (mC (.int 0))))
  (sSeq (sIf (mB (mOp eqD (mOp idxD (mVar 2) (mC (.int 0))) (mC (.int 0)))) (sExpr (mMt kPop (mVar 2) (mC (.int 0)))) sSkip)
  (sRet (mVar 3))))) sSkip)
  (sSeq (sAsg (mOp modD (mCl intD (lCons (mOp mulD (mOp addD (mOp idxD (mVar 0) (mC (.int 0))) (mOp mulD (mC (.int 7919)) (mOp idxD (mVar 0) (mC (.int 1))))) (mC (.int 48271))) lNil)) (mC (.int 2147483647))) (gNm 4))
  (sSeq (sAsg (mOp modD (mCl intD (lCons (mOp mulD (mVar 4) (mOp addD (mOp fdivD (mVar 4) (mC (.int 1009))) (mC (.int 69621)))) lNil)) (mC (.int 2147483647))) (gNm 4))
  (sSeq (sAsg (mOp modD (mCl intD (lCons (mOp mulD (mVar 4) (mOp addD (mOp fdivD (mVar 4) (mC (.int 2003))) (mC (.int 40692)))) lNil)) (mC (.int 2147483399))) (gNm 4))
  (sRet (mOp modD (mCl intD (lCons (mOp fdivD (mVar 4) (mC (.int 16))) lNil)) (mVar 1))))))))))
/-- _law_some: _law_bag_here, _law_things -/
noncomputable def B_l_some (p_l_pick : Fnd) : Fnd := bodyD 2 (sRet (mOp idxD (mVar 1) (mCall p_l_pick 2 (lCons (mVar 0) (lCons (mCl lenD (lCons (mVar 1) lNil)) lNil)))))
/-- _law_common: _law_one, _law_other -/
noncomputable def B_l_common : Fnd := bodyD 2 (sSeq (sWhile (mB (mOp neD (mVar 1) (mC (.int 0)))) (sPar 0 1 (lCons (mVar 1) (lCons (mOp modD (mVar 0) (mVar 1)) lNil))))
  (sRet (mVar 0)))
/-- _law_low: _law_top, _law_bottom, _law_common_here -/
noncomputable def B_l_low (p_l_common : Fnd) : Fnd := bodyD 3 (sSeq (sAsg (mCall p_l_common 2 (lCons (mCl absD (lCons (mVar 0) lNil)) (lCons (mVar 1) lNil))) (gNm 2))
  (sRet (mTup (lCons (mOp fdivD (mVar 0) (mVar 2)) (lCons (mOp fdivD (mVar 1) (mVar 2)) lNil)))))
/-- _law_times: _law_one, _law_other -/
noncomputable def B_l_times (p_l_low : Fnd) : Fnd := bodyD 2 (sRet (mCall p_l_low 2 (lCons (mOp mulD (mOp idxD (mVar 0) (mC (.int 0))) (mOp idxD (mVar 1) (mC (.int 0)))) (lCons (mOp mulD (mOp idxD (mVar 0) (mC (.int 1))) (mOp idxD (mVar 1) (mC (.int 1)))) lNil))))
/-- _law_shares: _law_bag_here, _law_many, _law_least, _law_parts_here, _law_k, _law_part -/
noncomputable def B_l_shares (p_l_pick p_l_low : Fnd) : Fnd := bodyD 6 (sSeq (sAsg (mLcR (mRg1 (mVar 1)) (gNm 4) mYes (mOp addD (mVar 2) (mCall p_l_pick 2 (lCons (mVar 0) (lCons (mC (.int 4)) lNil)))) [4]) (gNm 3))
  (sSeq (sAugS (fun i j => i + j) (mVar 3) (mCall p_l_pick 2 (lCons (mVar 0) (lCons (mVar 1) lNil))) (mC (.int 1)))
  (sRet (mLc (mIt (mVar 3)) (gNm 5) mYes (mCall p_l_low 2 (lCons (mVar 5) (lCons (mCl sumD (lCons (mVar 3) lNil)) lNil))) [5]))))
/-- _law_question: _law_bag_here, _law_worlds, _law_ahead, _law_levels, _law_left, _law_many, _law_rows, _law_found, _law_k, _law_word_here, _law_weights, _law_world -/
noncomputable def B_l_question (p_l_pick p_l_some p_l_times p_l_shares p_l_node : Fnd) : Fnd := bodyD 12 (sSeq (sAsg (mOp addD (mC (.int 1)) (mCall p_l_pick 2 (lCons (mVar 0) (lCons (mC (.int 3)) lNil)))) (gNm 5))
  (sSeq (sAugS (fun i j => i - j) (mVar 4) (mC (.int 0)) (mVar 5))
  (sSeq (sAsg (mLc (mRg1 (mVar 1)) (gNm 11) mYes (mCall p_l_shares 3 (lCons (mVar 0) (lCons (mVar 5) (lCons (mCall p_l_pick 2 (lCons (mVar 0) (lCons (mC (.int 2)) lNil))) lNil)))) [11]) (gNm 6))
  (sSeq (sAsg (mNew lNil) (gNm 7))
  (sSeq (sFor (mRg1 (mVar 5)) (gNm 8) (sSeq (sAsg (mCall p_l_some 2 (lCons (mVar 0) (lCons (mLst (lCons (mTup (lCons (mVar 8) lNil)) (lCons (mTup (lCons (mOp mulD (mC (.int 7)) (mVar 8)) (lCons (mC (.int 3)) lNil))) (lCons (mTup (lCons (mOp addD (mOp mulD (mC (.int 9)) (mVar 8)) (mC (.int 1))) (lCons (mC (.int 0)) (lCons (mC (.int 99)) lNil)))) (lCons (mOp mulD (mTup (lCons (mOp addD (mC (.int 90)) (mVar 8)) lNil)) (mC (.int 7))) (lCons (mTup lNil) lNil)))))) lNil))) (gNm 9))
  (sSeq (sAsg (mCl tupleD (lCons (mLc (mRg1 (mVar 1)) (gNm 11) mYes (mCall p_l_times 2 (lCons (mOp idxD (mVar 2) (mVar 11)) (lCons (mOp idxD (mOp idxD (mVar 6) (mVar 11)) (mVar 8)) lNil))) [11]) lNil)) (gNm 10))
  (sExpr (mMt kApp (mVar 7) (mTup (lCons (mOp addD (mTup (lCons (mOp mulD (mC (.int 11)) (mVar 8)) lNil)) (mVar 9)) (lCons (mVar 10) (lCons (mCall p_l_node 5 (lCons (mVar 0) (lCons (mVar 1) (lCons (mVar 10) (lCons (mOp subD (mVar 3) (mC (.int 1))) (lCons (mVar 4) lNil)))))) lNil)))))))))
  (sRet (mCl tupleD (lCons (mVar 7) lNil))))))))
/-- _law_node: _law_bag_here, _law_worlds, _law_ahead, _law_levels, _law_left, _law_k -/
noncomputable def B_l_node (p_l_pick p_l_question : Fnd) : Fnd := bodyD 6 (sSeq (sIf (mOr (mB (mOp eqD (mVar 3) (mC (.int 0)))) (mB (mOp (ordD fun i j => decide (i ≤ j)) (mOp idxD (mVar 4) (mC (.int 0))) (mC (.int 0))))) (sRet (mTup lNil)) sSkip)
  (sRet (mCl tupleD (lCons (mLc (mRg1 (mCall p_l_pick 2 (lCons (mVar 0) (lCons (mC (.int 3)) lNil)))) (gNm 5) mYes (mCall p_l_question 5 (lCons (mVar 0) (lCons (mVar 1) (lCons (mVar 2) (lCons (mVar 3) (lCons (mVar 4) lNil)))))) [5]) lNil))))
/-- _law_tree: _law_bag_here, _law_worlds, _law_levels, _law_answers, _law_ahead, _law_left, _law_some_here, _law_k -/
noncomputable def B_l_tree (p_l_pick p_l_question : Fnd) : Fnd := bodyD 8 (sSeq (sAsg (mTup (lCons (mOp mulD (mTup (lCons (mTup (lCons (mC (.int 1)) (lCons (mC (.int 1)) lNil))) lNil)) (mVar 1)) (lCons (mNew (lCons (mVar 3) lNil)) lNil))) (gTp 2 (gsCons (gNm 4) (gsCons (gNm 5) gsNil))))
  (sSeq (sAsg (mLc (mRg1 (mOp addD (mC (.int 1)) (mCall p_l_pick 2 (lCons (mVar 0) (lCons (mC (.int 2)) lNil))))) (gNm 7) mYes (mCall p_l_question 5 (lCons (mVar 0) (lCons (mVar 1) (lCons (mVar 4) (lCons (mVar 2) (lCons (mVar 5) lNil)))))) [7]) (gNm 6))
  (sRet (mCl tupleD (lCons (mVar 6) lNil)))))
/-- _law_deep: _law_thing, _law_turn -/
noncomputable def B_l_deep : Fnd := bodyD 2 (sSeq (sAsg (mLst (lCons (mC .non) lNil)) (gNm 0))
  (sSeq (sFor (mRg1 (mC (.int 35))) (gNm 1) (sAsg (mIte (mB (mOp eqD (mOp modD (mVar 1) (mC (.int 2))) (mC (.int 0)))) (mLst (lCons (mVar 0) lNil)) (mTup (lCons (mVar 0) lNil))) (gNm 0)))
  (sRet (mVar 0))))
/-- _law_odd: _law_bag_here, _law_some_here -/
noncomputable def B_l_odd (p_l_some p_l_deep : Fnd) : Fnd := bodyD 2 (sSeq (sAsg (mLst (lCons (mC .non) (lCons (mC (.bl true)) (lCons (mC (.bl false)) (lCons (mC (.int 0)) (lCons (mC (.int 1)) (lCons (mNeg (mC (.int 1))) (lCons (mC (.int 12)) (lCons (mOp powD (mC (.int 10)) (mC (.int 29))) (lCons (mC (.str "")) (lCons (mC (.str "tell")) (lCons (mC (.str "ask")) (lCons (mTup lNil) (lCons (mLst lNil) (lCons (mC .dct) (lCons (mTup (lCons (mTup lNil) lNil)) (lCons (mTup (lCons (mC (.int 0)) lNil)) (lCons (mTup (lCons (mC (.int 0)) (lCons (mC (.int 1)) lNil))) (lCons (mTup (lCons (mC (.int 1)) (lCons (mC (.int 1)) lNil))) lNil))))))))))))))))))) (gNm 1))
  (sSeq (sAsg (mOp addD (mVar 1) (mLst (lCons (mTup (lCons (mC (.int 2)) (lCons (mC (.int 2)) lNil))) (lCons (mLst (lCons (mC (.int 1)) (lCons (mC (.int 1)) lNil))) (lCons (mTup (lCons (mC (.int 1)) (lCons (mC (.int 2)) lNil))) (lCons (mTup (lCons (mNeg (mC (.int 1))) (lCons (mC (.int 2)) lNil))) (lCons (mTup (lCons (mC (.int 3)) (lCons (mC (.int 2)) lNil))) (lCons (mTup (lCons (mC (.bl true)) (lCons (mC (.int 1)) lNil))) (lCons (mTup (lCons (mTup (lCons (mC (.int 0)) (lCons (mC (.int 1)) lNil))) lNil)) (lCons (mC .dct) (lCons (mTup (lCons (mC .non) (lCons (mC .non) lNil))) (lCons (fun _ => noX (p_l_deep [])) lNil)))))))))))) (gNm 1))
  (sRet (mCall p_l_some 2 (lCons (mVar 0) (lCons (mVar 1) lNil))))))
/-- _law_parts: _law_node_here, _law_place, _law_found, _law_k, _law_thing -/
noncomputable def B_l_parts (p_l_parts : Fnd) : Fnd := bodyD 5 (sSeq (sAsg (mLst (lCons (mTup (lCons (mVar 1) (lCons (mVar 0) lNil))) lNil)) (gNm 2))
  (sSeq (sIf (mB (mIsi "tuple" (mVar 0))) (sFor (mEn (mVar 0)) (gTp 2 (gsCons (gNm 3) (gsCons (gNm 4) gsNil))) (sAsg (mOp addD (mVar 2) (mCall p_l_parts 2 (lCons (mVar 4) (lCons (mOp addD (mVar 1) (mTup (lCons (mVar 3) lNil))) lNil)))) (gNm 2))) sSkip)
  (sRet (mVar 2))))
/-- _law_put: _law_thing, _law_place, _law_other -/
noncomputable def B_l_put (p_l_put : Fnd) : Fnd := bodyD 3 (sSeq (sIf (mB (mOp eqD (mVar 1) (mTup lNil))) (sRet (mVar 2)) sSkip)
  (sRet (mOp addD (mOp addD (mSl (mVar 0) oNo (oSome (mOp idxD (mVar 1) (mC (.int 0))))) (mTup (lCons (mCall p_l_put 3 (lCons (mOp idxD (mVar 0) (mOp idxD (mVar 1) (mC (.int 0)))) (lCons (mSl (mVar 1) (oSome (mC (.int 1))) oNo) (lCons (mVar 2) lNil)))) lNil))) (mSl (mVar 0) (oSome (mOp addD (mOp idxD (mVar 1) (mC (.int 0))) (mC (.int 1)))) oNo))))
/-- _law_spoilt: _law_bag_here, _law_thing, _law_place, _law_part, _law_way -/
noncomputable def B_l_spoilt (p_l_pick p_l_some p_l_odd p_l_parts p_l_put : Fnd) : Fnd := bodyD 5 (sSeq (sAsg (mCall p_l_some 2 (lCons (mVar 0) (lCons (mCall p_l_parts 2 (lCons (mVar 1) (lCons (mTup lNil) lNil))) lNil))) (gTp 2 (gsCons (gNm 2) (gsCons (gNm 3) gsNil))))
  (sSeq (sAsg (mCall p_l_pick 2 (lCons (mVar 0) (lCons (mC (.int 6)) lNil))) (gNm 4))
  (sSeq (sIf (mAnd (mB (mOp eqD (mVar 4) (mC (.int 0)))) (mB (mIsi "tuple" (mVar 3)))) (sRet (mCall p_l_put 3 (lCons (mVar 1) (lCons (mVar 2) (lCons (mCl listD (lCons (mVar 3) lNil)) lNil))))) sSkip)
  (sSeq (sIf (mAnd (mB (mOp eqD (mVar 4) (mC (.int 1)))) (mAnd (mB (mIsi "tuple" (mVar 3))) (mB (mOp (ordD fun i j => decide (j < i)) (mCl lenD (lCons (mVar 3) lNil)) (mC (.int 0)))))) (sRet (mCall p_l_put 3 (lCons (mVar 1) (lCons (mVar 2) (lCons (mSl (mVar 3) oNo (oSome (mNeg (mC (.int 1))))) lNil))))) sSkip)
  (sSeq (sIf (mAnd (mB (mOp eqD (mVar 4) (mC (.int 2)))) (mAnd (mB (mIsi "tuple" (mVar 3))) (mB (mOp (ordD fun i j => decide (j < i)) (mCl lenD (lCons (mVar 3) lNil)) (mC (.int 0)))))) (sRet (mCall p_l_put 3 (lCons (mVar 1) (lCons (mVar 2) (lCons (mOp addD (mVar 3) (mSl (mVar 3) (oSome (mNeg (mC (.int 1)))) oNo)) lNil))))) sSkip)
  (sSeq (sIf (mAnd (mB (mOp eqD (mVar 4) (mC (.int 3)))) (mAnd (mB (mIsi "int" (mVar 3))) (mNot (mB (mIsi "bool" (mVar 3)))))) (sRet (mCall p_l_put 3 (lCons (mVar 1) (lCons (mVar 2) (lCons (mOp addD (mVar 3) (mCall p_l_some 2 (lCons (mVar 0) (lCons (mLst (lCons (mC (.int 1)) (lCons (mNeg (mC (.int 1))) (lCons (mC (.int 5)) lNil)))) lNil)))) lNil))))) sSkip)
  (sSeq (sIf (mAnd (mB (mOp eqD (mVar 4) (mC (.int 4)))) (mAnd (mB (mIsi "tuple" (mVar 3))) (mB (mOp (ordD fun i j => decide (j < i)) (mCl lenD (lCons (mVar 3) lNil)) (mC (.int 1)))))) (sRet (mCall p_l_put 3 (lCons (mVar 1) (lCons (mVar 2) (lCons (mRevT (mVar 3)) lNil))))) sSkip)
  (sRet (mCall p_l_put 3 (lCons (mVar 1) (lCons (mVar 2) (lCons (mCall p_l_odd 1 (lCons (mVar 0) lNil)) lNil))))))))))))
/-- _law_wait: _law_bag_here, _law_here, _law_goal, _law_left, _law_question_here -/
noncomputable def B_l_wait (p_l_move : Fnd) : Fnd := bodyD 5 (sRet (mCl tupleD (lCons (mLc (mIt (mVar 2)) (gNm 4) mYes (mCall p_l_move 4 (lCons (mVar 0) (lCons (mVar 1) (lCons (mVar 4) (lCons (mVar 3) lNil))))) [4]) lNil)))
/-- _law_move: _law_bag_here, _law_here, _law_question_here, _law_left, _law_q, _law_a, _law_word_here, _law_weights, _law_behind -/
noncomputable def B_l_move (p_l_pick p_l_wait p_l_move : Fnd) : Fnd := bodyD 9 (sSeq (sAugS (fun i j => i - j) (mVar 3) (mC (.int 0)) (mC (.int 1)))
  (sSeq (sIf (mAnd (mB (mOp (ordD fun i j => decide (j < i)) (mCl lenD (lCons (mVar 1) lNil)) (mC (.int 0)))) (mAnd (mB (mOp (ordD fun i j => decide (j < i)) (mOp idxD (mVar 3) (mC (.int 0))) (mC (.int 0)))) (mB (mOp (ordD fun i j => decide (j < i)) (mCall p_l_pick 2 (lCons (mVar 0) (lCons (mC (.int 3)) lNil))) (mC (.int 0)))))) (sSeq (sAsg (mCall p_l_pick 2 (lCons (mVar 0) (lCons (mCl lenD (lCons (mVar 1) lNil)) lNil))) (gNm 4))
  (sRet (mTup (lCons (mC (.str "ask")) (lCons (mVar 4) (lCons (mCl tupleD (lCons (mLc (mIt (mOp idxD (mVar 1) (mVar 4))) (gTp 3 (gsCons (gNm 6) (gsCons (gNm 7) (gsCons (gNm 8) gsNil)))) mYes (mCall p_l_move 4 (lCons (mVar 0) (lCons (mVar 8) (lCons (mVar 2) (lCons (mVar 3) lNil))))) [6, 7, 8]) lNil)) lNil)))))) sSkip)
  (sSeq (sAsg (mCall p_l_pick 2 (lCons (mVar 0) (lCons (mCl lenD (lCons (mVar 2) lNil)) lNil))) (gNm 5))
  (sRet (mTup (lCons (mC (.str "tell")) (lCons (mVar 5) (lCons (mCall p_l_wait 4 (lCons (mVar 0) (lCons (mVar 1) (lCons (mOp idxD (mOp idxD (mVar 2) (mVar 5)) (mC (.int 2))) (lCons (mVar 3) lNil))))) lNil))))))))
/-- _law_is_int: _law_thing, _law_least, _law_most -/
noncomputable def B_l_is_int : Fnd := bodyD 3 (sRet (mAnd (mIsi "int" (mVar 0)) (mAnd (mNot (mIsi "bool" (mVar 0))) (mChain (ordD fun i j => decide (i ≤ j)) (ordD fun i j => decide (i ≤ j)) (mVar 1) (mVar 0) (mVar 2)))))
/-- _law_is_wait: _law_here, _law_goal, _law_thing, _law_k -/
noncomputable def B_l_is_wait (p_l_is_move : Fnd) : Fnd := bodyD 4 (sSeq (sIf (mOr (mNot (mB (mIsi "tuple" (mVar 2)))) (mB (mOp neD (mCl lenD (lCons (mVar 2) lNil)) (mCl lenD (lCons (mVar 1) lNil))))) (sRet (mC (.bl false))) sSkip)
  (sRet (mCl allD (lCons (mLc (mRg1 (mCl lenD (lCons (mVar 1) lNil))) (gNm 3) mYes (mCall p_l_is_move 3 (lCons (mVar 0) (lCons (mOp idxD (mVar 1) (mVar 3)) (lCons (mOp idxD (mVar 2) (mVar 3)) lNil)))) [3]) lNil))))
/-- _law_is_move: _law_here, _law_question_here, _law_thing, _law_answers, _law_k -/
noncomputable def B_l_is_move (p_l_is_int p_l_is_wait p_l_is_move : Fnd) : Fnd := bodyD 5 (sSeq (sIf (mOr (mNot (mB (mIsi "tuple" (mVar 2)))) (mOr (mB (mOp neD (mCl lenD (lCons (mVar 2) lNil)) (mC (.int 3)))) (mNot (mB (mIsi "str" (mOp idxD (mVar 2) (mC (.int 0)))))))) (sRet (mC (.bl false))) sSkip)
  (sSeq (sIf (mB (mOp eqD (mOp idxD (mVar 2) (mC (.int 0))) (mC (.str "tell")))) (sRet (mAnd (mCall p_l_is_int 3 (lCons (mOp idxD (mVar 2) (mC (.int 1))) (lCons (mC (.int 0)) (lCons (mOp subD (mCl lenD (lCons (mVar 1) lNil)) (mC (.int 1))) lNil)))) (mCall p_l_is_wait 3 (lCons (mVar 0) (lCons (mOp idxD (mOp idxD (mVar 1) (mOp idxD (mVar 2) (mC (.int 1)))) (mC (.int 2))) (lCons (mOp idxD (mVar 2) (mC (.int 2))) lNil)))))) sSkip)
  (sSeq (sIf (mOr (mB (mOp neD (mOp idxD (mVar 2) (mC (.int 0))) (mC (.str "ask")))) (mNot (mB (mCall p_l_is_int 3 (lCons (mOp idxD (mVar 2) (mC (.int 1))) (lCons (mC (.int 0)) (lCons (mOp subD (mCl lenD (lCons (mVar 0) lNil)) (mC (.int 1))) lNil))))))) (sRet (mC (.bl false))) sSkip)
  (sSeq (sAsg (mOp idxD (mVar 0) (mOp idxD (mVar 2) (mC (.int 1)))) (gNm 3))
  (sSeq (sIf (mOr (mNot (mB (mIsi "tuple" (mOp idxD (mVar 2) (mC (.int 2)))))) (mB (mOp neD (mCl lenD (lCons (mOp idxD (mVar 2) (mC (.int 2))) lNil)) (mCl lenD (lCons (mVar 3) lNil))))) (sRet (mC (.bl false))) sSkip)
  (sRet (mCl allD (lCons (mLc (mRg1 (mCl lenD (lCons (mVar 3) lNil))) (gNm 4) mYes (mCall p_l_is_move 3 (lCons (mOp idxD (mOp idxD (mVar 3) (mVar 4)) (mC (.int 2))) (lCons (mVar 1) (lCons (mOp idxD (mOp idxD (mVar 2) (mC (.int 2))) (mVar 4)) lNil)))) [4]) lNil))))))))
/-- _law_reweighted: _law_bag_here, _law_worlds, _law_node_here, _law_ahead, _law_found, _law_question_here, _law_rows, _law_answers, _law_k, _law_word_here, _law_weights, _law_behind, _law_there, _law_world -/
noncomputable def B_l_reweighted (p_l_times p_l_shares p_l_reweighted : Fnd) : Fnd := bodyD 14 (sSeq (sAsg (mNew lNil) (gNm 4))
  (sSeq (sFor (mIt (mVar 2)) (gNm 5) (sSeq (sAsg (mLc (mRg1 (mVar 1)) (gNm 13) mYes (mCall p_l_shares 3 (lCons (mVar 0) (lCons (mCl lenD (lCons (mVar 5) lNil)) (lCons (mC (.int 0)) lNil)))) [13]) (gNm 6))
  (sSeq (sAsg (mNew lNil) (gNm 7))
  (sSeq (sFor (mEn (mVar 5)) (gTp 2 (gsCons (gNm 8) (gsCons (gTp 3 (gsCons (gNm 9) (gsCons (gNm 10) (gsCons (gNm 11) gsNil)))) gsNil))) (sSeq (sAsg (mCl tupleD (lCons (mLc (mRg1 (mVar 1)) (gNm 13) mYes (mCall p_l_times 2 (lCons (mOp idxD (mVar 3) (mVar 13)) (lCons (mOp idxD (mOp idxD (mVar 6) (mVar 13)) (mVar 8)) lNil))) [13]) lNil)) (gNm 12))
  (sExpr (mMt kApp (mVar 7) (mTup (lCons (mVar 9) (lCons (mVar 12) (lCons (mCall p_l_reweighted 4 (lCons (mVar 0) (lCons (mVar 1) (lCons (mVar 11) (lCons (mVar 12) lNil))))) lNil))))))))
  (sExpr (mMt kApp (mVar 4) (mCl tupleD (lCons (mVar 7) lNil))))))))
  (sRet (mCl tupleD (lCons (mVar 4) lNil)))))
/-- _law_two: _law_bag_here, _law_levels, _law_answers, _law_worlds -/
noncomputable def B_l_two (p_l_pick p_l_tree : Fnd) : Fnd := bodyD 4 (sSeq (sAsg (mOp addD (mC (.int 1)) (mCall p_l_pick 2 (lCons (mVar 0) (lCons (mC (.int 3)) lNil)))) (gNm 3))
  (sRet (mTup (lCons (mVar 3) (lCons (mCall p_l_tree 4 (lCons (mVar 0) (lCons (mVar 3) (lCons (mVar 1) (lCons (mVar 2) lNil))))) (lCons (mCall p_l_tree 4 (lCons (mVar 0) (lCons (mVar 3) (lCons (mVar 1) (lCons (mVar 2) lNil))))) lNil))))))
/-- _law_flag: _law_told, _law_due -/
noncomputable def B_l_flag : Fnd := bodyD 2 (sRet (mAnd (mIsi "bool" (mVar 0)) (mOp eqD (mVar 0) (mVar 1))))
/-- _law_word: _law_call, _law_word_here -/
noncomputable def TS_l_word (cl : Ev) : Sm := (sSeq (sAsg (mC (.str "told")) (gNm 1))
  (sSeq (sTry (sExpr cl) [⟨tbm_NotAlike, none, fun c fs => (sAsg (mC (.str "alike")) (gNm 1))⟩, ⟨tbm_HouseError, none, fun c fs => (sAsg (mC (.str "other")) (gNm 1))⟩])
  (sRet (mVar 1))))
noncomputable def TB_l_word (th : M D) : M D := bodyD 2 (TS_l_word fun _ => th) [.non]
/-- _law_edge: _law_bag_here, _law_here, _law_goal, _law_plan, _law_at -/
noncomputable def B_l_edge (p_l_pick p_l_some p_l_move_edge : Fnd) : Fnd := bodyD 5 (sSeq (sIf (mB (mOp eqD (mCl lenD (lCons (mVar 3) lNil)) (mC (.int 0)))) (sRet (mCall p_l_some 2 (lCons (mVar 0) (lCons (mLst (lCons (mTup lNil) (lCons (mTup (lCons (mTup (lCons (mC (.str "tell")) (lCons (mC (.int 0)) (lCons (mTup lNil) lNil)))) lNil)) (lCons (mLst lNil) (lCons (mC .non) lNil))))) lNil)))) sSkip)
  (sSeq (sIf (mB (mOp eqD (mCall p_l_pick 2 (lCons (mVar 0) (lCons (mC (.int 6)) lNil))) (mC (.int 0)))) (sRet (mCall p_l_some 2 (lCons (mVar 0) (lCons (mLst (lCons (mSl (mVar 3) oNo (oSome (mNeg (mC (.int 1))))) (lCons (mOp addD (mVar 3) (mSl (mVar 3) (oSome (mNeg (mC (.int 1)))) oNo)) (lCons (mCl listD (lCons (mVar 3) lNil)) lNil)))) lNil)))) sSkip)
  (sSeq (sAsg (mCall p_l_pick 2 (lCons (mVar 0) (lCons (mCl lenD (lCons (mVar 3) lNil)) lNil))) (gNm 4))
  (sRet (mOp addD (mOp addD (mSl (mVar 3) oNo (oSome (mVar 4))) (mTup (lCons (mCall p_l_move_edge 4 (lCons (mVar 0) (lCons (mVar 1) (lCons (mOp idxD (mVar 2) (mVar 4)) (lCons (mOp idxD (mVar 3) (mVar 4)) lNil))))) lNil))) (mSl (mVar 3) (oSome (mOp addD (mVar 4) (mC (.int 1)))) oNo))))))
/-- _law_move_edge: _law_bag_here, _law_here, _law_question_here, _law_move_here, _law_word_here, _law_number, _law_later, _law_behind, _law_some_here, _law_answers, _law_at, _law_inner -/
noncomputable def B_l_move_edge (p_l_pick p_l_some p_l_edge p_l_move_edge : Fnd) : Fnd := bodyD 12 (sSeq (sAsg (mVar 3) (gTp 3 (gsCons (gNm 4) (gsCons (gNm 5) (gsCons (gNm 6) gsNil)))))
  (sSeq (sIf (mB (mOp eqD (mVar 4) (mC (.str "tell")))) (sSeq (sAsg (mOp idxD (mOp idxD (mVar 2) (mVar 5)) (mC (.int 2))) (gNm 7))
  (sSeq (sIf (mAnd (mB (mOp (ordD fun i j => decide (j < i)) (mCl lenD (lCons (mVar 7) lNil)) (mC (.int 0)))) (mB (mOp eqD (mCall p_l_pick 2 (lCons (mVar 0) (lCons (mC (.int 2)) lNil))) (mC (.int 0))))) (sRet (mTup (lCons (mC (.str "tell")) (lCons (mVar 5) (lCons (mCall p_l_edge 4 (lCons (mVar 0) (lCons (mVar 1) (lCons (mVar 7) (lCons (mVar 6) lNil))))) lNil))))) sSkip)
  (sSeq (sAsg (mLst (lCons (mTup (lCons (mC (.str "tell")) (lCons (mCl lenD (lCons (mVar 2) lNil)) (lCons (mVar 6) lNil)))) (lCons (mTup (lCons (mC (.str "tell")) (lCons (mNeg (mC (.int 1))) (lCons (mVar 6) lNil)))) (lCons (mTup (lCons (mC (.str "tell")) (lCons (mVar 5) lNil))) (lCons (mTup (lCons (mC (.str "tell")) (lCons (mVar 5) (lCons (mVar 6) (lCons (mTup lNil) lNil))))) lNil))))) (gNm 8))
  (sSeq (sAsg (mOp addD (mVar 8) (mLst (lCons (mTup (lCons (mC (.str "tell")) (lCons (mOp subD (mCl lenD (lCons (mVar 2) lNil)) (mC (.int 1))) (lCons (mVar 6) lNil)))) (lCons (mLst (lCons (mC (.str "tell")) (lCons (mVar 5) (lCons (mVar 6) lNil)))) (lCons (mTup (lCons (mC (.str "tell")) (lCons (mC (.bl false)) (lCons (mVar 6) lNil)))) lNil))))) (gNm 8))
  (sRet (mCall p_l_some 2 (lCons (mVar 0) (lCons (mOp addD (mVar 8) (mLst (lCons (mTup (lCons (mC (.str "tell")) (lCons (mVar 5) (lCons (mOp addD (mVar 6) (mTup (lCons (mTup (lCons (mC (.str "tell")) (lCons (mC (.int 0)) (lCons (mTup lNil) lNil)))) lNil))) lNil)))) lNil))) lNil)))))))) sSkip)
  (sSeq (sAsg (mOp idxD (mVar 1) (mVar 5)) (gNm 9))
  (sSeq (sIf (mB (mOp eqD (mCall p_l_pick 2 (lCons (mVar 0) (lCons (mC (.int 2)) lNil))) (mC (.int 0)))) (sSeq (sAsg (mCall p_l_pick 2 (lCons (mVar 0) (lCons (mCl lenD (lCons (mVar 6) lNil)) lNil))) (gNm 10))
  (sSeq (sAsg (mCall p_l_move_edge 4 (lCons (mVar 0) (lCons (mOp idxD (mOp idxD (mVar 9) (mVar 10)) (mC (.int 2))) (lCons (mVar 2) (lCons (mOp idxD (mVar 6) (mVar 10)) lNil))))) (gNm 11))
  (sRet (mTup (lCons (mC (.str "ask")) (lCons (mVar 5) (lCons (mOp addD (mOp addD (mSl (mVar 6) oNo (oSome (mVar 10))) (mTup (lCons (mVar 11) lNil))) (mSl (mVar 6) (oSome (mOp addD (mVar 10) (mC (.int 1)))) oNo)) lNil))))))) sSkip)
  (sSeq (sAsg (mLst (lCons (mTup (lCons (mC (.str "ask")) (lCons (mCl lenD (lCons (mVar 1) lNil)) (lCons (mVar 6) lNil)))) (lCons (mTup (lCons (mC (.str "ask")) (lCons (mNeg (mC (.int 1))) (lCons (mVar 6) lNil)))) (lCons (mTup (lCons (mC (.str "ask")) (lCons (mVar 5) (lCons (mSl (mVar 6) oNo (oSome (mNeg (mC (.int 1))))) lNil)))) (lCons (mTup (lCons (mC (.str "ask")) (lCons (mVar 5) (lCons (mOp addD (mVar 6) (mSl (mVar 6) (oSome (mNeg (mC (.int 1)))) oNo)) lNil)))) lNil))))) (gNm 8))
  (sRet (mCall p_l_some 2 (lCons (mVar 0) (lCons (mOp addD (mVar 8) (mLst (lCons (mTup (lCons (mC (.str "ask")) (lCons (mVar 5) (lCons (mCl listD (lCons (mVar 6) lNil)) lNil)))) (lCons (mTup (lCons (mC (.str "ask")) (lCons (mC (.bl false)) (lCons (mVar 6) lNil)))) (lCons (mTup (lCons (mC (.str "Ask")) (lCons (mVar 5) (lCons (mVar 6) lNil)))) (lCons (mTup (lCons (mC (.str "ask")) (lCons (mVar 5) lNil))) lNil)))))) lNil)))))))))
/-- law: _law_script, _law_bag_here, _law_worlds, _law_one, _law_other, _law_house, _law_second, _law_turn, _law_plan, _law_more, _law_thing -/
noncomputable def B_law (p_House p_is_plan p_passing p_l_bag p_l_pick p_l_odd p_l_spoilt p_l_wait p_l_is_wait p_l_reweighted p_l_two p_l_flag p_l_edge : Fnd) : Fnd := bodyD 11 (sSeq (sAsg (mCall p_l_bag 1 (lCons (mVar 0) lNil)) (gNm 1))
  (sSeq (sAsg (mCall p_l_two 3 (lCons (mVar 1) (lCons (mOp addD (mC (.int 1)) (mCall p_l_pick 2 (lCons (mVar 1) (lCons (mC (.int 3)) lNil)))) (lCons (mC (.int 8)) lNil)))) (gTp 3 (gsCons (gNm 2) (gsCons (gNm 3) (gsCons (gNm 4) gsNil)))))
  (sSeq (sAsg (mTup (lCons (mMake 0 p_House 3 (lCons (mVar 2) (lCons (mVar 3) lNil))) (lCons (mMake 0 p_House 3 (lCons (mVar 2) (lCons (mVar 4) lNil))) lNil))) (gTp 2 (gsCons (gNm 5) (gsCons (gNm 6) gsNil))))
  (sSeq (sFor (mRg1 (mC (.int 8))) (gNm 7) (sSeq (sAsg (mCall p_l_wait 4 (lCons (mVar 1) (lCons (mVar 3) (lCons (mVar 4) (lCons (mNew (lCons (mC (.int 30)) lNil)) lNil))))) (gNm 8))
  (sSeq (sIf (mB (mOp (isD true) (mCall p_is_plan 3 (lCons (mVar 5) (lCons (mVar 6) (lCons (mVar 8) lNil)))) (mC (.bl true)))) (sRet (mC (.bl false))) sSkip)
  (sSeq (sFor (mRg1 (mC (.int 5))) (gNm 9) (sSeq (sAsg (mCall p_l_edge 4 (lCons (mVar 1) (lCons (mVar 3) (lCons (mVar 4) (lCons (mVar 8) lNil))))) (gNm 10))
  (sIf (mNot (mB (mCall p_l_flag 2 (lCons (mCall p_is_plan 3 (lCons (mVar 5) (lCons (mVar 6) (lCons (mVar 10) lNil)))) (lCons (mCall p_l_is_wait 3 (lCons (mVar 3) (lCons (mVar 4) (lCons (mVar 10) lNil)))) lNil))))) (sRet (mC (.bl false))) sSkip)))
  (sSeq (sAsg (mIte (mB (mOp ltD (mVar 7) (mC (.int 7)))) (mCall p_l_spoilt 2 (lCons (mVar 1) (lCons (mVar 8) lNil))) (mCall p_l_odd 1 (lCons (mVar 1) lNil))) (gNm 10))
  (sIf (mNot (mB (mCall p_l_flag 2 (lCons (mCall p_is_plan 3 (lCons (mVar 5) (lCons (mVar 6) (lCons (mVar 10) lNil)))) (lCons (mCall p_l_is_wait 3 (lCons (mVar 3) (lCons (mVar 4) (lCons (mVar 10) lNil)))) lNil))))) (sRet (mC (.bl false))) sSkip))))))
  (sSeq (sIf (mB (mOp (isD true) (mCall p_is_plan 3 (lCons (mVar 5) (lCons (mVar 5) (lCons (mOp idxD (mOp idxD (mCall p_passing 1 (lCons (mVar 5) lNil)) (mC (.int 0))) (mC (.int 1))) lNil)))) (mC (.bl true)))) (sRet (mC (.bl false))) sSkip)
  (sSeq (sIf (mNot (mB (mCall p_l_flag 2 (lCons (mCall p_is_plan 3 (lCons (mVar 6) (lCons (mVar 6) (lCons (mVar 8) lNil)))) (lCons (mCall p_l_is_wait 3 (lCons (mVar 4) (lCons (mVar 4) (lCons (mVar 8) lNil)))) lNil))))) (sRet (mC (.bl false))) sSkip)
  (sSeq (sAsg (mMake 0 p_House 3 (lCons (mOp addD (mVar 2) (mC (.int 1))) (lCons (mCall p_l_reweighted 4 (lCons (mVar 1) (lCons (mOp addD (mVar 2) (mC (.int 1))) (lCons (mVar 3) (lCons (mOp mulD (mTup (lCons (mTup (lCons (mC (.int 1)) (lCons (mC (.int 1)) lNil))) lNil)) (mOp addD (mVar 2) (mC (.int 1)))) lNil))))) lNil))) (gNm 9))
  (sSeq (sIf (mB (mOp neD (mLam TB_l_word (mCall p_is_plan 3 (lCons (mVar 5) (lCons (mVar 9) (lCons (mVar 8) lNil))))) (mC (.str "alike")))) (sRet (mC (.bl false))) sSkip)
  (sRet (mOp eqD (mLam TB_l_word (mCall p_is_plan 3 (lCons (mVar 9) (lCons (mVar 5) (lCons (mC .non) lNil))))) (mC (.str "alike"))))))))))))
noncomputable def b0 (φ : Nat → Fnd) : Fnd := B_is_integer
noncomputable def b1 (φ : Nat → Fnd) : Fnd := B_is_within (φ 0)
noncomputable def b2 (φ : Nat → Fnd) : Fnd := B_is_sized
noncomputable def b3 (φ : Nat → Fnd) : Fnd := B_is_pair
noncomputable def b4 (φ : Nat → Fnd) : Fnd := B_is_triple
noncomputable def b5 (φ : Nat → Fnd) : Fnd := B_are_rising
noncomputable def b6 (φ : Nat → Fnd) : Fnd := B_divisor
noncomputable def b7 (φ : Nat → Fnd) : Fnd := B_lowest (φ 6)
noncomputable def b8 (φ : Nat → Fnd) : Fnd := B_plus (φ 7)
noncomputable def b9 (φ : Nat → Fnd) : Fnd := B_total (φ 8)
noncomputable def b10 (φ : Nat → Fnd) : Fnd := B_is_fraction (φ 0) (φ 3) (φ 6)
noncomputable def b11 (φ : Nat → Fnd) : Fnd := B_is_chance (φ 10)
noncomputable def b12 (φ : Nat → Fnd) : Fnd := B_is_word (φ 1) (φ 2)
noncomputable def b13 (φ : Nat → Fnd) : Fnd := B_is_answer (φ 2) (φ 4) (φ 11) (φ 12)
noncomputable def b14 (φ : Nat → Fnd) : Fnd := B_added_weights (φ 9)
noncomputable def b15 (φ : Nat → Fnd) : Fnd := B_wrong_in_node (φ 2) (φ 16)
noncomputable def b16 (φ : Nat → Fnd) : Fnd := B_wrong_in_question (φ 2) (φ 5) (φ 13) (φ 14) (φ 15)
noncomputable def b17 (φ : Nat → Fnd) : Fnd := B_count_answers (φ 17)
noncomputable def b18 (φ : Nat → Fnd) : Fnd := B_House (φ 1) (φ 15) (φ 17)
noncomputable def b19 (φ : Nat → Fnd) : Fnd := B_check_alike
noncomputable def b20 (φ : Nat → Fnd) : Fnd := B_is_wait (φ 2) (φ 21)
noncomputable def b21 (φ : Nat → Fnd) : Fnd := B_is_move (φ 1) (φ 2) (φ 4) (φ 20) (φ 21)
noncomputable def b22 (φ : Nat → Fnd) : Fnd := B_is_plan_of (φ 20)
noncomputable def b23 (φ : Nat → Fnd) : Fnd := B_is_plan (φ 19) (φ 22)
noncomputable def b24 (φ : Nat → Fnd) : Fnd := B_wait_passing (φ 24)
noncomputable def b25 (φ : Nat → Fnd) : Fnd := B_passing (φ 24)
noncomputable def b26 (φ : Nat → Fnd) : Fnd := B_l_bag
noncomputable def b27 (φ : Nat → Fnd) : Fnd := B_l_pick
noncomputable def b28 (φ : Nat → Fnd) : Fnd := B_l_some (φ 27)
noncomputable def b29 (φ : Nat → Fnd) : Fnd := B_l_common
noncomputable def b30 (φ : Nat → Fnd) : Fnd := B_l_low (φ 29)
noncomputable def b31 (φ : Nat → Fnd) : Fnd := B_l_times (φ 30)
noncomputable def b32 (φ : Nat → Fnd) : Fnd := B_l_shares (φ 27) (φ 30)
noncomputable def b33 (φ : Nat → Fnd) : Fnd := B_l_question (φ 27) (φ 28) (φ 31) (φ 32) (φ 34)
noncomputable def b34 (φ : Nat → Fnd) : Fnd := B_l_node (φ 27) (φ 33)
noncomputable def b35 (φ : Nat → Fnd) : Fnd := B_l_tree (φ 27) (φ 33)
noncomputable def b36 (φ : Nat → Fnd) : Fnd := B_l_deep
noncomputable def b37 (φ : Nat → Fnd) : Fnd := B_l_odd (φ 28) (φ 36)
noncomputable def b38 (φ : Nat → Fnd) : Fnd := B_l_parts (φ 38)
noncomputable def b39 (φ : Nat → Fnd) : Fnd := B_l_put (φ 39)
noncomputable def b40 (φ : Nat → Fnd) : Fnd := B_l_spoilt (φ 27) (φ 28) (φ 37) (φ 38) (φ 39)
noncomputable def b41 (φ : Nat → Fnd) : Fnd := B_l_wait (φ 42)
noncomputable def b42 (φ : Nat → Fnd) : Fnd := B_l_move (φ 27) (φ 41) (φ 42)
noncomputable def b43 (φ : Nat → Fnd) : Fnd := B_l_is_int
noncomputable def b44 (φ : Nat → Fnd) : Fnd := B_l_is_wait (φ 45)
noncomputable def b45 (φ : Nat → Fnd) : Fnd := B_l_is_move (φ 43) (φ 44) (φ 45)
noncomputable def b46 (φ : Nat → Fnd) : Fnd := B_l_reweighted (φ 31) (φ 32) (φ 46)
noncomputable def b47 (φ : Nat → Fnd) : Fnd := B_l_two (φ 27) (φ 35)
noncomputable def b48 (φ : Nat → Fnd) : Fnd := B_l_flag
noncomputable def b49 (φ : Nat → Fnd) : Fnd := fun _ => M.stuck
noncomputable def b50 (φ : Nat → Fnd) : Fnd := B_l_edge (φ 27) (φ 28) (φ 51)
noncomputable def b51 (φ : Nat → Fnd) : Fnd := B_l_move_edge (φ 27) (φ 28) (φ 50) (φ 51)
noncomputable def b52 (φ : Nat → Fnd) : Fnd := B_law (φ 18) (φ 23) (φ 25) (φ 26) (φ 27) (φ 37) (φ 40) (φ 41) (φ 44) (φ 46) (φ 47) (φ 48) (φ 50)
noncomputable def bodies (φ : Nat → Fnd) : List Fnd := [b0 φ, b1 φ, b2 φ, b3 φ, b4 φ, b5 φ, b6 φ, b7 φ, b8 φ, b9 φ, b10 φ, b11 φ, b12 φ, b13 φ, b14 φ, b15 φ, b16 φ, b17 φ, b18 φ, b19 φ, b20 φ, b21 φ, b22 φ, b23 φ, b24 φ, b25 φ, b26 φ, b27 φ, b28 φ, b29 φ, b30 φ, b31 φ, b32 φ, b33 φ, b34 φ, b35 φ, b36 φ, b37 φ, b38 φ, b39 φ, b40 φ, b41 φ, b42 φ, b43 φ, b44 φ, b45 φ, b46 φ, b47 φ, b48 φ, b49 φ, b50 φ, b51 φ, b52 φ]
noncomputable def run : Nat → Nat → Fnd
  | 0, _ => fun _ => M.stuck
  | k + 1, i => (bodies (run k)).getD i fun _ => M.stuck
theorem run0 (k : Nat) : run (k + 1) 0 = b0 (run k) := rfl
theorem run1 (k : Nat) : run (k + 1) 1 = b1 (run k) := rfl
theorem run2 (k : Nat) : run (k + 1) 2 = b2 (run k) := rfl
theorem run3 (k : Nat) : run (k + 1) 3 = b3 (run k) := rfl
theorem run4 (k : Nat) : run (k + 1) 4 = b4 (run k) := rfl
theorem run5 (k : Nat) : run (k + 1) 5 = b5 (run k) := rfl
theorem run6 (k : Nat) : run (k + 1) 6 = b6 (run k) := rfl
theorem run7 (k : Nat) : run (k + 1) 7 = b7 (run k) := rfl
theorem run8 (k : Nat) : run (k + 1) 8 = b8 (run k) := rfl
theorem run9 (k : Nat) : run (k + 1) 9 = b9 (run k) := rfl
theorem run10 (k : Nat) : run (k + 1) 10 = b10 (run k) := rfl
theorem run11 (k : Nat) : run (k + 1) 11 = b11 (run k) := rfl
theorem run12 (k : Nat) : run (k + 1) 12 = b12 (run k) := rfl
theorem run13 (k : Nat) : run (k + 1) 13 = b13 (run k) := rfl
theorem run14 (k : Nat) : run (k + 1) 14 = b14 (run k) := rfl
theorem run15 (k : Nat) : run (k + 1) 15 = b15 (run k) := rfl
theorem run16 (k : Nat) : run (k + 1) 16 = b16 (run k) := rfl
theorem run17 (k : Nat) : run (k + 1) 17 = b17 (run k) := rfl
theorem run18 (k : Nat) : run (k + 1) 18 = b18 (run k) := rfl
theorem run19 (k : Nat) : run (k + 1) 19 = b19 (run k) := rfl
theorem run20 (k : Nat) : run (k + 1) 20 = b20 (run k) := rfl
theorem run21 (k : Nat) : run (k + 1) 21 = b21 (run k) := rfl
theorem run22 (k : Nat) : run (k + 1) 22 = b22 (run k) := rfl
theorem run23 (k : Nat) : run (k + 1) 23 = b23 (run k) := rfl
theorem run24 (k : Nat) : run (k + 1) 24 = b24 (run k) := rfl
theorem run25 (k : Nat) : run (k + 1) 25 = b25 (run k) := rfl
theorem run26 (k : Nat) : run (k + 1) 26 = b26 (run k) := rfl
theorem run27 (k : Nat) : run (k + 1) 27 = b27 (run k) := rfl
theorem run28 (k : Nat) : run (k + 1) 28 = b28 (run k) := rfl
theorem run29 (k : Nat) : run (k + 1) 29 = b29 (run k) := rfl
theorem run30 (k : Nat) : run (k + 1) 30 = b30 (run k) := rfl
theorem run31 (k : Nat) : run (k + 1) 31 = b31 (run k) := rfl
theorem run32 (k : Nat) : run (k + 1) 32 = b32 (run k) := rfl
theorem run33 (k : Nat) : run (k + 1) 33 = b33 (run k) := rfl
theorem run34 (k : Nat) : run (k + 1) 34 = b34 (run k) := rfl
theorem run35 (k : Nat) : run (k + 1) 35 = b35 (run k) := rfl
theorem run36 (k : Nat) : run (k + 1) 36 = b36 (run k) := rfl
theorem run37 (k : Nat) : run (k + 1) 37 = b37 (run k) := rfl
theorem run38 (k : Nat) : run (k + 1) 38 = b38 (run k) := rfl
theorem run39 (k : Nat) : run (k + 1) 39 = b39 (run k) := rfl
theorem run40 (k : Nat) : run (k + 1) 40 = b40 (run k) := rfl
theorem run41 (k : Nat) : run (k + 1) 41 = b41 (run k) := rfl
theorem run42 (k : Nat) : run (k + 1) 42 = b42 (run k) := rfl
theorem run43 (k : Nat) : run (k + 1) 43 = b43 (run k) := rfl
theorem run44 (k : Nat) : run (k + 1) 44 = b44 (run k) := rfl
theorem run45 (k : Nat) : run (k + 1) 45 = b45 (run k) := rfl
theorem run46 (k : Nat) : run (k + 1) 46 = b46 (run k) := rfl
theorem run47 (k : Nat) : run (k + 1) 47 = b47 (run k) := rfl
theorem run48 (k : Nat) : run (k + 1) 48 = b48 (run k) := rfl
theorem run49 (k : Nat) : run (k + 1) 49 = b49 (run k) := rfl
theorem run50 (k : Nat) : run (k + 1) 50 = b50 (run k) := rfl
theorem run51 (k : Nat) : run (k + 1) 51 = b51 (run k) := rfl
theorem run52 (k : Nat) : run (k + 1) 52 = b52 (run k) := rfl
end Lw
set_option Elab.async false
set_option linter.all false
set_option maxRecDepth 100000
set_option maxHeartbeats 4000000
set_option autoImplicit false
namespace Lw
open PySem L2 Tl
/-! ### plain things, not too great -/
mutual
def Fine : D → Prop
  | .int i => i.natAbs < 2 ^ 100
  | .tup ds => ds.length ≤ 20 ∧ Fines ds
  | .lst ds => ds.length ≤ 20 ∧ Fines ds
  | .str s => s.length ≤ 100 ∧ PyData.canLay0 (.str s) = true
  | .non => True
  | .bl _ => True
  | .dct => True
  | .scr _ => False
  | .ref _ => False
  | .fn _ => False
  | .thk _ _ _ _ _ => False
def Fines : List D → Prop
  | [] => True
  | d :: ds => Fine d ∧ Fines ds
end
theorem fines_iff : ∀ {ds : List D}, Fines ds ↔ ∀ d ∈ ds, Fine d
  | [] => by simp [Fines]
  | d :: ds => by simp [Fines, fines_iff (ds := ds)]
theorem kit_tt : kitB "tuple" "tuple" = some true := by decide +kernel
theorem log2_lt' {n k : Nat} (h : n < 2 ^ k) (hk : 0 < k) : n.log2 < k := by
  by_cases h0 : n = 0
  · subst h0; simpa using hk
  · exact (Nat.log2_lt h0).mpr h
/-! ### what == tells -/
theorem eq_int {i j : Int} : eqD (.int i) (.int j) = M.ret (.bl (i == j)) := by
  show (if SeqAt.shaped (.int i) = true ∧ SeqAt.shaped (.int j) = true then M.ret (D.bl (PyData.eqv (.int i) (.int j))) else M.stuck) = _
  rw [if_pos ⟨rfl, rfl⟩]
  unfold PyData.eqv; rfl
theorem ne_int {i j : Int} : neD (.int i) (.int j) = M.ret (.bl (!(i == j))) := by
  show (if SeqAt.shaped (.int i) = true ∧ SeqAt.shaped (.int j) = true then M.ret (D.bl (!PyData.eqv (.int i) (.int j))) else M.stuck) = _
  rw [if_pos ⟨rfl, rfl⟩]
  unfold PyData.eqv; rfl
theorem eq_bl {i j : Bool} : eqD (.bl i) (.bl j) = M.ret (.bl (i == j)) := by
  show (if SeqAt.shaped (.bool i) = true ∧ SeqAt.shaped (.bool j) = true then M.ret (D.bl (PyData.eqv (.bool i) (.bool j))) else M.stuck) = _
  rw [if_pos ⟨rfl, rfl⟩]
  unfold PyData.eqv; rfl
/-- a fraction -/
def fr (p : Int × Int) : D := .tup [.int p.1, .int p.2]
def fp (p : Int × Int) : PyData := .tuple [.int p.1, .int p.2]
theorem toP_fr (p : Int × Int) : toP (fr p) = some (fp p) := by unfold fr fp; simp [toP, toPs]
theorem lay_fp (p : Int × Int) : PyData.canLay0 (fp p) = true := by unfold fp; simp [PyData.canLay0, PyData.canLayAll0]
theorem depth_fp (p : Int × Int) : PyData.depth (fp p) = 1 := by unfold fp; simp [PyData.depth, PyData.depthAll]
theorem eqv_fp (p q : Int × Int) : PyData.eqv (fp p) (fp q) = (p == q) := by
  obtain ⟨a, b⟩ := p; obtain ⟨c, d⟩ := q
  unfold fp; simp [PyData.eqv, PyData.eqvAll]; rfl
theorem eq_fr {p q : Int × Int} : eqD (fr p) (fr q) = M.ret (.bl (p == q)) := by
  unfold eqD cmpP
  rw [toP_fr, toP_fr]
  dsimp only
  rw [if_pos ⟨by simp [SeqAt.shaped, lay_fp, depth_fp], by simp [SeqAt.shaped, lay_fp, depth_fp]⟩, eqv_fp]
theorem toPs_fr : ∀ ps : List (Int × Int), toPs (ps.map fr) = some (ps.map fp)
  | [] => by simp [toPs]
  | p :: ps => by simp [toPs, toP_fr, toPs_fr ps]
theorem layAll_fp : ∀ ps : List (Int × Int), PyData.canLayAll0 (ps.map fp) = true
  | [] => by simp [PyData.canLayAll0]
  | p :: ps => by simp [PyData.canLayAll0, lay_fp, layAll_fp ps]
theorem depthAll_fp : ∀ ps : List (Int × Int), PyData.depthAll (ps.map fp) ≤ 1
  | [] => by simp [PyData.depthAll]
  | p :: ps => by have := depthAll_fp ps; simp [PyData.depthAll, depth_fp]; omega
theorem eqvAll_fp : ∀ ps qs : List (Int × Int), PyData.eqvAll (ps.map fp) (qs.map fp) = (ps == qs)
  | [], [] => by simp [PyData.eqvAll]
  | [], _ :: _ => by simp [PyData.eqvAll]
  | _ :: _, [] => by simp [PyData.eqvAll]
  | p :: ps, q :: qs => by simp [PyData.eqvAll, eqv_fp, eqvAll_fp ps qs]
theorem ne_frs {ps qs : List (Int × Int)} : neD (.tup (ps.map fr)) (.tup (qs.map fr)) = M.ret (.bl (!(ps == qs))) := by
  have h : ∀ ps : List (Int × Int), SeqAt.shaped (.tuple (ps.map fp)) = true := fun ps => by
    have := depthAll_fp ps
    simp [SeqAt.shaped, PyData.canLay0, layAll_fp, PyData.depth]; omega
  unfold neD cmpP
  simp only [toP, toPs_fr, Option.map_some]
  rw [if_pos ⟨h _, h _⟩]
  simp only [PyData.eqv, eqvAll_fp]
/-! ### the checks -/
def isI : D → Bool
  | .int _ => true
  | _ => false
theorem is_integer_ok {d : D} (h : Fine d) (S : Store) : B_is_integer [d] S = some (.ok (.bl (isI d)), S) := by
  cases d <;> first | rfl | (simp [Fine] at h)
def IsInteger (f : Fnd) : Prop := ∀ d S, Fine d → f [d] S = some (.ok (.bl (isI d)), S)
def within (lo hi : Int) : D → Bool
  | .int i => decide (lo ≤ i) && decide (i ≤ hi)
  | _ => false
def IsWithin (f : Fnd) : Prop := ∀ d lo hi S, Fine d → f [d, .int lo, .int hi] S = some (.ok (.bl (within lo hi d)), S)
theorem is_within_ok {p : Fnd} (hp : IsInteger p) : IsWithin (B_is_within p) := by
  intro d lo hi S h
  refine Does.eq ?_
  unfold B_is_within
  simp only [does_body, do_seq, do_ret, do_retN, do_if, do_asg, do_par, do_expr, do_skip, do_tg, does_ret, does_bind, does_noX, does_call, startD, mOp, mB, mAnd, mOr, mNot, mIte, mChain, mC, mVar, lCons, lNil, mTup, mLst, mCl, mIsi, mSl, oSome, oNo, mNeg, mYes, mIt, gNm, gTp, gsCons, gsNil, tyNm, List.map_cons, List.map_nil, List.length_cons, List.length_nil, List.replicate, List.cons_append, List.nil_append, List.append_nil, List.getElem?_cons_zero, List.getElem?_cons_succ, List.set_cons_zero, List.set_cons_succ, Option.bind_some, if_true, Nat.reduceSub, Nat.reduceAdd, Nat.reduceEqDiff, if_pos, lenD, ordD, wipeD, Nat.sub_self, Nat.add_one_sub_one, reduceIte, Option.bind]
  refine ⟨_, _, hp d S h, ?_⟩
  cases d with
  | int i =>
    simp only [isI, within, does_body, do_seq, do_ret, do_retN, do_if, do_asg, do_par, do_expr, do_skip, do_tg, does_ret, does_bind, does_noX, does_call, startD, mOp, mB, mAnd, mOr, mNot, mIte, mChain, mC, mVar, lCons, lNil, mTup, mLst, mCl, mIsi, mSl, oSome, oNo, mNeg, mYes, mIt, gNm, gTp, gsCons, gsNil, tyNm, List.map_cons, List.map_nil, List.length_cons, List.length_nil, List.replicate, List.cons_append, List.nil_append, List.append_nil, List.getElem?_cons_zero, List.getElem?_cons_succ, List.set_cons_zero, List.set_cons_succ, Option.bind_some, if_true, Nat.reduceSub, Nat.reduceAdd, Nat.reduceEqDiff, if_pos, lenD, ordD, wipeD, Nat.sub_self, Nat.add_one_sub_one, reduceIte, Option.bind]
    by_cases h1 : lo ≤ i <;> simp [h1, does_body, do_seq, do_ret, do_retN, do_if, do_asg, do_par, do_expr, do_skip, do_tg, does_ret, does_bind, does_noX, does_call, startD, mOp, mB, mAnd, mOr, mNot, mIte, mChain, mC, mVar, lCons, lNil, mTup, mLst, mCl, mIsi, mSl, oSome, oNo, mNeg, mYes, mIt, gNm, gTp, gsCons, gsNil, tyNm, List.map_cons, List.map_nil, List.length_cons, List.length_nil, List.replicate, List.cons_append, List.nil_append, List.append_nil, List.getElem?_cons_zero, List.getElem?_cons_succ, List.set_cons_zero, List.set_cons_succ, Option.bind_some, if_true, Nat.reduceSub, Nat.reduceAdd, Nat.reduceEqDiff, if_pos, lenD, ordD, wipeD, Nat.sub_self, Nat.add_one_sub_one, reduceIte, Option.bind]
  | _ => simp [isI, within, does_body, do_seq, do_ret, do_retN, do_if, do_asg, do_par, do_expr, do_skip, do_tg, does_ret, does_bind, does_noX, does_call, startD, mOp, mB, mAnd, mOr, mNot, mIte, mChain, mC, mVar, lCons, lNil, mTup, mLst, mCl, mIsi, mSl, oSome, oNo, mNeg, mYes, mIt, gNm, gTp, gsCons, gsNil, tyNm, List.map_cons, List.map_nil, List.length_cons, List.length_nil, List.replicate, List.cons_append, List.nil_append, List.append_nil, List.getElem?_cons_zero, List.getElem?_cons_succ, List.set_cons_zero, List.set_cons_succ, Option.bind_some, if_true, Nat.reduceSub, Nat.reduceAdd, Nat.reduceEqDiff, if_pos, lenD, ordD, wipeD, Nat.sub_self, Nat.add_one_sub_one, reduceIte, Option.bind]
def sizedD (lo hi : Int) : D → Bool
  | .tup ds => decide (lo ≤ ds.length) && decide ((ds.length : Int) ≤ hi)
  | _ => false
def IsSized (f : Fnd) : Prop := ∀ d lo hi S, Fine d → f [d, .int lo, .int hi] S = some (.ok (.bl (sizedD lo hi d)), S)
theorem is_sized_ok : IsSized B_is_sized := by
  intro d lo hi S h
  refine Does.eq ?_
  unfold B_is_sized
  cases d with
  | tup ds =>
    simp only [does_body, do_seq, do_ret, do_retN, do_if, do_asg, do_par, do_expr, do_skip, do_tg, does_ret, does_bind, does_noX, does_call, startD, mOp, mB, mAnd, mOr, mNot, mIte, mChain, mC, mVar, lCons, lNil, mTup, mLst, mCl, mIsi, mSl, oSome, oNo, mNeg, mYes, mIt, gNm, gTp, gsCons, gsNil, tyNm, List.map_cons, List.map_nil, List.length_cons, List.length_nil, List.replicate, List.cons_append, List.nil_append, List.append_nil, List.getElem?_cons_zero, List.getElem?_cons_succ, List.set_cons_zero, List.set_cons_succ, Option.bind_some, if_true, Nat.reduceSub, Nat.reduceAdd, Nat.reduceEqDiff, if_pos, lenD, ordD, wipeD, Nat.sub_self, Nat.add_one_sub_one, reduceIte, Option.bind, kit_tt, sizedD]
    by_cases h1 : lo ≤ (ds.length : Int) <;> simp [h1, does_body, do_seq, do_ret, do_retN, do_if, do_asg, do_par, do_expr, do_skip, do_tg, does_ret, does_bind, does_noX, does_call, startD, mOp, mB, mAnd, mOr, mNot, mIte, mChain, mC, mVar, lCons, lNil, mTup, mLst, mCl, mIsi, mSl, oSome, oNo, mNeg, mYes, mIt, gNm, gTp, gsCons, gsNil, tyNm, List.map_cons, List.map_nil, List.length_cons, List.length_nil, List.replicate, List.cons_append, List.nil_append, List.append_nil, List.getElem?_cons_zero, List.getElem?_cons_succ, List.set_cons_zero, List.set_cons_succ, Option.bind_some, if_true, Nat.reduceSub, Nat.reduceAdd, Nat.reduceEqDiff, if_pos, lenD, ordD, wipeD, Nat.sub_self, Nat.add_one_sub_one, reduceIte, Option.bind]
  | _ => first | (simp [Fine] at h; done) | exact ⟨_, _, rfl, rfl, rfl⟩
def lenIs (n : Nat) : D → Bool
  | .tup ds => ds.length == n
  | _ => false
def IsPair (f : Fnd) : Prop := ∀ d S, Fine d → f [d] S = some (.ok (.bl (lenIs 2 d)), S)
theorem is_pair_ok : IsPair B_is_pair := by
  intro d S h
  refine Does.eq ?_
  unfold B_is_pair
  cases d with
  | tup ds =>
    simp only [does_body, do_seq, do_ret, do_retN, do_if, do_asg, do_par, do_expr, do_skip, do_tg, does_ret, does_bind, does_noX, does_call, startD, mOp, mB, mAnd, mOr, mNot, mIte, mChain, mC, mVar, lCons, lNil, mTup, mLst, mCl, mIsi, mSl, oSome, oNo, mNeg, mYes, mIt, gNm, gTp, gsCons, gsNil, tyNm, List.map_cons, List.map_nil, List.length_cons, List.length_nil, List.replicate, List.cons_append, List.nil_append, List.append_nil, List.getElem?_cons_zero, List.getElem?_cons_succ, List.set_cons_zero, List.set_cons_succ, Option.bind_some, if_true, Nat.reduceSub, Nat.reduceAdd, Nat.reduceEqDiff, if_pos, lenD, ordD, wipeD, Nat.sub_self, Nat.add_one_sub_one, reduceIte, Option.bind, kit_tt, lenIs, eq_int]
    refine ⟨?_, trivial⟩
    congr 1
    exact Bool.eq_iff_iff.mpr (by simp; omega)
  | _ => first | (simp [Fine] at h; done) | exact ⟨_, _, rfl, rfl, rfl⟩
def IsTriple (f : Fnd) : Prop := ∀ d S, Fine d → f [d] S = some (.ok (.bl (lenIs 3 d)), S)
theorem is_triple_ok : IsTriple B_is_triple := by
  intro d S h
  refine Does.eq ?_
  unfold B_is_triple
  cases d with
  | tup ds =>
    simp only [does_body, do_seq, do_ret, do_retN, do_if, do_asg, do_par, do_expr, do_skip, do_tg, does_ret, does_bind, does_noX, does_call, startD, mOp, mB, mAnd, mOr, mNot, mIte, mChain, mC, mVar, lCons, lNil, mTup, mLst, mCl, mIsi, mSl, oSome, oNo, mNeg, mYes, mIt, gNm, gTp, gsCons, gsNil, tyNm, List.map_cons, List.map_nil, List.length_cons, List.length_nil, List.replicate, List.cons_append, List.nil_append, List.append_nil, List.getElem?_cons_zero, List.getElem?_cons_succ, List.set_cons_zero, List.set_cons_succ, Option.bind_some, if_true, Nat.reduceSub, Nat.reduceAdd, Nat.reduceEqDiff, if_pos, lenD, ordD, wipeD, Nat.sub_self, Nat.add_one_sub_one, reduceIte, Option.bind, kit_tt, lenIs, eq_int]
    refine ⟨?_, trivial⟩
    congr 1
    exact Bool.eq_iff_iff.mpr (by simp; omega)
  | _ => first | (simp [Fine] at h; done) | exact ⟨_, _, rfl, rfl, rfl⟩
/-! ### fractions -/
def IsDivisor (f : Fnd) : Prop := ∀ (a b : Int) S, f [.int a, .int b] S = some (.ok (.int (Int.gcd a b)), S)
theorem is_divisor_ok : IsDivisor B_divisor := by
  intro a b S
  refine Does.eq ?_
  unfold B_divisor
  simp only [does_body, do_seq, do_ret, do_retN, do_if, do_asg, do_par, do_expr, do_skip, do_tg, does_ret, does_bind, does_noX, does_call, startD, mOp, mB, mAnd, mOr, mNot, mIte, mChain, mC, mVar, lCons, lNil, mTup, mLst, mCl, mIsi, mSl, oSome, oNo, mNeg, mYes, mIt, gNm, gTp, gsCons, gsNil, tyNm, List.map_cons, List.map_nil, List.length_cons, List.length_nil, List.replicate, List.cons_append, List.nil_append, List.append_nil, List.getElem?_cons_zero, List.getElem?_cons_succ, List.set_cons_zero, List.set_cons_succ, Option.bind_some, if_true, Nat.reduceSub, Nat.reduceAdd, Nat.reduceEqDiff, if_pos, lenD, ordD, wipeD, Nat.sub_self, Nat.add_one_sub_one, reduceIte, Option.bind, absD]
  refine do_while (n := b.natAbs) (fun n ρ S' => S' = S ∧ ∃ x y : Nat, n = y ∧ ρ = [some (.int x), some (.int y)] ∧ Nat.gcd x y = Int.gcd a b) ⟨rfl, a.natAbs, b.natAbs, rfl, ?_, rfl⟩ ?_
  · have ha : (if a < 0 then -a else a) = (a.natAbs : Int) := by split <;> omega
    have hb : (if b < 0 then -b else b) = (b.natAbs : Int) := by split <;> omega
    rw [ha, hb]
  · rintro n ρ S' ⟨rfl, x, y, rfl, rfl, hg⟩
    simp only [does_body, do_seq, do_ret, do_retN, do_if, do_asg, do_par, do_expr, do_skip, do_tg, does_ret, does_bind, does_noX, does_call, startD, mOp, mB, mAnd, mOr, mNot, mIte, mChain, mC, mVar, lCons, lNil, mTup, mLst, mCl, mIsi, mSl, oSome, oNo, mNeg, mYes, mIt, gNm, gTp, gsCons, gsNil, tyNm, List.map_cons, List.map_nil, List.length_cons, List.length_nil, List.replicate, List.cons_append, List.nil_append, List.append_nil, List.getElem?_cons_zero, List.getElem?_cons_succ, List.set_cons_zero, List.set_cons_succ, Option.bind_some, if_true, Nat.reduceSub, Nat.reduceAdd, Nat.reduceEqDiff, if_pos, lenD, ordD, wipeD, Nat.sub_self, Nat.add_one_sub_one, reduceIte, Option.bind, ne_int]
    by_cases hy : n = 0
    · subst hy
      simp [does_body, do_seq, do_ret, do_retN, do_if, do_asg, do_par, do_expr, do_skip, do_tg, does_ret, does_bind, does_noX, does_call, startD, mOp, mB, mAnd, mOr, mNot, mIte, mChain, mC, mVar, lCons, lNil, mTup, mLst, mCl, mIsi, mSl, oSome, oNo, mNeg, mYes, mIt, gNm, gTp, gsCons, gsNil, tyNm, List.map_cons, List.map_nil, List.length_cons, List.length_nil, List.replicate, List.cons_append, List.nil_append, List.append_nil, List.getElem?_cons_zero, List.getElem?_cons_succ, List.set_cons_zero, List.set_cons_succ, Option.bind_some, if_true, Nat.reduceSub, Nat.reduceAdd, Nat.reduceEqDiff, if_pos, lenD, ordD, wipeD, Nat.sub_self, Nat.add_one_sub_one, reduceIte, Option.bind, ← hg]
    · have h1 : ((n : Int) == 0) = false := by simp; exact hy
      have h2 : (0 : Int) < n := by omega
      simp only [h1, Bool.not_false, does_body, do_seq, do_ret, do_retN, do_if, do_asg, do_par, do_expr, do_skip, do_tg, does_ret, does_bind, does_noX, does_call, startD, mOp, mB, mAnd, mOr, mNot, mIte, mChain, mC, mVar, lCons, lNil, mTup, mLst, mCl, mIsi, mSl, oSome, oNo, mNeg, mYes, mIt, gNm, gTp, gsCons, gsNil, tyNm, List.map_cons, List.map_nil, List.length_cons, List.length_nil, List.replicate, List.cons_append, List.nil_append, List.append_nil, List.getElem?_cons_zero, List.getElem?_cons_succ, List.set_cons_zero, List.set_cons_succ, Option.bind_some, if_true, Nat.reduceSub, Nat.reduceAdd, Nat.reduceEqDiff, if_pos, lenD, ordD, wipeD, Nat.sub_self, Nat.add_one_sub_one, reduceIte, Option.bind, modD, h2]
      refine ⟨x % n, Nat.mod_lt _ (by omega), trivial, n, x % n, rfl, ?_, ?_⟩
      · simp
      · rw [← hg, Nat.gcd_comm n (x % n), ← Nat.gcd_rec, Nat.gcd_comm]
def low (t b : Int) : Int × Int := (t / (Int.gcd t b : Int), b / (Int.gcd t b : Int))
def pl (p q : Int × Int) : Int × Int := low (p.1 * q.2 + q.1 * p.2) (p.2 * q.2)
def tot (ps : List (Int × Int)) : Int × Int := ps.foldl pl (0, 1)
theorem gcd_pos {t b : Int} (h : 0 < b) : 0 < (Int.gcd t b : Int) := by
  have : Int.gcd t b ≠ 0 := fun e => by
    have := (Int.gcd_eq_zero_iff.mp e).2
    omega
  omega
theorem gcd_le {t b : Int} (h : 0 < b) : (Int.gcd t b : Int) ≤ b := Int.le_of_dvd h (Int.gcd_dvd_right ..)
theorem low_pos {t b : Int} (h : 0 < b) : 0 < (low t b).2 := by
  unfold low
  exact Int.ediv_pos_of_pos_of_dvd h (Int.le_of_lt (gcd_pos h)) (Int.gcd_dvd_right ..)
theorem low_le {t b : Int} (h : 0 < b) : (low t b).2 ≤ b := by
  unfold low
  exact Int.ediv_le_self _ (Int.le_of_lt h)
theorem low_abs {t b : Int} (h : 0 < b) : (low t b).1.natAbs ≤ t.natAbs := by
  unfold low
  dsimp only
  rw [Int.natAbs_ediv_of_dvd (Int.gcd_dvd_left ..)]
  exact Nat.div_le_self _ _
theorem low_gcd {t b : Int} (h : 0 < b) : Int.gcd (low t b).1 (low t b).2 = 1 := by
  unfold low
  have h1 : 0 < Int.gcd t b := by have := gcd_pos (t := t) h; omega
  rw [Int.gcd_ediv (Int.gcd_dvd_left ..) (Int.gcd_dvd_right ..)]
  simp [Nat.div_self h1]
def IsLowest (f : Fnd) : Prop := ∀ (t b : Int) S, 0 < b → b.natAbs < 2 ^ 8500 → f [.int t, .int b] S = some (.ok (fr (low t b)), S)
theorem fdiv_ok {t g : Int} {S : Store} {P : D → Store → Prop} (h : 0 < g) (hl : g.natAbs < 2 ^ 8500) (p : P (.int (t / g)) S) : Does (fdivD (.int t) (.int g)) S P := by
  show Does (if 0 < g ∧ g.natAbs.log2 < 9000 then M.ret (D.int (t / g)) else _) S P
  rw [if_pos ⟨h, Nat.lt_of_lt_of_le (log2_lt' hl (by decide)) (by decide)⟩]
  exact does_ret.mpr p
theorem is_lowest_ok {p : Fnd} (hp : IsDivisor p) : IsLowest (B_lowest p) := by
  intro t b S h hb
  refine Does.eq ?_
  unfold B_lowest
  simp only [does_body, do_seq, do_ret, do_retN, do_if, do_asg, do_par, do_expr, do_skip, do_tg, does_ret, does_bind, does_noX, does_call, startD, mOp, mB, mAnd, mOr, mNot, mIte, mChain, mC, mVar, lCons, lNil, mTup, mLst, mCl, mIsi, mSl, oSome, oNo, mNeg, mYes, mIt, gNm, gTp, gsCons, gsNil, tyNm, List.map_cons, List.map_nil, List.length_cons, List.length_nil, List.replicate, List.cons_append, List.nil_append, List.append_nil, List.getElem?_cons_zero, List.getElem?_cons_succ, List.set_cons_zero, List.set_cons_succ, Option.bind_some, if_true, Nat.reduceSub, Nat.reduceAdd, Nat.reduceEqDiff, if_pos, lenD, ordD, wipeD, Nat.sub_self, Nat.add_one_sub_one, reduceIte, Option.bind, h, decide_true]
  refine ⟨_, _, hp t b S, ?_⟩
  have g1 := gcd_pos (t := t) h
  have g2 : ((Int.gcd t b : Int)).natAbs < 2 ^ 8500 := Nat.lt_of_le_of_lt (by have := gcd_le (t := t) h; omega) hb
  simp only [does_body, do_seq, do_ret, do_retN, do_if, do_asg, do_par, do_expr, do_skip, do_tg, does_ret, does_bind, does_noX, does_call, startD, mOp, mB, mAnd, mOr, mNot, mIte, mChain, mC, mVar, lCons, lNil, mTup, mLst, mCl, mIsi, mSl, oSome, oNo, mNeg, mYes, mIt, gNm, gTp, gsCons, gsNil, tyNm, List.map_cons, List.map_nil, List.length_cons, List.length_nil, List.replicate, List.cons_append, List.nil_append, List.append_nil, List.getElem?_cons_zero, List.getElem?_cons_succ, List.set_cons_zero, List.set_cons_succ, Option.bind_some, if_true, Nat.reduceSub, Nat.reduceAdd, Nat.reduceEqDiff, if_pos, lenD, ordD, wipeD, Nat.sub_self, Nat.add_one_sub_one, reduceIte, Option.bind]
  refine fdiv_ok g1 g2 (fdiv_ok g1 g2 ?_)
  simp [does_ret, fr, low]
def Bd (k : Nat) (p : Int × Int) : Prop := p.1.natAbs < 2 ^ k ∧ p.2.natAbs < 2 ^ k ∧ 0 < p.2
theorem mul_ok {i j : Int} {S : Store} {P : D → Store → Prop} {k : Nat} (hi : i.natAbs < 2 ^ k) (hj : j.natAbs < 2 ^ k) (h0 : 0 < k) (hk : k ≤ 400000) (p : P (.int (i * j)) S) : Does (mulD (.int i) (.int j)) S P := by
  show Does (if i.natAbs.log2 + j.natAbs.log2 < 1000000 then M.ret (D.int (i * j)) else M.stuck) S P
  have h1 := log2_lt' hi h0
  have h2 := log2_lt' hj h0
  rw [if_pos (by omega)]
  exact does_ret.mpr p
theorem add_ok {i j : Int} {S : Store} {P : D → Store → Prop} (p : P (.int (i + j)) S) : Does (addD (.int i) (.int j)) S P := does_ret.mpr p
theorem idx0 {a b : D} : idxD (.tup [a, b]) (.int 0) = M.ret a := rfl
theorem idx1 {a b : D} : idxD (.tup [a, b]) (.int 1) = M.ret b := rfl
def IsPlus (f : Fnd) : Prop := ∀ (p q : Int × Int) S, Bd 4000 p → Bd 4000 q → f [fr p, fr q] S = some (.ok (fr (pl p q)), S)
theorem bd_mul {a b : Int} {j k : Nat} (ha : a.natAbs < 2 ^ j) (hb : b.natAbs < 2 ^ k) : (a * b).natAbs < 2 ^ (j + k) := by
  rw [Int.natAbs_mul, Nat.pow_add]
  exact Nat.mul_lt_mul'' ha hb
theorem is_plus_ok {f : Fnd} (hf : IsLowest f) : IsPlus (B_plus f) := by
  rintro ⟨a, b⟩ ⟨c, d⟩ S ⟨h1, h2, h3⟩ ⟨h4, h5, h6⟩
  refine Does.eq ?_
  unfold B_plus
  simp only [does_body, do_seq, do_ret, do_retN, do_if, do_asg, do_par, do_expr, do_skip, do_tg, does_ret, does_bind, does_noX, does_call, startD, mOp, mB, mAnd, mOr, mNot, mIte, mChain, mC, mVar, lCons, lNil, mTup, mLst, mCl, mIsi, mSl, oSome, oNo, mNeg, mYes, mIt, gNm, gTp, gsCons, gsNil, tyNm, List.map_cons, List.map_nil, List.length_cons, List.length_nil, List.replicate, List.cons_append, List.nil_append, List.append_nil, List.getElem?_cons_zero, List.getElem?_cons_succ, List.set_cons_zero, List.set_cons_succ, Option.bind_some, if_true, Nat.reduceSub, Nat.reduceAdd, Nat.reduceEqDiff, if_pos, lenD, ordD, wipeD, Nat.sub_self, Nat.add_one_sub_one, reduceIte, Option.bind, fr, idx0, idx1]
  refine mul_ok h1 h5 (by decide) (by decide) (mul_ok h4 h2 (by decide) (by decide) (add_ok (mul_ok h2 h5 (by decide) (by decide) ?_)))
  refine ⟨_, _, hf _ _ S (Int.mul_pos h3 h6) (Nat.lt_of_lt_of_le (bd_mul h2 h5) (Nat.pow_le_pow_right (by decide) (by decide))), ?_⟩
  simp [fr, pl]
theorem pl_bd {p q : Int × Int} {j k : Nat} (hp : Bd j p) (hq : Bd k q) : Bd (j + k + 1) (pl p q) := by
  obtain ⟨a, b⟩ := p; obtain ⟨c, d⟩ := q
  obtain ⟨h1, h2, h3⟩ := hp; obtain ⟨h4, h5, h6⟩ := hq
  dsimp only at *
  have hb : 0 < b * d := Int.mul_pos h3 h6
  have m1 := bd_mul h1 h5
  have m2 := bd_mul h4 h2
  have m3 := bd_mul h2 h5
  rw [Nat.add_comm k j] at m2
  have e : 2 ^ (j + k + 1) = 2 ^ (j + k) + 2 ^ (j + k) := by rw [Nat.pow_succ]; omega
  refine ⟨?_, ?_, low_pos hb⟩
  · refine Nat.lt_of_le_of_lt (low_abs hb) ?_
    have := Int.natAbs_add_le (a * d) (c * b)
    dsimp only
    omega
  · have l1 := low_le (t := a * d + c * b) hb
    have l2 := low_pos (t := a * d + c * b) hb
    show (low (a * d + c * b) (b * d)).2.natAbs < _
    omega
def IsTotal (f : Fnd) : Prop := ∀ (ps : List (Int × Int)) S d, (d = .lst (ps.map fr) ∨ d = .tup (ps.map fr)) → ps.length ≤ 20 → (∀ p ∈ ps, Bd 101 p) → f [d] S = some (.ok (fr (tot ps)), S)
theorem tot_bd : ∀ (ps : List (Int × Int)) (a : Int × Int) (k : Nat), Bd k a → (∀ p ∈ ps, Bd 101 p) → Bd (k + 102 * ps.length) (ps.foldl pl a)
  | [], a, k, h, _ => by simpa using h
  | p :: ps, a, k, h, hp => by
    have := tot_bd ps (pl a p) (k + 101 + 1) (pl_bd h (hp p List.mem_cons_self)) fun q hq => hp q (List.mem_cons_of_mem _ hq)
    rw [List.foldl_cons, List.length_cons]
    rw [show k + 102 * (ps.length + 1) = k + 101 + 1 + 102 * ps.length by omega]
    exact this
theorem Bd.mono {j k : Nat} {p : Int × Int} (h : Bd j p) (l : j ≤ k) : Bd k p := ⟨Nat.lt_of_lt_of_le h.1 (Nat.pow_le_pow_right (by decide) l), Nat.lt_of_lt_of_le h.2.1 (Nat.pow_le_pow_right (by decide) l), h.2.2⟩
theorem tot_take {ps : List (Int × Int)} {i : Nat} {p : Int × Int} (h : ps[i]? = some p) : (ps.take (i + 1)).foldl pl (0, 1) = pl ((ps.take i).foldl pl (0, 1)) p := by
  rw [List.take_add_one, h, List.foldl_append]; rfl
theorem is_total_ok {f : Fnd} (hf : IsPlus f) : IsTotal (B_total f) := by
  intro ps S d hd hl hb
  refine Does.eq ?_
  unfold B_total
  simp only [does_body, do_seq, do_ret, do_retN, do_if, do_asg, do_par, do_expr, do_skip, do_tg, does_ret, does_bind, does_noX, does_call, startD, mOp, mB, mAnd, mOr, mNot, mIte, mChain, mC, mVar, lCons, lNil, mTup, mLst, mCl, mIsi, mSl, oSome, oNo, mNeg, mYes, mIt, gNm, gTp, gsCons, gsNil, tyNm, List.map_cons, List.map_nil, List.length_cons, List.length_nil, List.replicate, List.cons_append, List.nil_append, List.append_nil, List.getElem?_cons_zero, List.getElem?_cons_succ, List.set_cons_zero, List.set_cons_succ, Option.bind_some, if_true, Nat.reduceSub, Nat.reduceAdd, Nat.reduceEqDiff, if_pos, lenD, ordD, wipeD, Nat.sub_self, Nat.add_one_sub_one, reduceIte, Option.bind]
  have hsrc : srcOf d = M.ret (srcD (ps.map fr)) := by rcases hd with e | e <;> rw [e] <;> rfl
  refine do_for ?_
  simp only [does_body, do_seq, do_ret, do_retN, do_if, do_asg, do_par, do_expr, do_skip, do_tg, does_ret, does_bind, does_noX, does_call, startD, mOp, mB, mAnd, mOr, mNot, mIte, mChain, mC, mVar, lCons, lNil, mTup, mLst, mCl, mIsi, mSl, oSome, oNo, mNeg, mYes, mIt, gNm, gTp, gsCons, gsNil, tyNm, List.map_cons, List.map_nil, List.length_cons, List.length_nil, List.replicate, List.cons_append, List.nil_append, List.append_nil, List.getElem?_cons_zero, List.getElem?_cons_succ, List.set_cons_zero, List.set_cons_succ, Option.bind_some, if_true, Nat.reduceSub, Nat.reduceAdd, Nat.reduceEqDiff, if_pos, lenD, ordD, wipeD, Nat.sub_self, Nat.add_one_sub_one, reduceIte, Option.bind, hsrc]
  refine ⟨ps.map fr, fun i ρ S' => S' = S ∧ ∃ x, ρ = [some d, some (fr ((ps.take i).foldl pl (0, 1))), x], ⟨rfl, _, rfl⟩, fun _ _ _ _ => reads_d, ?_, ?_⟩
  · rintro i e ρ S' he ⟨rfl, x, rfl⟩
    rw [List.getElem?_map] at he
    cases hp : ps[i]? with
    | none => rw [hp] at he; cases he
    | some p =>
      rw [hp] at he
      cases he
      simp only [does_body, do_seq, do_ret, do_retN, do_if, do_asg, do_par, do_expr, do_skip, do_tg, does_ret, does_bind, does_noX, does_call, startD, mOp, mB, mAnd, mOr, mNot, mIte, mChain, mC, mVar, lCons, lNil, mTup, mLst, mCl, mIsi, mSl, oSome, oNo, mNeg, mYes, mIt, gNm, gTp, gsCons, gsNil, tyNm, List.map_cons, List.map_nil, List.length_cons, List.length_nil, List.replicate, List.cons_append, List.nil_append, List.append_nil, List.getElem?_cons_zero, List.getElem?_cons_succ, List.set_cons_zero, List.set_cons_succ, Option.bind_some, if_true, Nat.reduceSub, Nat.reduceAdd, Nat.reduceEqDiff, if_pos, lenD, ordD, wipeD, Nat.sub_self, Nat.add_one_sub_one, reduceIte, Option.bind]
      have b1 : Bd 4000 ((ps.take i).foldl pl (0, 1)) := by
        refine (tot_bd (ps.take i) (0, 1) 1 ⟨by decide, by decide, by decide⟩ fun q hq => hb q (List.mem_of_mem_take hq)).mono ?_
        rw [List.length_take]; omega
      refine ⟨_, _, hf _ p S' b1 ((hb p (List.mem_of_getElem? hp)).mono (by decide)), rfl, some (fr p), ?_⟩
      rw [tot_take hp]
  · rintro ρ S' ⟨rfl, x, rfl⟩
    simp only [does_body, do_seq, do_ret, do_retN, do_if, do_asg, do_par, do_expr, do_skip, do_tg, does_ret, does_bind, does_noX, does_call, startD, mOp, mB, mAnd, mOr, mNot, mIte, mChain, mC, mVar, lCons, lNil, mTup, mLst, mCl, mIsi, mSl, oSome, oNo, mNeg, mYes, mIt, gNm, gTp, gsCons, gsNil, tyNm, List.map_cons, List.map_nil, List.length_cons, List.length_nil, List.replicate, List.cons_append, List.nil_append, List.append_nil, List.getElem?_cons_zero, List.getElem?_cons_succ, List.set_cons_zero, List.set_cons_succ, Option.bind_some, if_true, Nat.reduceSub, Nat.reduceAdd, Nat.reduceEqDiff, if_pos, lenD, ordD, wipeD, Nat.sub_self, Nat.add_one_sub_one, reduceIte, Option.bind, List.length_map, List.take_length]
    simp [tot, does_ret]
/-! ### what is told with the store untouched -/
abbrev Vl {α : Type} (m : M α) (S : Store) (a : α) : Prop := m S = some (.ok a, S)
theorem v_ret {α : Type} {a : α} {S : Store} : Vl (M.ret a) S a := rfl
theorem v_bind {α β : Type} {m : M α} {f : α → M β} {S : Store} {a : α} {b : β} (h : Vl m S a) (h2 : Vl (f a) S b) : Vl (m.bind f) S b := by
  unfold Vl at *; unfold M.bind; rw [h]; exact h2
section
variable {f g h : Ev} {ρ : Tl.Env} {S : Store} {x y z : D} {a b : Bool} {o o' : D → D → M D}
theorem v_var {i : Nat} (h : ρ[i]? = some (some x) := by rfl) : Vl (mVar i ρ) S x := by unfold mVar; rw [h]; rfl
theorem v_c {d : D} : Vl (mC d ρ) S d := rfl
theorem v_op (h1 : Vl (f ρ) S x) (h2 : Vl (g ρ) S y) (h3 : Vl (o x y) S z) : Vl (mOp o f g ρ) S z := v_bind h1 (v_bind h2 h3)
theorem v_B (h1 : Vl (f ρ) S (.bl a)) : Vl (mB f ρ) S (.bl a) := v_bind h1 rfl
theorem v_not (h1 : Vl (f ρ) S (.bl a)) : Vl (mNot f ρ) S (.bl (!a)) := v_bind h1 rfl
theorem v_and (h1 : Vl (f ρ) S (.bl a)) (h2 : a = true → Vl (g ρ) S (.bl b)) : Vl (mAnd f g ρ) S (.bl (a && b)) := v_bind h1 (by
  cases a with
  | true => exact h2 rfl
  | false => rfl)
theorem v_or (h1 : Vl (f ρ) S (.bl a)) (h2 : a = false → Vl (g ρ) S (.bl b)) : Vl (mOr f g ρ) S (.bl (a || b)) := v_bind h1 (by
  cases a with
  | false => exact h2 rfl
  | true => rfl)
theorem v_chain (h1 : Vl (f ρ) S x) (h2 : Vl (g ρ) S y) (h3 : Vl (o x y) S (.bl a)) (h4 : a = true → Vl (h ρ) S z) (h5 : a = true → Vl (o' y z) S (.bl b)) : Vl (mChain o o' f g h ρ) S (.bl (a && b)) := v_bind h1 (v_bind h2 (v_bind h3 (by
  cases a with
  | true => exact v_bind (h4 rfl) (h5 rfl)
  | false => rfl)))
theorem v_idx {ds : List D} {i : Int} (h1 : Vl (f ρ) S (.tup ds)) (h2 : Vl (g ρ) S (.int i)) (h3 : Vl (getAt ds i) S x) : Vl (mOp idxD f g ρ) S x := v_op h1 h2 h3
theorem v_nil : Vl (lNil ρ) S [] := rfl
theorem v_cons {fs : Evs} {ds : List D} (h1 : Vl (f ρ) S x) (h2 : Vl (fs ρ) S ds) : Vl (lCons f fs ρ) S (x :: ds) := v_bind h1 (v_bind h2 rfl)
theorem v_call {p : Fnd} {n : Nat} {fs : Evs} {ds : List D} (h1 : Vl (fs ρ) S ds) (hn : ds.length = n) (h2 : Vl (p ds) S z) : Vl (mCall p n fs ρ) S z := v_bind h1 (by rw [if_pos hn]; exact h2)
theorem v_call1 {p : Fnd} (h1 : Vl (f ρ) S x) (h2 : Vl (p [x]) S z) : Vl (mCall p 1 (lCons f lNil) ρ) S z := v_call (v_cons h1 v_nil) rfl h2
theorem v_call2 {p : Fnd} (h1 : Vl (f ρ) S x) (h1' : Vl (g ρ) S y) (h2 : Vl (p [x, y]) S z) : Vl (mCall p 2 (lCons f (lCons g lNil)) ρ) S z := v_call (v_cons h1 (v_cons h1' v_nil)) rfl h2
theorem v_call3 {p : Fnd} {u : D} (h1 : Vl (f ρ) S x) (h1' : Vl (g ρ) S y) (h1'' : Vl (h ρ) S u) (h2 : Vl (p [x, y, u]) S z) : Vl (mCall p 3 (lCons f (lCons g (lCons h lNil))) ρ) S z := v_call (v_cons h1 (v_cons h1' (v_cons h1'' v_nil))) rfl h2
theorem v_cl {p : List D → M D} {fs : Evs} {ds : List D} (h1 : Vl (fs ρ) S ds) (h2 : Vl (p ds) S z) : Vl (mCl p fs ρ) S z := v_bind h1 h2
theorem v_cl1 {p : List D → M D} (h1 : Vl (f ρ) S x) (h2 : Vl (p [x]) S z) : Vl (mCl p (lCons f lNil) ρ) S z := v_cl (v_cons h1 v_nil) h2
theorem v_len {ds : List D} (h1 : Vl (f ρ) S (.tup ds)) : Vl (mCl lenD (lCons f lNil) ρ) S (.int ds.length) := v_cl1 h1 rfl
theorem v_lenL {ds : List D} (h1 : Vl (f ρ) S (.lst ds)) : Vl (mCl lenD (lCons f lNil) ρ) S (.int ds.length) := v_cl1 h1 rfl
theorem v_tup {fs : Evs} {ds : List D} (h1 : Vl (fs ρ) S ds) (hl : ds.length ≤ 1000000) : Vl (mTup fs ρ) S (.tup ds) := v_bind h1 (by rw [if_pos hl]; rfl)
theorem v_lst {fs : Evs} {ds : List D} (h1 : Vl (fs ρ) S ds) (hl : ds.length ≤ 1000000) : Vl (mLst fs ρ) S (.lst ds) := v_bind h1 (by rw [if_pos hl]; rfl)
theorem v_eqi {i j : Int} : Vl (eqD (.int i) (.int j)) S (.bl (i == j)) := by rw [eq_int]; rfl
theorem v_nei {i j : Int} : Vl (neD (.int i) (.int j)) S (.bl (!(i == j))) := by rw [ne_int]; rfl
theorem v_eqf {p q : Int × Int} : Vl (eqD (fr p) (fr q)) S (.bl (p == q)) := by rw [eq_fr]; rfl
theorem v_ord {k : Int → Int → Bool} {i j : Int} : Vl (ordD k (.int i) (.int j)) S (.bl (k i j)) := rfl
def isT : D → Bool
  | .tup _ => true
  | _ => false
theorem v_isT (h1 : Vl (f ρ) S x) (hx : Fine x) : Vl (mIsi "tuple" f ρ) S (.bl (isT x)) := v_bind h1 (by
  cases x <;> first | rfl | (simp [Fine] at hx))
def isB : D → Bool
  | .bl _ => true
  | _ => false
theorem v_isB (h1 : Vl (f ρ) S x) (hx : Fine x) : Vl (mIsi "bool" f ρ) S (.bl (isB x)) := v_bind h1 (by
  cases x <;> first | rfl | (simp [Fine] at hx))
theorem v_isInt (h1 : Vl (f ρ) S x) (hx : Fine x) : Vl (mIsi "int" f ρ) S (.bl (isI x || isB x)) := v_bind h1 (by
  cases x <;> first | rfl | (simp [Fine] at hx))
/-! sources -/
theorem v_itT {ds : List D} (h1 : Vl (f ρ) S (.tup ds)) : Vl (mIt f ρ) S (srcD ds) := v_bind h1 rfl
theorem v_itL {ds : List D} (h1 : Vl (f ρ) S (.lst ds)) : Vl (mIt f ρ) S (srcD ds) := v_bind h1 rfl
theorem v_zipT {ds es : List D} (h1 : Vl (f ρ) S (.tup ds)) (h2 : Vl (g ρ) S (.tup es)) : Vl (mZip f g ρ) S (srcZip (srcD ds) (srcD es)) := v_bind h1 (v_bind h2 rfl)
theorem v_zipL {ds es : List D} (h1 : Vl (f ρ) S (.lst ds)) (h2 : Vl (g ρ) S (.lst es)) : Vl (mZip f g ρ) S (srcZip (srcD ds) (srcD es)) := v_bind h1 (v_bind h2 rfl)
def zipT (ds es : List D) : List D := (ds.zip es).map fun p => .tup [p.1, p.2]
/-- a comprehension, item by item -/
theorem v_map {it : Tl.Env → M Src} {tg : Tg} {te : Ev} {vs : List Nat} {s : Src} {ds : List D} (k : D → D) (hi : Vl (it ρ) S s) (hr : Reads s ds S) (hl : ds.length ≤ 1000000)
    (hs : ∀ d ∈ ds, ∃ ρ2, Vl (tg d (wipeD ρ vs)) S ρ2 ∧ Vl (te ρ2) S (k d)) : Vl (mLc it tg mYes te vs ρ) S (.lst (ds.map k)) := by
  refine Does.eq ?_
  refine does_map k hi hr hl (fun d hd => ?_) ⟨rfl, rfl⟩
  obtain ⟨ρ2, h1, h2⟩ := hs d hd
  exact Does.of h1 (Does.of h2 ⟨rfl, rfl⟩)
theorem asBools_map (p : D → Bool) : ∀ ds : List D, asBools (ds.map fun d => .bl (p d)) = some (ds.map p)
  | [] => rfl
  | d :: ds => by simp [asBools, asBools_map p ds]
theorem v_all {it : Tl.Env → M Src} {tg : Tg} {te : Ev} {vs : List Nat} {s : Src} {ds : List D} (p : D → Bool) (hi : Vl (it ρ) S s) (hr : Reads s ds S) (hl : ds.length ≤ 1000000)
    (hs : ∀ d ∈ ds, ∃ ρ2, Vl (tg d (wipeD ρ vs)) S ρ2 ∧ Vl (te ρ2) S (.bl (p d))) : Vl (mCl allD (lCons (mLc it tg mYes te vs) lNil) ρ) S (.bl (ds.all p)) := by
  refine v_cl1 (v_map (fun d => .bl (p d)) hi hr hl hs) ?_
  show (((asBools (ds.map fun d => D.bl (p d))).map fun bs => D.bl (bs.all id)).map fun d => (Rs.ok d, S)) = _
  rw [asBools_map]
  simp [List.all_map]
theorem v_nm {i : Nat} {d : D} : Vl (gNm i d ρ) S (ρ.set i (some d)) := rfl
end
/-! statements -/
abbrev Sl (s : Sm) (ρ : Tl.Env) (S : Store) (r : Fl) : Prop := s ρ S = some (r, S)
section
variable {c f : Ev} {g rest b : Sm} {ρ : Tl.Env} {S : Store} {x : D} {k v : Bool}
theorem Sl.to {s : Sm} {r r' : Fl} (h : Sl s ρ S r) (e : r = r') : Sl s ρ S r' := e ▸ h
theorem s_ret (h : Vl (f ρ) S x) : Sl (sRet f) ρ S (.rt x) := by
  unfold Sl sRet sBnd; rw [h]
theorem s_guard (hc : Vl (c ρ) S (.bl k)) (hr : k = false → Sl rest ρ S (.rt (.bl v))) : Sl (sSeq (sIf c (sRet (mC (.bl false))) sSkip) rest) ρ S (.rt (.bl (!k && v))) := by
  unfold Sl sSeq sIf sBnd
  rw [hc]
  cases k with
  | true => rfl
  | false => exact hr rfl
theorem s_body {n : Nat} {ds : List D} (h : Sl b (startD n ds) S (.rt x)) : Vl (bodyD n b ds) S x := by
  unfold Vl bodyD; rw [h]
end
theorem getD0 {a b : D} : (D.tup [a, b]) = .tup [a, b] := rfl
/-! ### the model -/
def at_ (i : Nat) : D → D
  | .tup ds => ds.getD i .non
  | _ => .non
def items : D → List D
  | .tup ds => ds
  | _ => []
def frOf : D → Int × Int
  | .tup [.int a, .int b] => (a, b)
  | _ => (0, 1)
def isFr : D → Bool
  | .tup [.int a, .int b] => decide (0 < b) && (Int.gcd a b == 1)
  | _ => false
def isCh (d : D) : Bool := isFr d && (decide (0 ≤ (frOf d).1) && decide ((frOf d).1 ≤ (frOf d).2))
theorem isFr_of {d : D} (h : isFr d = true) (hd : Fine d) : d = fr (frOf d) ∧ Bd 101 (frOf d) := by
  unfold isFr at h
  split at h
  · rename_i a b
    simp only [Bool.and_eq_true, decide_eq_true_eq] at h
    obtain ⟨_, f1, f2, _⟩ := hd
    have e : 2 ^ 101 = 2 ^ 100 + 2 ^ 100 := by decide
    exact ⟨rfl, by show a.natAbs < 2 ^ 101; unfold Fine at f1; omega, by show b.natAbs < 2 ^ 101; unfold Fine at f2; omega, h.1⟩
  · cases h
def blw (p q : Int × Int) : Bool := decide (p.1 * q.2 < q.1 * p.2)
def IsBelow (f : Fnd) : Prop := ∀ p q S, Bd 4000 p → Bd 4000 q → Vl (f [fr p, fr q]) S (.bl (blw p q))
def IsFrac (f : Fnd) : Prop := ∀ d S, Fine d → Vl (f [d]) S (.bl (isFr d))
theorem len2 {ds : List D} (h : ds.length = 2) : ∃ a b, ds = [a, b] := by
  match ds, h with
  | [a, b], _ => exact ⟨a, b, rfl⟩
theorem len3 {ds : List D} (h : ds.length = 3) : ∃ a b c, ds = [a, b, c] := by
  match ds, h with
  | [a, b, c], _ => exact ⟨a, b, c, rfl⟩
theorem lenIs_of {n : Nat} {d : D} (h : lenIs n d = true) : ∃ ds, d = .tup ds ∧ ds.length = n := by
  cases d <;> simp [lenIs] at h
  exact ⟨_, rfl, h⟩
theorem fine_tup {ds : List D} (h : Fine (.tup ds)) : ds.length ≤ 20 ∧ ∀ d ∈ ds, Fine d := ⟨h.1, fines_iff.mp h.2⟩
theorem isI_of {d : D} (h : isI d = true) : ∃ i, d = .int i := by
  cases d <;> simp [isI] at h
  exact ⟨_, rfl⟩
theorem Vl.to {α : Type} {m : M α} {S : Store} {a b : α} (h : Vl m S a) (e : a = b) : Vl m S b := e ▸ h
theorem is_fraction_ok {p q r : Fnd} (hp : IsInteger p) (hq : IsPair q) (hr : IsDivisor r) : IsFrac (B_is_fraction p q r) := by
  intro d S hd
  unfold B_is_fraction
  cases h2 : lenIs 2 d with
  | false =>
    have e : isFr d = false := by
      unfold isFr; split
      · simp [lenIs] at h2
      · rfl
    rw [e]
    refine s_body ((s_guard (k := true) (v := false) ?_ (fun z => nomatch z)))
    exact v_or (a := true) (b := true) (Vl.to (v_not (v_B (v_call1 v_var (hq d S hd)))) (by rw [h2]; rfl)) fun z => nomatch z
  | true =>
    obtain ⟨ds, rfl, hl⟩ := lenIs_of h2
    obtain ⟨a, b, rfl⟩ := len2 hl
    obtain ⟨_, hf⟩ := fine_tup hd
    have ha := hf a (by simp)
    have hb := hf b (by simp)
    refine s_body (Sl.to (s_guard (k := (!true || (!isI a || !isI b))) (v := isFr (.tup [a, b])) ?_ fun z => ?_) ?_)
    · exact v_or (Vl.to (v_not (v_B (v_call1 v_var (hq _ S hd)))) (by rw [h2])) fun _ => v_or (v_not (v_B (v_call1 (v_idx v_var v_c rfl) (hp a S ha)))) fun _ => v_not (v_B (v_call1 (v_idx v_var v_c rfl) (hp b S hb)))
    · simp at z
      obtain ⟨x, rfl⟩ := isI_of z.1
      obtain ⟨y, rfl⟩ := isI_of z.2
      refine s_ret (Vl.to (v_and (v_op (v_idx v_var v_c rfl) v_c v_ord) fun _ => v_op (v_call2 (v_idx v_var v_c rfl) (v_idx v_var v_c rfl) (hr x y S)) v_c v_eqi) ?_)
      have e : ((Int.gcd x y : Int) == 1) = (Int.gcd x y == 1) := Bool.eq_iff_iff.mpr (by simp; omega)
      rw [e]; rfl
    · cases a <;> cases b <;> simp [isI, isFr]
theorem big20 {n : Nat} (h : n ≤ 20) : n ≤ 1000000 := by omega
def IsChance (f : Fnd) : Prop := ∀ d S, Fine d → Vl (f [d]) S (.bl (isCh d))
theorem is_chance_ok {p : Fnd} (hp : IsFrac p) : IsChance (B_is_chance p) := by
  intro d S hd
  unfold B_is_chance
  refine s_body (s_ret (v_and (v_call1 v_var (hp d S hd)) fun h => ?_))
  obtain ⟨e, _⟩ := isFr_of h hd
  obtain ⟨q, hq⟩ : ∃ q, frOf d = q := ⟨_, rfl⟩
  rw [hq] at e ⊢
  subst e
  exact v_chain v_c (v_idx v_var v_c rfl) v_ord (fun _ => v_idx v_var v_c rfl) fun _ => v_ord
def frs (d : D) : List (Int × Int) := (items d).map frOf
def priorB (w : Int) (d : D) : Bool := sizedD w w d && ((items d).all isCh && (tot (frs d) == (1, 1)))
def paysB (w : Int) (d : D) : Bool := sizedD w w d && (items d).all isFr
def IsPays (f : Fnd) : Prop := ∀ w d S, Fine d → Vl (f [.int w, d]) S (.bl (paysB w d))
theorem sized_of {lo hi : Int} {d : D} (h : sizedD lo hi d = true) : ∃ ds, d = .tup ds ∧ lo ≤ ds.length ∧ (ds.length : Int) ≤ hi := by
  cases d <;> simp [sizedD] at h
  exact ⟨_, rfl, h⟩
theorem frs_of {ds : List D} (h : ds.all isCh = true ∨ ds.all isFr = true) (hd : ∀ d ∈ ds, Fine d) : ds = (ds.map frOf).map fr ∧ ∀ p ∈ ds.map frOf, Bd 101 p := by
  have hf : ∀ d ∈ ds, isFr d = true := fun d hm => by
    rcases h with h | h
    · have := List.all_eq_true.mp h d hm
      unfold isCh at this
      simp only [Bool.and_eq_true] at this
      exact this.1
    · exact List.all_eq_true.mp h d hm
  refine ⟨?_, fun p hp => ?_⟩
  · rw [List.map_map]
    conv => lhs; rw [← List.map_id ds]
    exact List.map_congr_left fun d hm => (isFr_of (hf d hm) (hd d hm)).1
  · obtain ⟨d, hm, rfl⟩ := List.mem_map.mp hp
    exact (isFr_of (hf d hm) (hd d hm)).2
theorem tot_ok {p : Fnd} (hp : IsTotal p) {ds : List D} (S : Store) (h : ds.all isCh = true ∨ ds.all isFr = true) (hd : ∀ d ∈ ds, Fine d) (hl : ds.length ≤ 20) {d : D} (hx : d = .lst ds ∨ d = .tup ds) : Vl (p [d]) S (fr (tot (ds.map frOf))) := by
  obtain ⟨e, hb⟩ := frs_of h hd
  exact hp (ds.map frOf) S d (by rw [← e]; exact hx) (by simpa using hl) hb
def IsPrior (f : Fnd) : Prop := ∀ w d S, Fine d → Vl (f [.int w, d]) S (.bl (priorB w d))
/-! the judge of tables -/
mutual
def tableB : Nat → Int → D → D → Bool
  | 0, _, _, _ => false
  | l + 1, w, node, t => sizedD (items node).length (items node).length t && ((items t).all (lenIs 2) && ((items t).all (fun x => isCh (at_ 0 x)) && (!blw (1, 1) (tot ((items t).map fun x => frOf (at_ 0 x))) && (zipT (items node) (items t)).all fun p => rowsB l w (at_ 0 p) (at_ 1 (at_ 1 p)))))
def rowsB : Nat → Int → D → D → Bool
  | 0, _, _, _ => false
  | l + 1, w, q, t => sizedD (items q).length (items q).length t && ((items t).all (lenIs 2) && ((items t).all (fun x => paysB w (at_ 0 x)) && (zipT (items q) (items t)).all fun p => tableB l w (at_ 2 (at_ 0 p)) (at_ 1 (at_ 1 p))))
end
mutual
/-- the shape of a tree that the judges walk -/
def NodeS : Nat → D → Prop
  | 0, _ => False
  | l + 1, d => ∃ qs, d = .tup qs ∧ qs.length ≤ 20 ∧ ∀ q ∈ qs, QuesS l q
def QuesS : Nat → D → Prop
  | 0, _ => False
  | l + 1, d => ∃ as, d = .tup as ∧ as.length ≤ 20 ∧ ∀ a ∈ as, ∃ x y n, a = .tup [x, y, n] ∧ NodeS l n
end
def IsTable (l : Nat) (f : Fnd) : Prop := ∀ w node t S, NodeS l node → Fine t → Vl (f [.int w, node, t]) S (.bl (tableB l w node t))
def IsRows (l : Nat) (f : Fnd) : Prop := ∀ w q t S, QuesS l q → Fine t → Vl (f [.int w, q, t]) S (.bl (rowsB l w q t))
theorem mem_zipT {ds es : List D} {p : D} (h : p ∈ zipT ds es) : ∃ a b, p = .tup [a, b] ∧ a ∈ ds ∧ b ∈ es := by
  obtain ⟨⟨a, b⟩, hm, rfl⟩ := List.mem_map.mp h
  exact ⟨a, b, rfl, (List.of_mem_zip hm).1, (List.of_mem_zip hm).2⟩
theorem zipT_len {ds es : List D} : (zipT ds es).length ≤ ds.length := by
  unfold zipT; simp; omega
theorem pair_of {d : D} (h : lenIs 2 d = true) (hd : Fine d) : ∃ a b, d = .tup [a, b] ∧ Fine a ∧ Fine b := by
  obtain ⟨ds, rfl, hl⟩ := lenIs_of h
  obtain ⟨a, b, rfl⟩ := len2 hl
  obtain ⟨_, hf⟩ := fine_tup hd
  exact ⟨a, b, rfl, hf a (by simp), hf b (by simp)⟩
theorem v_g2 {i j : Nat} {a b : D} {ρ : Tl.Env} {S : Store} : Vl (gTp 2 (gsCons (gNm i) (gsCons (gNm j) gsNil)) (.tup [a, b]) ρ) S ((ρ.set i (some a)).set j (some b)) := rfl
/-! ### a house, and the program's judge of tests -/
def HouseAt (S : Store) (n : Nat) (w : Int) (tree : D) : Prop := S[n]? = some (.ins 0 [("worlds", .int w), ("tree", tree)])
theorem v_fld {c : Nat} {nm : Str} {f : Ev} {ρ : Tl.Env} {S : Store} {n : Nat} {fs : List (Str × D)} {d : D} (h1 : Vl (f ρ) S (.ref n)) (h2 : S[n]? = some (.ins c fs)) (h3 : fs.lookup nm = some d) : Vl (mFld c nm f ρ) S d := by
  refine v_bind h1 ?_
  show (match S[n]? with
    | some (.ins c' fs) => if c' = c then (match fs.lookup nm with
      | some d => some (Rs.ok d, S)
      | none => none) else none
    | _ => none) = _
  rw [h2]
  dsimp only
  rw [if_pos rfl, h3]
theorem lk_w {w : Int} {t : D} : ([("worlds", .int w), ("tree", t)] : List (Str × D)).lookup ("worlds" : Str) = some (D.int w) := rfl
theorem lk_t {w : Int} {t : D} : ([("worlds", .int w), ("tree", t)] : List (Str × D)).lookup ("tree" : Str) = some t := by
  have : (("tree" : Str) == "worlds") = false := by decide +kernel
  simp [List.lookup, this]
def testB (l : Nat) (w : Int) (tree t : D) : Bool := lenIs 2 t && (priorB w (at_ 0 t) && tableB l w tree (at_ 1 t))
def IsTest (l : Nat) (f : Fnd) : Prop := ∀ S n w tree t, HouseAt S n w tree → NodeS l tree → Fine t → Vl (f [.ref n, t]) S (.bl (testB l w tree t))
/-! ### the law's own fractions -/
def IsLCommon (f : Fnd) : Prop := ∀ (x y : Nat) S, Vl (f [.int x, .int y]) S (.int (Nat.gcd x y))
theorem l_common_ok : IsLCommon B_l_common := by
  intro a b S
  refine Does.eq ?_
  unfold B_l_common
  simp only [does_body, do_seq, do_ret, do_retN, do_if, do_asg, do_par, do_expr, do_skip, do_tg, does_ret, does_bind, does_noX, does_call, startD, mOp, mB, mAnd, mOr, mNot, mIte, mChain, mC, mVar, lCons, lNil, mTup, mLst, mCl, mIsi, mSl, oSome, oNo, mNeg, mYes, mIt, gNm, gTp, gsCons, gsNil, tyNm, List.map_cons, List.map_nil, List.length_cons, List.length_nil, List.replicate, List.cons_append, List.nil_append, List.append_nil, List.getElem?_cons_zero, List.getElem?_cons_succ, List.set_cons_zero, List.set_cons_succ, Option.bind_some, if_true, Nat.reduceSub, Nat.reduceAdd, Nat.reduceEqDiff, if_pos, lenD, ordD, wipeD, Nat.sub_self, Nat.add_one_sub_one, reduceIte, Option.bind]
  refine do_while (n := b) (fun n ρ S' => S' = S ∧ ∃ x y : Nat, n = y ∧ ρ = [some (.int x), some (.int y)] ∧ Nat.gcd x y = Nat.gcd a b) ⟨rfl, a, b, rfl, rfl, rfl⟩ ?_
  · rintro n ρ S' ⟨rfl, x, y, rfl, rfl, hg⟩
    simp only [does_body, do_seq, do_ret, do_retN, do_if, do_asg, do_par, do_expr, do_skip, do_tg, does_ret, does_bind, does_noX, does_call, startD, mOp, mB, mAnd, mOr, mNot, mIte, mChain, mC, mVar, lCons, lNil, mTup, mLst, mCl, mIsi, mSl, oSome, oNo, mNeg, mYes, mIt, gNm, gTp, gsCons, gsNil, tyNm, List.map_cons, List.map_nil, List.length_cons, List.length_nil, List.replicate, List.cons_append, List.nil_append, List.append_nil, List.getElem?_cons_zero, List.getElem?_cons_succ, List.set_cons_zero, List.set_cons_succ, Option.bind_some, if_true, Nat.reduceSub, Nat.reduceAdd, Nat.reduceEqDiff, if_pos, lenD, ordD, wipeD, Nat.sub_self, Nat.add_one_sub_one, reduceIte, Option.bind, ne_int]
    by_cases hy : n = 0
    · subst hy
      simp [does_body, do_seq, do_ret, do_retN, do_if, do_asg, do_par, do_expr, do_skip, do_tg, does_ret, does_bind, does_noX, does_call, startD, mOp, mB, mAnd, mOr, mNot, mIte, mChain, mC, mVar, lCons, lNil, mTup, mLst, mCl, mIsi, mSl, oSome, oNo, mNeg, mYes, mIt, gNm, gTp, gsCons, gsNil, tyNm, List.map_cons, List.map_nil, List.length_cons, List.length_nil, List.replicate, List.cons_append, List.nil_append, List.append_nil, List.getElem?_cons_zero, List.getElem?_cons_succ, List.set_cons_zero, List.set_cons_succ, Option.bind_some, if_true, Nat.reduceSub, Nat.reduceAdd, Nat.reduceEqDiff, if_pos, lenD, ordD, wipeD, Nat.sub_self, Nat.add_one_sub_one, reduceIte, Option.bind, ← hg]
    · have h1 : ((n : Int) == 0) = false := by simp; exact hy
      have h2 : (0 : Int) < n := by omega
      simp only [h1, Bool.not_false, does_body, do_seq, do_ret, do_retN, do_if, do_asg, do_par, do_expr, do_skip, do_tg, does_ret, does_bind, does_noX, does_call, startD, mOp, mB, mAnd, mOr, mNot, mIte, mChain, mC, mVar, lCons, lNil, mTup, mLst, mCl, mIsi, mSl, oSome, oNo, mNeg, mYes, mIt, gNm, gTp, gsCons, gsNil, tyNm, List.map_cons, List.map_nil, List.length_cons, List.length_nil, List.replicate, List.cons_append, List.nil_append, List.append_nil, List.getElem?_cons_zero, List.getElem?_cons_succ, List.set_cons_zero, List.set_cons_succ, Option.bind_some, if_true, Nat.reduceSub, Nat.reduceAdd, Nat.reduceEqDiff, if_pos, lenD, ordD, wipeD, Nat.sub_self, Nat.add_one_sub_one, reduceIte, Option.bind, modD, h2]
      refine ⟨x % n, Nat.mod_lt _ (by omega), trivial, n, x % n, rfl, ?_, ?_⟩
      · simp
      · rw [← hg, Nat.gcd_comm n (x % n), ← Nat.gcd_rec, Nat.gcd_comm]
theorem v_abs {f : Ev} {ρ : Tl.Env} {S : Store} {i : Int} (h : Vl (f ρ) S (.int i)) : Vl (mCl absD (lCons f lNil) ρ) S (.int (i.natAbs : Int)) := v_cl1 h (by
  show some ((Rs.ok (.int (if i < 0 then -i else i)) : Rs D), S) = _
  have : (if i < 0 then -i else i) = (i.natAbs : Int) := by split <;> omega
  rw [this])
theorem nat_of {b : Int} (h : 0 < b) : (b : Int) = ((b.natAbs : Nat) : Int) := by omega
def IsLLow (f : Fnd) : Prop := ∀ (t b : Int) S, 0 < b → b.natAbs < 2 ^ 8500 → Vl (f [.int t, .int b]) S (fr (low t b))
theorem l_low_ok {p : Fnd} (hp : IsLCommon p) : IsLLow (B_l_low p) := by
  intro t b S h hb
  have e : Vl (p [.int (t.natAbs : Int), .int b]) S (.int (Int.gcd t b : Int)) := by
    rw [nat_of h]; exact hp t.natAbs b.natAbs S
  refine Does.eq ?_
  unfold B_l_low
  simp only [does_body, do_seq, do_ret, do_retN, do_if, do_asg, do_par, do_expr, do_skip, do_tg, does_ret, does_bind, does_noX, does_call, startD, mOp, mB, mAnd, mOr, mNot, mIte, mChain, mC, mVar, lCons, lNil, mTup, mLst, mCl, mIsi, mSl, oSome, oNo, mNeg, mYes, mIt, gNm, gTp, gsCons, gsNil, tyNm, List.map_cons, List.map_nil, List.length_cons, List.length_nil, List.replicate, List.cons_append, List.nil_append, List.append_nil, List.getElem?_cons_zero, List.getElem?_cons_succ, List.set_cons_zero, List.set_cons_succ, Option.bind_some, if_true, Nat.reduceSub, Nat.reduceAdd, Nat.reduceEqDiff, if_pos, lenD, ordD, wipeD, Nat.sub_self, Nat.add_one_sub_one, reduceIte, Option.bind, absD]
  have ha : (if t < 0 then -t else t) = (t.natAbs : Int) := by split <;> omega
  rw [ha]
  refine Does.of e ?_
  have g1 := gcd_pos (t := t) h
  have g2 : ((Int.gcd t b : Int)).natAbs < 2 ^ 8500 := Nat.lt_of_le_of_lt (by have := gcd_le (t := t) h; omega) hb
  refine fdiv_ok g1 g2 (fdiv_ok g1 g2 ?_)
  simp [does_ret, fr, low]
def tm (p q : Int × Int) : Int × Int := low (p.1 * q.1) (p.2 * q.2)
def IsTimes (f : Fnd) : Prop := ∀ (p q : Int × Int) S, Bd 4000 p → Bd 4000 q → Vl (f [fr p, fr q]) S (fr (tm p q))
theorem l_times_ok {f : Fnd} (hf : IsLLow f) : IsTimes (B_l_times f) := by
  rintro ⟨a, b⟩ ⟨c, d⟩ S ⟨h1, h2, h3⟩ ⟨h4, h5, h6⟩
  refine Does.eq ?_
  unfold B_l_times
  simp only [does_body, do_seq, do_ret, do_retN, do_if, do_asg, do_par, do_expr, do_skip, do_tg, does_ret, does_bind, does_noX, does_call, startD, mOp, mB, mAnd, mOr, mNot, mIte, mChain, mC, mVar, lCons, lNil, mTup, mLst, mCl, mIsi, mSl, oSome, oNo, mNeg, mYes, mIt, gNm, gTp, gsCons, gsNil, tyNm, List.map_cons, List.map_nil, List.length_cons, List.length_nil, List.replicate, List.cons_append, List.nil_append, List.append_nil, List.getElem?_cons_zero, List.getElem?_cons_succ, List.set_cons_zero, List.set_cons_succ, Option.bind_some, if_true, Nat.reduceSub, Nat.reduceAdd, Nat.reduceEqDiff, if_pos, lenD, ordD, wipeD, Nat.sub_self, Nat.add_one_sub_one, reduceIte, Option.bind, fr, idx0, idx1]
  refine mul_ok h1 h4 (by decide) (by decide) (mul_ok h2 h5 (by decide) (by decide) ?_)
  refine ⟨_, _, hf _ _ S (Int.mul_pos h3 h6) (Nat.lt_of_lt_of_le (bd_mul h2 h5) (Nat.pow_le_pow_right (by decide) (by decide))), ?_⟩
  simp [fr, tm]
theorem isT_of {d : D} (h : isT d = true) : ∃ ds, d = .tup ds := by
  cases d <;> simp [isT] at h
  exact ⟨_, rfl⟩
theorem isFr_len {ds : List D} (h : isFr (.tup ds) = true) : ds.length = 2 := by
  unfold isFr at h
  split at h
  · rename_i e; cases e; rfl
  · cases h
/-! ### the law's own judge -/
theorem all_and {α : Type} (p q : α → Bool) : ∀ l : List α, (l.all fun x => p x && q x) = (l.all p && l.all q)
  | [] => rfl
  | x :: l => by
    simp only [List.all_cons, all_and p q l]
    cases p x <;> cases q x <;> cases l.all p <;> simp
theorem zip_all2 (g : D → Bool) : ∀ {qs ts : List D}, qs.length = ts.length → ((zipT qs ts).all fun p => g (at_ 1 p)) = ts.all g
  | [], [], _ => rfl
  | q :: qs, t :: ts, h => by
    have := zip_all2 g (qs := qs) (ts := ts) (by simpa using h)
    unfold zipT at this ⊢
    simp only [List.zip_cons_cons, List.map_cons, List.all_cons]
    rw [this]
    rfl
  | [], _ :: _, h => by simp at h
  | _ :: _, [], h => by simp at h
section
variable {c f : Ev} {g rest b : Sm} {ρ : Tl.Env} {S : Store} {x : D} {k v : Bool} {r : Fl}
theorem s_seqG (hc : Vl (c ρ) S (.bl k)) (hr : k = false → Sl rest ρ S r) : Sl (sSeq (sIf c (sRet (mC (.bl false))) sSkip) rest) ρ S (if k = true then .rt (.bl false) else r) := by
  unfold Sl sSeq sIf sBnd
  rw [hc]
  cases k with
  | true => rfl
  | false => exact hr rfl
theorem s_ifG (hc : Vl (c ρ) S (.bl k)) : Sl (sIf c (sRet (mC (.bl false))) sSkip) ρ S (if k = true then .rt (.bl false) else .nx ρ) := by
  unfold Sl sIf sBnd
  rw [hc]
  cases k <;> rfl
theorem s_tg {tg : Tg} {d : D} {ρ2 : Tl.Env} (h : Vl (tg d ρ) S ρ2) (hb : Sl b ρ2 S r) : Sl (sSeq (sTg tg d) b) ρ S r := by
  unfold Sl sSeq sTg
  rw [h]
  exact hb
theorem s_forGo {s : Src} {ds : List D} {tg : Tg} (I : Tl.Env → Prop) (p : D → Bool) (hr : Reads s ds S)
    (hs : ∀ d ∈ ds, ∀ ρ, I ρ → (p d = true → ∃ ρ', Sl (sSeq (sTg tg d) b) ρ S (.nx ρ') ∧ I ρ') ∧ (p d = false → Sl (sSeq (sTg tg d) b) ρ S (.rt (.bl false)))) : ∀ (m i : Nat) (ρ : Tl.Env), i + m = ds.length → I ρ →
    ((ds.drop i).all p = true → ∃ ρ', Sl (forGo s tg b m i) ρ S (.nx ρ') ∧ I ρ') ∧ ((ds.drop i).all p = false → Sl (forGo s tg b m i) ρ S (.rt (.bl false)))
  | 0, i, ρ, e, h => by
    have e : i = ds.length := by omega
    subst e
    refine ⟨fun _ => ⟨ρ, ?_, h⟩, fun z => by simp at z⟩
    show (if s.fin S = true then some (Fl.nx ρ, S) else none) = _
    rw [if_pos hr.2.2]
  | m + 1, i, ρ, e, h => by
    have hi : i < ds.length := by omega
    have hr1 : s.rd S i = some ds[i] := by rw [hr.2.1 i hi]; exact List.getElem?_eq_getElem hi
    have unf : forGo s tg b (m + 1) i ρ S = match sSeq (sTg tg ds[i]) b ρ S with
      | some (.nx ρ2, S2) => forGo s tg b m (i + 1) ρ2 S2
      | some (.ct ρ2, S2) => forGo s tg b m (i + 1) ρ2 S2
      | some (.bk ρ2, S2) => some (.nx ρ2, S2)
      | r => r := by
      show (match s.rd S i with
        | none => none
        | some d => match sSeq (sTg tg d) b ρ S with
          | some (.nx ρ2, S2) => forGo s tg b m (i + 1) ρ2 S2
          | some (.ct ρ2, S2) => forGo s tg b m (i + 1) ρ2 S2
          | some (.bk ρ2, S2) => some (.nx ρ2, S2)
          | r => r) = _
      rw [hr1]
    have hd : ds.drop i = ds[i] :: ds.drop (i + 1) := List.drop_eq_getElem_cons hi
    obtain ⟨h1, h2⟩ := hs ds[i] (List.getElem_mem hi) ρ h
    unfold Sl
    rw [unf, hd, List.all_cons]
    cases hp : p ds[i] with
    | true =>
      obtain ⟨ρ', q, h3⟩ := h1 hp
      rw [q, Bool.true_and]
      exact s_forGo I p hr hs m (i + 1) ρ' (by omega) h3
    | false =>
      rw [h2 hp, Bool.false_and]
      exact ⟨fun z => (nomatch z), fun _ => rfl⟩
theorem s_for {it : Tl.Env → M Src} {s : Src} {ds : List D} {tg : Tg} (I : Tl.Env → Prop) (p : D → Bool) (hi : Vl (it ρ) S s) (hr : Reads s ds S) (h0 : I ρ)
    (hs : ∀ d ∈ ds, ∀ ρ, I ρ → (p d = true → ∃ ρ', Sl (sSeq (sTg tg d) b) ρ S (.nx ρ') ∧ I ρ') ∧ (p d = false → Sl (sSeq (sTg tg d) b) ρ S (.rt (.bl false)))) :
    (ds.all p = true → ∃ ρ', Sl (sFor it tg b) ρ S (.nx ρ') ∧ I ρ') ∧ (ds.all p = false → Sl (sFor it tg b) ρ S (.rt (.bl false))) := by
  have := s_forGo I p hr hs s.n 0 ρ (by rw [hr.1]; omega) h0
  rw [List.drop_zero] at this
  unfold Sl sFor sBnd
  rw [hi]
  exact this
theorem s_then {f : Sm} {ρ' : Tl.Env} (h : Sl f ρ S (.nx ρ')) (h2 : Sl rest ρ' S r) : Sl (sSeq f rest) ρ S r := by
  unfold Sl sSeq; rw [h]; exact h2
theorem s_out {f : Sm} {d : D} (h : Sl f ρ S (.rt d)) : Sl (sSeq f rest) ρ S (.rt d) := by
  unfold Sl sSeq; rw [h]
end
/-! ### the law's own judge of tables -/
def rowB (l : Nat) (w : Int) (p : D) : Bool := lenIs 2 (at_ 1 p) && (paysB w (at_ 0 (at_ 1 p)) && tableB l w (at_ 2 (at_ 0 p)) (at_ 1 (at_ 1 p)))
theorem items_tup {ds : List D} : items (.tup ds) = ds := rfl
theorem rowsB_eq {l : Nat} {w : Int} {qs : List D} {t : D} : rowsB (l + 1) w (.tup qs) t = (sizedD qs.length qs.length t && (zipT qs (items t)).all (rowB l w)) := by
  unfold rowsB
  simp only [items_tup]
  cases h : sizedD qs.length qs.length t with
  | false => rfl
  | true =>
    obtain ⟨ts, rfl, h1, h2⟩ := sized_of h
    have hl : qs.length = ts.length := by omega
    have e : (zipT qs ts).all (rowB l w) = ((zipT qs ts).all (fun p => lenIs 2 (at_ 1 p)) && ((zipT qs ts).all (fun p => paysB w (at_ 0 (at_ 1 p))) && (zipT qs ts).all fun p => tableB l w (at_ 2 (at_ 0 p)) (at_ 1 (at_ 1 p)))) := by
      rw [← all_and, ← all_and]; rfl
    simp only [Bool.true_and, items_tup]
    rw [e, zip_all2 (fun d => lenIs 2 d) hl, zip_all2 (fun d => paysB w (at_ 0 d)) hl]
theorem tableB_eq {l : Nat} {w : Int} {qs : List D} {t : D} : tableB (l + 1) w (.tup qs) t = (sizedD qs.length qs.length t && ((items t).all (fun x => isT x && ((items x).length == 2 && isFr (at_ 0 x))) && ((items t).all (fun x => decide (0 ≤ (frOf (at_ 0 x)).1) && decide ((frOf (at_ 0 x)).1 ≤ (frOf (at_ 0 x)).2)) &&
    (!blw (1, 1) (tot ((items t).map fun x => frOf (at_ 0 x))) && (zipT qs (items t)).all fun p => rowsB l w (at_ 0 p) (at_ 1 (at_ 1 p)))))) := by
  unfold tableB
  simp only [items_tup]
  have e1 : ∀ x, (isT x && ((items x).length == 2 && isFr (at_ 0 x))) = (lenIs 2 x && isFr (at_ 0 x)) := fun x => by
    cases x <;> simp [isT, lenIs, items]
  have e2 : ∀ x, isCh (at_ 0 x) = (isFr (at_ 0 x) && (decide (0 ≤ (frOf (at_ 0 x)).1) && decide ((frOf (at_ 0 x)).1 ≤ (frOf (at_ 0 x)).2))) := fun x => rfl
  simp only [e1, e2]
  cases sizedD qs.length qs.length t with
  | false => rfl
  | true =>
    simp only [Bool.true_and, all_and, Bool.and_assoc]
theorem sized_eq {n : Nat} {t : D} : sizedD n n t = (isT t && ((items t).length == n)) := by
  cases t <;> simp [sizedD, isT, items]
  exact Bool.eq_iff_iff.mpr (by simp; omega)
theorem v_lenne {f g : Ev} {ρ : Tl.Env} {S : Store} {a : List D} {n : Nat} (h : Vl (f ρ) S (.tup a)) (h2 : Vl (g ρ) S (.int n)) : Vl (mB (mOp neD (mCl lenD (lCons f lNil)) g) ρ) S (.bl (!(a.length == n))) := by
  refine Vl.to (v_B (v_op (v_len h) h2 v_nei)) ?_
  congr 2
  exact Bool.eq_iff_iff.mpr (by simp; omega)
theorem v_fr0 {f : Ev} {ρ : Tl.Env} {S : Store} {d : D} (h : Vl (f ρ) S d) (hf : isFr d = true) (hd : Fine d) : Vl (mChain (ordD fun i j => decide (i ≤ j)) (ordD fun i j => decide (i ≤ j)) (mC (.int 0)) (mOp idxD f (mC (.int 0))) (mOp idxD f (mC (.int 1))) ρ) S (.bl (decide (0 ≤ (frOf d).1) && decide ((frOf d).1 ≤ (frOf d).2))) := by
  obtain ⟨e, _⟩ := isFr_of hf hd
  obtain ⟨q, hq⟩ : ∃ q, frOf d = q := ⟨_, rfl⟩
  rw [hq] at e ⊢
  subst e
  exact v_chain v_c (v_idx h v_c rfl) v_ord (fun _ => v_idx h v_c rfl) fun _ => v_ord
theorem v_g2n {i j k : Nat} {a b c : D} {ρ : Tl.Env} {S : Store} : Vl (gTp 2 (gsCons (gNm i) (gsCons (gTp 2 (gsCons (gNm j) (gsCons (gNm k) gsNil))) gsNil)) (.tup [a, .tup [b, c]]) ρ) S (((ρ.set i (some a)).set j (some b)).set k (some c)) := rfl
noncomputable def rowSt (p3 p4 : Fnd) : Sm := sSeq (sIf (mOr (mNot (mB (mIsi "tuple" (mVar 7)))) (mOr (mB (mOp neD (mCl lenD (lCons (mVar 7) lNil)) (mC (.int 2)))) (mOr (mNot (mB (mIsi "tuple" (mOp idxD (mVar 7) (mC (.int 0)))))) (mB (mOp neD (mCl lenD (lCons (mOp idxD (mVar 7) (mC (.int 0))) lNil)) (mVar 0)))))) (sRet (mC (.bl false))) sSkip)
  (sIf (mOr (mNot (mB (mCl allD (lCons (mLc (mIt (mOp idxD (mVar 7) (mC (.int 0)))) (gNm 9) mYes (mCall p3 1 (lCons (mVar 9) lNil)) [9]) lNil)))) (mNot (mB (mCall p4 3 (lCons (mVar 0) (lCons (mOp idxD (mVar 6) (mC (.int 2))) (lCons (mOp idxD (mVar 7) (mC (.int 1))) lNil))))))) (sRet (mC (.bl false))) sSkip)
noncomputable def queSt (p3 p4 : Fnd) : Sm := sSeq (sIf (mOr (mNot (mB (mIsi "tuple" (mVar 5)))) (mB (mOp neD (mCl lenD (lCons (mVar 5) lNil)) (mCl lenD (lCons (mVar 3) lNil))))) (sRet (mC (.bl false))) sSkip)
  (sFor (mZip (mVar 3) (mVar 5)) (gTp 2 (gsCons (gNm 6) (gsCons (gNm 7) gsNil))) (rowSt p3 p4))
theorem row_ok {l : Nat} {p3 p4 : Fnd} (h3 : IsFrac p3) (h4 : IsTable l p4) {w : Int} {x1 x2 x3 x4 x5 x8 x9 : Option D} {u v n row : D} {S : Store} (hn : NodeS l n) (hr : Fine row) :
    Sl (rowSt p3 p4) [some (.int w), x1, x2, x3, x4, x5, some (.tup [u, v, n]), some row, x8, x9] S (if rowB l w (.tup [.tup [u, v, n], row]) = true then .nx [some (.int w), x1, x2, x3, x4, x5, some (.tup [u, v, n]), some row, x8, x9] else .rt (.bl false)) := by
  unfold rowSt
  refine Sl.to (s_seqG (k := (!isT row || (!((items row).length == 2) || (!isT (at_ 0 row) || !(((items (at_ 0 row)).length : Int) == w))))) ?_ fun z => s_ifG (k := (!(items (at_ 0 row)).all isFr || !tableB l w n (at_ 1 row))) ?_) ?_
  · refine v_or (v_not (v_B (v_isT v_var hr))) fun z => ?_
    simp only [Bool.not_eq_eq_eq_not, Bool.not_false] at z
    obtain ⟨ds, rfl⟩ := isT_of z
    refine v_or (v_lenne v_var v_c) fun z => ?_
    simp only [Bool.not_eq_eq_eq_not, Bool.not_false, beq_iff_eq] at z
    obtain ⟨a, b, rfl⟩ := len2 z
    have fa := (fine_tup hr).2 a (by simp)
    refine v_or (v_not (v_B (v_isT (v_idx v_var v_c rfl) fa))) fun z => ?_
    simp only [Bool.not_eq_eq_eq_not, Bool.not_false] at z
    obtain ⟨xs, rfl⟩ := isT_of z
    exact v_B (v_op (v_len (v_idx v_var v_c rfl)) v_var v_nei)
  · simp only [Bool.or_eq_false_iff, Bool.not_eq_eq_eq_not, Bool.not_false, beq_iff_eq] at z
    obtain ⟨z1, z2, z3, z4⟩ := z
    obtain ⟨ds, rfl⟩ := isT_of z1
    obtain ⟨a, b, rfl⟩ := len2 (ds := ds) z2
    have fa := (fine_tup hr).2 a (by simp)
    have fb := (fine_tup hr).2 b (by simp)
    obtain ⟨xs, rfl⟩ := isT_of (d := a) z3
    obtain ⟨hl, hf⟩ := fine_tup fa
    refine v_or (v_not (v_B (v_all isFr (v_itT (v_idx v_var v_c rfl)) reads_d (big20 hl) fun x hx => ⟨_, v_nm, v_call1 v_var (h3 x S (hf x hx))⟩))) fun _ => v_not (v_B (v_call3 v_var (v_idx v_var v_c rfl) (v_idx v_var v_c rfl) (h4 w n b S hn fb)))
  · have e : rowB l w (.tup [.tup [u, v, n], row]) = ((isT row && ((items row).length == 2)) && ((isT (at_ 0 row) && (((items (at_ 0 row)).length : Int) == w)) && ((items (at_ 0 row)).all isFr && tableB l w n (at_ 1 row)))) := by
      have e1 : lenIs 2 row = (isT row && ((items row).length == 2)) := by cases row <;> simp [lenIs, isT, items]
      have e2 : ∀ x, sizedD w w x = (isT x && (((items x).length : Int) == w)) := fun x => by
        cases x <;> simp [sizedD, isT, items]
        exact Bool.eq_iff_iff.mpr (by simp; omega)
      show (lenIs 2 row && ((sizedD w w (at_ 0 row) && (items (at_ 0 row)).all isFr) && tableB l w n (at_ 1 row))) = _
      rw [e1, e2]
      simp only [Bool.and_assoc]
    rw [e]
    cases isT row <;> cases ((items row).length == 2) <;> cases isT (at_ 0 row) <;> cases (((items (at_ 0 row)).length : Int) == w) <;> cases (items (at_ 0 row)).all isFr <;> cases tableB l w n (at_ 1 row) <;> rfl
theorem que_ok {l : Nat} {p3 p4 : Fnd} (h3 : IsFrac p3) (h4 : IsTable l p4) {w : Int} {x1 x2 x4 x6 x7 x8 x9 : Option D} {q rows : D} {S : Store} (hq : QuesS (l + 1) q) (hr : Fine rows) :
    ∃ r, Sl (queSt p3 p4) [some (.int w), x1, x2, some q, x4, some rows, x6, x7, x8, x9] S r ∧ (rowsB (l + 1) w q rows = true → ∃ a b c d, r = .nx [some (.int w), x1, x2, some q, x4, some rows, a, b, c, d]) ∧ (rowsB (l + 1) w q rows = false → r = .rt (.bl false)) := by
  obtain ⟨as, rfl, has, hans⟩ := hq
  unfold queSt
  rw [rowsB_eq, sized_eq]
  have hc : Vl (mOr (mNot (mB (mIsi "tuple" (mVar 5)))) (mB (mOp neD (mCl lenD (lCons (mVar 5) lNil)) (mCl lenD (lCons (mVar 3) lNil)))) [some (.int w), x1, x2, some (.tup as), x4, some rows, x6, x7, x8, x9]) S (.bl (!isT rows || !((items rows).length == as.length))) := by
    refine v_or (v_not (v_B (v_isT v_var hr))) fun z => ?_
    simp only [Bool.not_eq_eq_eq_not, Bool.not_false] at z
    obtain ⟨rs, rfl⟩ := isT_of z
    exact v_lenne v_var (v_len v_var)
  cases hT : (isT rows && ((items rows).length == as.length)) with
  | false =>
    have hk : (!isT rows || !((items rows).length == as.length)) = true := by
      rw [← Bool.not_and, hT]; rfl
    rw [hk] at hc
    exact ⟨_, s_seqG (r := .rt (.bl false)) hc (fun z => nomatch z), fun z => (nomatch z), fun _ => rfl⟩
  | true =>
    have hk : (!isT rows || !((items rows).length == as.length)) = false := by
      rw [← Bool.not_and, hT]; rfl
    rw [hk] at hc
    simp only [Bool.and_eq_true, beq_iff_eq] at hT
    obtain ⟨rs, rfl⟩ := isT_of hT.1
    have hlr : rs.length = as.length := hT.2
    obtain ⟨hrl, hrf⟩ := fine_tup hr
    have loop := s_for (S := S) (ρ := [some (.int w), x1, x2, some (.tup as), x4, some (.tup rs), x6, x7, x8, x9]) (it := mZip (mVar 3) (mVar 5)) (tg := gTp 2 (gsCons (gNm 6) (gsCons (gNm 7) gsNil))) (b := rowSt p3 p4)
      (fun ρ => ∃ a b c d, ρ = [some (.int w), x1, x2, some (.tup as), x4, some (.tup rs), a, b, c, d]) (rowB l w) (v_zipT v_var v_var) (reads_zip reads_d reads_d) ⟨_, _, _, _, rfl⟩ (by
        rintro p hp ρ ⟨a, b, c, d, rfl⟩
        obtain ⟨an, row, rfl, ma, mr⟩ := mem_zipT hp
        obtain ⟨u, v, n, rfl, hn⟩ := hans an ma
        have := row_ok (S := S) (w := w) (u := u) (v := v) (x1 := x1) (x2 := x2) (x3 := some (.tup as)) (x4 := x4) (x5 := some (.tup rs)) (x8 := c) (x9 := d) h3 h4 hn (hrf row mr)
        refine ⟨fun z => ?_, fun z => ?_⟩
        · rw [z, if_pos rfl] at this
          exact ⟨_, s_tg v_g2 this, _, _, _, _, rfl⟩
        · rw [z, if_neg Bool.false_ne_true] at this
          exact s_tg v_g2 this)
    simp only [Bool.true_and, items_tup]
    cases hall : (zipT as rs).all (rowB l w) with
    | true =>
      obtain ⟨ρ', q, a, b, c, d, rfl⟩ := loop.1 hall
      exact ⟨_, s_seqG hc (fun _ => q), fun _ => ⟨a, b, c, d, rfl⟩, fun z => nomatch z⟩
    | false => exact ⟨_, s_seqG hc (fun _ => loop.2 hall), fun z => (nomatch z), fun _ => rfl⟩
def IsLTest (l : Nat) (f : Fnd) : Prop := ∀ w tree t S, NodeS l tree → Fine t → Vl (f [.int w, tree, t]) S (.bl (testB l w tree t))
def IsFlag (f : Fnd) : Prop := ∀ (a b : Bool) S, Vl (f [.bl a, .bl b]) S (.bl (a == b))
theorem l_flag_ok : IsFlag B_l_flag := by
  intro a b S
  unfold B_l_flag
  exact s_body (s_ret (Vl.to (v_and (a := true) (Vl.to (v_isB (x := .bl a) v_var trivial) rfl) fun _ => v_op v_var v_var (by rw [eq_bl]; rfl)) (by simp)))

/-! ### the bag: at 0 the great numbers, at 1 the bag itself -/
abbrev LIM : Nat := 2 ^ 200
structure Bag (c : Nat) (S : Store) : Prop where
  ex : ∃ (seed cnt : Int) (al : D) (gs : List Int), S[0]? = some (.lst (gs.map .int)) ∧ S[1]? = some (.lst [.int seed, .int cnt, .ref 0, al]) ∧ (al = .non ∨ ∃ a, al = .int a) ∧ 0 ≤ seed ∧ seed < 2147483648 ∧ 0 ≤ cnt ∧ cnt ≤ c ∧ gs.length ≤ 63
/-- the store has grown, all else than xs as it was -/
def Kp (xs : List Nat) (S S' : Store) : Prop := S.length ≤ S'.length ∧ ∀ i, i < S.length → i ∉ xs → S'[i]? = S[i]?
theorem Kp.refl {xs : List Nat} {S : Store} : Kp xs S S := ⟨Nat.le_refl _, fun _ _ _ => rfl⟩
theorem Kp.trans {xs : List Nat} {S S1 S2 : Store} (a : Kp xs S S1) (b : Kp xs S1 S2) : Kp xs S S2 := ⟨Nat.le_trans a.1 b.1, fun i h n => (b.2 i (Nat.lt_of_lt_of_le h a.1) n).trans (a.2 i h n)⟩
theorem Kp.more {xs ys : List Nat} {S S' : Store} (a : Kp xs S S') (h : ∀ x ∈ xs, x ∈ ys) : Kp ys S S' := ⟨a.1, fun i l n => a.2 i l fun m => n (h i m)⟩
theorem Kp.get {xs : List Nat} {S S' : Store} (a : Kp xs S S') {i : Nat} {o : SO} (h : S[i]? = some o) (n : i ∉ xs) : S'[i]? = some o := by
  rw [a.2 i (List.getElem?_eq_some_iff.mp h).1 n]; exact h
theorem Kp.set {xs : List Nat} {S : Store} {i : Nat} {o : SO} (h : i ∈ xs) : Kp xs S (S.set i o) := ⟨by simp, fun j _ n => by rw [List.getElem?_set_ne (fun e => n (by rw [← e]; exact h))]⟩
theorem Kp.push {xs : List Nat} {S : Store} {o : SO} : Kp xs S (S ++ [o]) := ⟨by simp, fun j h _ => by rw [List.getElem?_append_left h]⟩
theorem Bag.mono {c c' : Nat} {S : Store} (h : Bag c S) (l : c ≤ c') : Bag c' S := by
  obtain ⟨seed, cnt, al, gs, h1, h2, h3, h4, h5, h6, h7, h8⟩ := h.ex
  exact ⟨seed, cnt, al, gs, h1, h2, h3, h4, h5, h6, by omega, h8⟩
theorem Bag.keep {c : Nat} {S S' : Store} {xs : List Nat} (h : Bag c S) (k : Kp xs S S') (h0 : 0 ∉ xs) (h1' : 1 ∉ xs) : Bag c S' := by
  obtain ⟨seed, cnt, al, gs, h1, h2, h3⟩ := h.ex
  exact ⟨seed, cnt, al, gs, k.get h1 h0, k.get h2 h1', h3⟩
theorem Bag.two {c : Nat} {S : Store} (h : Bag c S) : 2 ≤ S.length := by
  obtain ⟨seed, cnt, al, gs, h1, h2, h3⟩ := h.ex
  have := (List.getElem?_eq_some_iff.mp h2).1
  omega
def IsPick (f : Fnd) : Prop := ∀ (c : Nat) (n : Int) S, Bag c S → c < LIM → 0 < n → n < 1000000 → Does (f [.ref 1, .int n]) S fun v S' => (∃ i : Int, v = .int i ∧ 0 ≤ i ∧ i < n) ∧ Bag (c + 1) S' ∧ Kp [0, 1] S S' ∧ S'.length = S.length
theorem does_ixr {n : Nat} {ds : List D} {i : Int} {S : Store} {P : D → Store → Prop} (h : S[n]? = some (.lst ds)) (p : Does (getAt ds i) S P) : Does (idxD (.ref n) (.int i)) S P := by
  obtain ⟨a, S', e, q⟩ := p
  refine ⟨a, S', ?_, q⟩
  show (match S[n]? with
    | some (.lst ds) => getAt ds i S
    | _ => none) = _
  rw [h]; exact e
theorem does_lenr {n : Nat} {ds : List D} {S : Store} {P : D → Store → Prop} (h : S[n]? = some (.lst ds)) (p : P (.int ds.length) S) : Does (lenD [.ref n]) S P := by
  refine ⟨_, S, ?_, p⟩
  show (match S[n]? with
    | some (.lst ds) => some ((Rs.ok (D.int ds.length) : Rs D), S)
    | _ => none) = _
  rw [h]
theorem does_onR {α : Type} {n : Nat} {ds es : List D} {k : List D → Option (α × List D)} {a : α} {S : Store} {P : α → Store → Prop} (h : S[n]? = some (.lst ds)) (hk : k ds = some (a, es)) (p : P a (S.set n (.lst es))) : Does (onR (.ref n) k) S P := by
  refine ⟨a, _, ?_, p⟩
  show (match S[n]? with
    | some (.lst ds) => (k ds).map fun (p : α × List D) => ((Rs.ok p.1 : Rs α), S.set n (SO.lst p.2))
    | _ => none) = _
  rw [h]
  dsimp only
  rw [hk]; rfl
theorem does_st {n j : Nat} {ds : List D} {i : Int} {d : D} {ρ : Tl.Env} {S : Store} {P : Tl.Env → Store → Prop} (h : S[n]? = some (.lst ds)) (hj : ixN ds.length i = some j) (p : P ρ (S.set n (.lst (ds.set j d)))) : Does (stD (.ref n) (.int i) d ρ) S P := by
  refine does_onR h ?_ p
  rw [hj]
theorem does_mt {n : Nat} {ds : List D} {k : D → List D → Option (D × List D)} {f g : Ev} {ρ : Tl.Env} {S : Store} {P : D → Store → Prop} (h1 : Vl (f ρ) S (.ref n)) (h : S[n]? = some (.lst ds)) (h2 : Does (g ρ) S fun d S2 => ∃ a ds2 es, S2[n]? = some (.lst ds2) ∧ k d ds2 = some (a, es) ∧ P a (S2.set n (.lst es))) : Does (mMt k f g ρ) S P := by
  unfold mMt
  rw [does_bind]
  refine Does.of h1 ?_
  rw [does_bind]
  refine Does.of (S' := S) (a := ()) ?_ ?_
  · show (match S[n]? with
      | some (.lst _) => some ((Rs.ok () : Rs Unit), S)
      | _ => none) = _
    rw [h]
  · rw [does_bind]
    exact h2.imp fun d S2 ⟨a, ds2, es, e1, e2, p⟩ => does_onR e1 e2 p
theorem isD_non {d : D} : isD true d .non = M.ret (.bl (!Tl.isNon d)) := by cases d <;> rfl
theorem mod_ok {i j : Int} {S : Store} {P : D → Store → Prop} (h : 0 < j) (p : P (.int (i % j)) S) : Does (modD (.int i) (.int j)) S P := by
  show Does (if 0 < j then M.ret (D.int (i % j)) else _) S P
  rw [if_pos h]; exact does_ret.mpr p
theorem set_get {S : Store} {i : Nat} {o : SO} (h : i < S.length) : (S.set i o)[i]? = some o := by simp [h]
theorem set_ne {S : Store} {i j : Nat} {o : SO} (h : i ≠ j) : (S.set i o)[j]? = S[j]? := List.getElem?_set_ne h
theorem int_ok {i : Int} {S : Store} {P : D → Store → Prop} (p : P (.int i) S) : Does (intD [.int i]) S P := does_ret.mpr p
theorem fdiv_ok' {t g : Int} {S : Store} {P : D → Store → Prop} (h : 0 < g) (hl : g.natAbs < 2 ^ 40) (p : P (.int (t / g)) S) : Does (fdivD (.int t) (.int g)) S P := fdiv_ok h (Nat.lt_of_lt_of_le hl (Nat.pow_le_pow_right (by decide) (by decide))) p
theorem does_at0 {d : D} {ds : List D} {S : Store} {P : D → Store → Prop} (p : P d S) : Does (getAt (d :: ds) 0) S P := by
  unfold getAt
  have : atI (d :: ds) 0 = some d := by simp [atI, ixN]
  rw [this]
  exact does_ret.mpr p
theorem pick_ok : IsPick B_l_pick := by
  intro c n S hb hc hn hn2
  have hc' : c < 2 ^ 200 := hc
  obtain ⟨seed, cnt, al, gs, h0, h1, hal, hs0, hs1, hc0, hc1, hg⟩ := hb.ex
  have hl := hb.two
  unfold B_l_pick
  simp only [does_body, do_seq, do_ret, do_retN, do_if, do_asg, do_par, do_expr, do_skip, do_tg, does_ret, does_bind, does_noX, does_call, startD, mOp, mB, mAnd, mOr, mNot, mIte, mChain, mC, mVar, lCons, lNil, mTup, mLst, mCl, mIsi, mSl, oSome, oNo, mNeg, mYes, mIt, gNm, gTp, gsCons, gsNil, tyNm, List.map_cons, List.map_nil, List.length_cons, List.length_nil, List.replicate, List.cons_append, List.nil_append, List.append_nil, List.getElem?_cons_zero, List.getElem?_cons_succ, List.set_cons_zero, List.set_cons_succ, Option.bind_some, if_true, Nat.reduceSub, Nat.reduceAdd, Nat.reduceEqDiff, if_pos, lenD, ordD, wipeD, Nat.sub_self, Nat.add_one_sub_one, reduceIte, Option.bind, gSubD]
  refine does_ixr h1 (does_ret.mpr ?_)
  rw [isD_non, does_ret]
  rcases hal with rfl | ⟨a, rfl⟩
  · simp only [Tl.isNon, Bool.not_true, does_body, do_seq, do_ret, do_retN, do_if, do_asg, do_par, do_expr, do_skip, do_tg, does_ret, does_bind, does_noX, does_call, startD, mOp, mB, mAnd, mOr, mNot, mIte, mChain, mC, mVar, lCons, lNil, mTup, mLst, mCl, mIsi, mSl, oSome, oNo, mNeg, mYes, mIt, gNm, gTp, gsCons, gsNil, tyNm, List.map_cons, List.map_nil, List.length_cons, List.length_nil, List.replicate, List.cons_append, List.nil_append, List.append_nil, List.getElem?_cons_zero, List.getElem?_cons_succ, List.set_cons_zero, List.set_cons_succ, Option.bind_some, if_true, Nat.reduceSub, Nat.reduceAdd, Nat.reduceEqDiff, if_pos, lenD, ordD, wipeD, Nat.sub_self, Nat.add_one_sub_one, reduceIte, Option.bind]
    refine does_ixr h1 (does_ret.mpr ?_)
    try simp only [does_body, do_seq, do_ret, do_retN, do_if, do_asg, do_par, do_expr, do_skip, do_tg, does_ret, does_bind, does_noX, does_call, startD, mOp, mB, mAnd, mOr, mNot, mIte, mChain, mC, mVar, lCons, lNil, mTup, mLst, mCl, mIsi, mSl, oSome, oNo, mNeg, mYes, mIt, gNm, gTp, gsCons, gsNil, tyNm, List.map_cons, List.map_nil, List.length_cons, List.length_nil, List.replicate, List.cons_append, List.nil_append, List.append_nil, List.getElem?_cons_zero, List.getElem?_cons_succ, List.set_cons_zero, List.set_cons_succ, Option.bind_some, if_true, Nat.reduceSub, Nat.reduceAdd, Nat.reduceEqDiff, if_pos, lenD, ordD, wipeD, Nat.sub_self, Nat.add_one_sub_one, reduceIte, Option.bind]
    refine add_ok (does_st (j := 1) h1 rfl ?_)
    try simp only [does_body, do_seq, do_ret, do_retN, do_if, do_asg, do_par, do_expr, do_skip, do_tg, does_ret, does_bind, does_noX, does_call, startD, mOp, mB, mAnd, mOr, mNot, mIte, mChain, mC, mVar, lCons, lNil, mTup, mLst, mCl, mIsi, mSl, oSome, oNo, mNeg, mYes, mIt, gNm, gTp, gsCons, gsNil, tyNm, List.map_cons, List.map_nil, List.length_cons, List.length_nil, List.replicate, List.cons_append, List.nil_append, List.append_nil, List.getElem?_cons_zero, List.getElem?_cons_succ, List.set_cons_zero, List.set_cons_succ, Option.bind_some, if_true, Nat.reduceSub, Nat.reduceAdd, Nat.reduceEqDiff, if_pos, lenD, ordD, wipeD, Nat.sub_self, Nat.add_one_sub_one, reduceIte, Option.bind]
    have k1 : (S.set 1 (SO.lst [.int seed, .int (cnt + 1), .ref 0, .non]))[1]? = some (.lst [.int seed, .int (cnt + 1), .ref 0, .non]) := set_get (by omega)
    have k0 : (S.set 1 (SO.lst [.int seed, .int (cnt + 1), .ref 0, .non]))[0]? = some (.lst (gs.map .int)) := by rw [set_ne (by decide)]; exact h0
    have kp : Kp [0, 1] S (S.set 1 (SO.lst [.int seed, .int (cnt + 1), .ref 0, .non])) := Kp.set (by simp)
    have kl : (S.set 1 (SO.lst [.int seed, .int (cnt + 1), .ref 0, .non])).length = S.length := by simp
    generalize (S.set 1 (SO.lst [.int seed, .int (cnt + 1), .ref 0, .non])) = S1 at *
    refine does_ixr k1 (does_ret.mpr ?_)
    try simp only [does_body, do_seq, do_ret, do_retN, do_if, do_asg, do_par, do_expr, do_skip, do_tg, does_ret, does_bind, does_noX, does_call, startD, mOp, mB, mAnd, mOr, mNot, mIte, mChain, mC, mVar, lCons, lNil, mTup, mLst, mCl, mIsi, mSl, oSome, oNo, mNeg, mYes, mIt, gNm, gTp, gsCons, gsNil, tyNm, List.map_cons, List.map_nil, List.length_cons, List.length_nil, List.replicate, List.cons_append, List.nil_append, List.append_nil, List.getElem?_cons_zero, List.getElem?_cons_succ, List.set_cons_zero, List.set_cons_succ, Option.bind_some, if_true, Nat.reduceSub, Nat.reduceAdd, Nat.reduceEqDiff, if_pos, lenD, ordD, wipeD, Nat.sub_self, Nat.add_one_sub_one, reduceIte, Option.bind]
    refine does_lenr k0 ?_
    cases gs with
    | nil =>
      simp only [List.map_nil, List.length_nil, does_body, do_seq, do_ret, do_retN, do_if, do_asg, do_par, do_expr, do_skip, do_tg, does_ret, does_bind, does_noX, does_call, startD, mOp, mB, mAnd, mOr, mNot, mIte, mChain, mC, mVar, lCons, lNil, mTup, mLst, mCl, mIsi, mSl, oSome, oNo, mNeg, mYes, mIt, gNm, gTp, gsCons, gsNil, tyNm, List.map_cons, List.map_nil, List.length_cons, List.length_nil, List.replicate, List.cons_append, List.nil_append, List.append_nil, List.getElem?_cons_zero, List.getElem?_cons_succ, List.set_cons_zero, List.set_cons_succ, Option.bind_some, if_true, Nat.reduceSub, Nat.reduceAdd, Nat.reduceEqDiff, if_pos, lenD, ordD, wipeD, Nat.sub_self, Nat.add_one_sub_one, reduceIte, Option.bind]
      rw [show decide ((0 : Int) < ((0 : Nat) : Int)) = false from rfl]
      try simp only [does_body, do_seq, do_ret, do_retN, do_if, do_asg, do_par, do_expr, do_skip, do_tg, does_ret, does_bind, does_noX, does_call, startD, mOp, mB, mAnd, mOr, mNot, mIte, mChain, mC, mVar, lCons, lNil, mTup, mLst, mCl, mIsi, mSl, oSome, oNo, mNeg, mYes, mIt, gNm, gTp, gsCons, gsNil, tyNm, List.map_cons, List.map_nil, List.length_cons, List.length_nil, List.replicate, List.cons_append, List.nil_append, List.append_nil, List.getElem?_cons_zero, List.getElem?_cons_succ, List.set_cons_zero, List.set_cons_succ, Option.bind_some, if_true, Nat.reduceSub, Nat.reduceAdd, Nat.reduceEqDiff, if_pos, lenD, ordD, wipeD, Nat.sub_self, Nat.add_one_sub_one, reduceIte, Option.bind]
      refine does_ixr k1 (does_ret.mpr (does_ixr k1 (does_ret.mpr ?_)))
      have b1 : (cnt + 1).natAbs < 2 ^ 210 := by omega
      refine mul_ok (k := 210) (by decide) b1 (by decide) (by decide) (add_ok ?_)
      have b2 : (seed + 7919 * (cnt + 1)).natAbs < 2 ^ 230 := by omega
      refine mul_ok (k := 230) b2 (by decide) (by decide) (by decide) (int_ok (mod_ok (by decide) ?_))
      have m1 : 0 ≤ (seed + 7919 * (cnt + 1)) * 48271 % 2147483647 := Int.emod_nonneg _ (by decide)
      have m2 : (seed + 7919 * (cnt + 1)) * 48271 % 2147483647 < 2147483647 := Int.emod_lt_of_pos _ (by decide)
      generalize (seed + 7919 * (cnt + 1)) * 48271 % 2147483647 = x at *
      refine fdiv_ok' (by decide) (by decide) (add_ok ?_)
      have d1 : 0 ≤ x / 1009 := Int.ediv_nonneg m1 (by decide)
      have d2 : x / 1009 ≤ x := Int.ediv_le_self _ m1
      refine mul_ok (k := 50) (by omega) (by omega) (by decide) (by decide) (int_ok (mod_ok (by decide) ?_))
      have m3 : 0 ≤ x * (x / 1009 + 69621) % 2147483647 := Int.emod_nonneg _ (by decide)
      have m4 : x * (x / 1009 + 69621) % 2147483647 < 2147483647 := Int.emod_lt_of_pos _ (by decide)
      generalize x * (x / 1009 + 69621) % 2147483647 = y at *
      refine fdiv_ok' (by decide) (by decide) (add_ok ?_)
      have d3 : 0 ≤ y / 2003 := Int.ediv_nonneg m3 (by decide)
      have d4 : y / 2003 ≤ y := Int.ediv_le_self _ m3
      refine mul_ok (k := 50) (by omega) (by omega) (by decide) (by decide) (int_ok (mod_ok (by decide) ?_))
      refine fdiv_ok' (by decide) (by decide) (int_ok (mod_ok hn ?_))
      refine ⟨⟨_, rfl, Int.emod_nonneg _ (by omega), Int.emod_lt_of_pos _ hn⟩, ⟨seed, cnt + 1, .non, [], k0, k1, .inl rfl, hs0, hs1, by omega, by omega, by simp⟩, kp, kl⟩
    | cons g gs =>
      simp only [List.map_cons, List.length_cons, does_body, do_seq, do_ret, do_retN, do_if, do_asg, do_par, do_expr, do_skip, do_tg, does_ret, does_bind, does_noX, does_call, startD, mOp, mB, mAnd, mOr, mNot, mIte, mChain, mC, mVar, lCons, lNil, mTup, mLst, mCl, mIsi, mSl, oSome, oNo, mNeg, mYes, mIt, gNm, gTp, gsCons, gsNil, tyNm, List.map_cons, List.map_nil, List.length_cons, List.length_nil, List.replicate, List.cons_append, List.nil_append, List.append_nil, List.getElem?_cons_zero, List.getElem?_cons_succ, List.set_cons_zero, List.set_cons_succ, Option.bind_some, if_true, Nat.reduceSub, Nat.reduceAdd, Nat.reduceEqDiff, if_pos, lenD, ordD, wipeD, Nat.sub_self, Nat.add_one_sub_one, reduceIte, Option.bind]
      rw [show decide ((0 : Int) < ((List.length (List.map D.int gs) + 1 : Nat) : Int)) = true from decide_eq_true (by omega)]
      try simp only [does_body, do_seq, do_ret, do_retN, do_if, do_asg, do_par, do_expr, do_skip, do_tg, does_ret, does_bind, does_noX, does_call, startD, mOp, mB, mAnd, mOr, mNot, mIte, mChain, mC, mVar, lCons, lNil, mTup, mLst, mCl, mIsi, mSl, oSome, oNo, mNeg, mYes, mIt, gNm, gTp, gsCons, gsNil, tyNm, List.map_cons, List.map_nil, List.length_cons, List.length_nil, List.replicate, List.cons_append, List.nil_append, List.append_nil, List.getElem?_cons_zero, List.getElem?_cons_succ, List.set_cons_zero, List.set_cons_succ, Option.bind_some, if_true, Nat.reduceSub, Nat.reduceAdd, Nat.reduceEqDiff, if_pos, lenD, ordD, wipeD, Nat.sub_self, Nat.add_one_sub_one, reduceIte, Option.bind]
      refine does_ixr k0 (does_at0 (int_ok (mod_ok hn ?_)))
      refine does_ixr k0 (does_at0 (int_ok (fdiv_ok' hn (by omega) (does_st (j := 0) k0 (by simp [ixN]) ?_))))
      have e0 : (List.map D.int (g :: gs)).set 0 (D.int (g / n)) = .int (g / n) :: gs.map D.int := rfl
      rw [e0]
      have j0 : (S1.set 0 (SO.lst (.int (g / n) :: gs.map D.int)))[0]? = some (.lst (.int (g / n) :: gs.map D.int)) := set_get (by omega)
      have j1 : (S1.set 0 (SO.lst (.int (g / n) :: gs.map D.int)))[1]? = some (.lst [.int seed, .int (cnt + 1), .ref 0, .non]) := by rw [set_ne (by decide)]; exact k1
      have jp : Kp [0, 1] S (S1.set 0 (SO.lst (.int (g / n) :: gs.map D.int))) := kp.trans (Kp.set (by simp))
      have jl : (S1.set 0 (SO.lst (.int (g / n) :: gs.map D.int))).length = S.length := by simp [kl]
      generalize S1.set 0 (SO.lst (.int (g / n) :: gs.map D.int)) = S2 at *
      try simp only [does_body, do_seq, do_ret, do_retN, do_if, do_asg, do_par, do_expr, do_skip, do_tg, does_ret, does_bind, does_noX, does_call, startD, mOp, mB, mAnd, mOr, mNot, mIte, mChain, mC, mVar, lCons, lNil, mTup, mLst, mCl, mIsi, mSl, oSome, oNo, mNeg, mYes, mIt, gNm, gTp, gsCons, gsNil, tyNm, List.map_cons, List.map_nil, List.length_cons, List.length_nil, List.replicate, List.cons_append, List.nil_append, List.append_nil, List.getElem?_cons_zero, List.getElem?_cons_succ, List.set_cons_zero, List.set_cons_succ, Option.bind_some, if_true, Nat.reduceSub, Nat.reduceAdd, Nat.reduceEqDiff, if_pos, lenD, ordD, wipeD, Nat.sub_self, Nat.add_one_sub_one, reduceIte, Option.bind]
      refine does_ixr j0 (does_at0 ?_)
      rw [eq_int, does_ret]
      have post : ∀ i : Int, i = g % n → ∃ j : Int, D.int i = .int j ∧ 0 ≤ j ∧ j < n := fun i e => ⟨i, rfl, by rw [e]; exact Int.emod_nonneg _ (by omega), by rw [e]; exact Int.emod_lt_of_pos _ hn⟩
      cases hz : (g / n == 0) with
      | false =>
        try simp only [does_body, do_seq, do_ret, do_retN, do_if, do_asg, do_par, do_expr, do_skip, do_tg, does_ret, does_bind, does_noX, does_call, startD, mOp, mB, mAnd, mOr, mNot, mIte, mChain, mC, mVar, lCons, lNil, mTup, mLst, mCl, mIsi, mSl, oSome, oNo, mNeg, mYes, mIt, gNm, gTp, gsCons, gsNil, tyNm, List.map_cons, List.map_nil, List.length_cons, List.length_nil, List.replicate, List.cons_append, List.nil_append, List.append_nil, List.getElem?_cons_zero, List.getElem?_cons_succ, List.set_cons_zero, List.set_cons_succ, Option.bind_some, if_true, Nat.reduceSub, Nat.reduceAdd, Nat.reduceEqDiff, if_pos, lenD, ordD, wipeD, Nat.sub_self, Nat.add_one_sub_one, reduceIte, Option.bind]
        exact ⟨post _ rfl, ⟨seed, cnt + 1, .non, g / n :: gs, j0, j1, .inl rfl, hs0, hs1, by omega, by omega, by simpa using hg⟩, jp, jl⟩
      | true =>
        try simp only [does_body, do_seq, do_ret, do_retN, do_if, do_asg, do_par, do_expr, do_skip, do_tg, does_ret, does_bind, does_noX, does_call, startD, mOp, mB, mAnd, mOr, mNot, mIte, mChain, mC, mVar, lCons, lNil, mTup, mLst, mCl, mIsi, mSl, oSome, oNo, mNeg, mYes, mIt, gNm, gTp, gsCons, gsNil, tyNm, List.map_cons, List.map_nil, List.length_cons, List.length_nil, List.replicate, List.cons_append, List.nil_append, List.append_nil, List.getElem?_cons_zero, List.getElem?_cons_succ, List.set_cons_zero, List.set_cons_succ, Option.bind_some, if_true, Nat.reduceSub, Nat.reduceAdd, Nat.reduceEqDiff, if_pos, lenD, ordD, wipeD, Nat.sub_self, Nat.add_one_sub_one, reduceIte, Option.bind]
        refine does_mt (n := 0) rfl j0 (does_ret.mpr ⟨_, _, gs.map D.int, j0, rfl, ?_⟩)
        have i0 : (S2.set 0 (SO.lst (gs.map D.int)))[0]? = some (.lst (gs.map D.int)) := set_get (by omega)
        have i1 : (S2.set 0 (SO.lst (gs.map D.int)))[1]? = some (.lst [.int seed, .int (cnt + 1), .ref 0, .non]) := by rw [set_ne (by decide)]; exact j1
        exact ⟨post _ rfl, ⟨seed, cnt + 1, .non, gs, i0, i1, .inl rfl, hs0, hs1, by omega, by omega, by simp at hg; omega⟩, jp.trans (Kp.set (by simp)), by simp [jl]⟩
  · simp only [Tl.isNon, Bool.not_false, does_body, do_seq, do_ret, do_retN, do_if, do_asg, do_par, do_expr, do_skip, do_tg, does_ret, does_bind, does_noX, does_call, startD, mOp, mB, mAnd, mOr, mNot, mIte, mChain, mC, mVar, lCons, lNil, mTup, mLst, mCl, mIsi, mSl, oSome, oNo, mNeg, mYes, mIt, gNm, gTp, gsCons, gsNil, tyNm, List.map_cons, List.map_nil, List.length_cons, List.length_nil, List.replicate, List.cons_append, List.nil_append, List.append_nil, List.getElem?_cons_zero, List.getElem?_cons_succ, List.set_cons_zero, List.set_cons_succ, Option.bind_some, if_true, Nat.reduceSub, Nat.reduceAdd, Nat.reduceEqDiff, if_pos, lenD, ordD, wipeD, Nat.sub_self, Nat.add_one_sub_one, reduceIte, Option.bind]
    refine does_ixr h1 (does_ret.mpr (int_ok (mod_ok hn ?_)))
    exact ⟨⟨_, rfl, Int.emod_nonneg _ (by omega), Int.emod_lt_of_pos _ hn⟩, hb.mono (by omega), Kp.refl, rfl⟩
theorem getAt_i {ds : List D} {i : Nat} {d : D} {S : Store} {P : D → Store → Prop} (h : ds[i]? = some d) (p : P d S) : Does (getAt ds (i : Int)) S P := by
  have hi : i < ds.length := (List.getElem?_eq_some_iff.mp h).1
  unfold getAt
  have : atI ds (i : Int) = some d := by
    unfold atI ixN
    rw [if_pos (by omega), if_pos (by omega)]
    simpa using h
  rw [this]
  exact does_ret.mpr p
def IsSome (f : Fnd) : Prop := ∀ (c : Nat) (ds : List D) S, Bag c S → c < LIM → 0 < ds.length → ds.length < 1000000 → Does (f [.ref 1, .lst ds]) S fun v S' => v ∈ ds ∧ Bag (c + 1) S' ∧ Kp [0, 1] S S'
theorem some_ok {p : Fnd} (hp : IsPick p) : IsSome (B_l_some p) := by
  intro c ds S hb hc h0 h1
  unfold B_l_some
  simp only [does_body, do_seq, do_ret, do_retN, do_if, do_asg, do_par, do_expr, do_skip, do_tg, does_ret, does_bind, does_noX, does_call, startD, mOp, mB, mAnd, mOr, mNot, mIte, mChain, mC, mVar, lCons, lNil, mTup, mLst, mCl, mIsi, mSl, oSome, oNo, mNeg, mYes, mIt, gNm, gTp, gsCons, gsNil, tyNm, List.map_cons, List.map_nil, List.length_cons, List.length_nil, List.replicate, List.cons_append, List.nil_append, List.append_nil, List.getElem?_cons_zero, List.getElem?_cons_succ, List.set_cons_zero, List.set_cons_succ, Option.bind_some, if_true, Nat.reduceSub, Nat.reduceAdd, Nat.reduceEqDiff, if_pos, lenD, ordD, wipeD, Nat.sub_self, Nat.add_one_sub_one, reduceIte, Option.bind]
  refine (hp c ds.length S hb hc (by omega) (by omega)).imp fun v S' ⟨⟨i, e, i0, i1⟩, b, k, _⟩ => ?_
  subst e
  obtain ⟨j, rfl⟩ : ∃ j : Nat, i = j := ⟨i.toNat, by omega⟩
  have hj : j < ds.length := by omega
  show Does (getAt ds (j : Int)) S' _
  exact getAt_i (List.getElem?_eq_getElem hj) ⟨List.getElem_mem hj, b, k⟩
/-- the bag of a script -/
def IsBag (f : Fnd) : Prop := ∀ ns : List Int, ns.length ≤ 63 → Does (f [.scr ns]) [] fun v S' => v = .ref 1 ∧ Bag 1 S'
theorem abs_ok {i : Int} {S : Store} {P : D → Store → Prop} (p : P (.int (i.natAbs : Int)) S) : Does (absD [.int i]) S P := by
  refine ⟨.int (i.natAbs : Int), S, ?_, p⟩
  show some ((Rs.ok (.int (if i < 0 then -i else i)) : Rs D), S) = _
  have : (if i < 0 then -i else i) = (i.natAbs : Int) := by split <;> omega
  rw [this]
theorem pow18 {S : Store} {P : D → Store → Prop} (p : P (.int (10 ^ 18)) S) : Does (powD (.int 10) (.int 18)) S P := by
  show Does (if 0 ≤ (18 : Int) ∧ (18 : Int) ≤ 1000000 ∧ (10 : Int).natAbs < 2 ^ 64 then M.ret (D.int (10 ^ (18 : Int).toNat)) else M.stuck) S P
  rw [if_pos (by decide)]; exact does_ret.mpr p
theorem map_int_get {ns : List Int} {i : Nat} {d : D} (h : (ns.map D.int)[i]? = some d) : ∃ z, d = .int z := by
  rw [List.getElem?_map] at h
  cases e : ns[i]? with
  | none => rw [e] at h; cases h
  | some z => rw [e] at h; cases h; exact ⟨z, rfl⟩
theorem cut_len {ns : List Int} {lo hi : Option Int} : (cutL ns lo hi).length ≤ ns.length := by
  unfold cutL; rw [List.length_take, List.length_drop]; omega
theorem bag_ok : IsBag B_l_bag := by
  intro ns hl
  unfold B_l_bag
  simp only [does_body, do_seq, do_ret, do_retN, do_if, do_asg, do_par, do_expr, do_skip, do_tg, does_ret, does_bind, does_noX, does_call, startD, mOp, mB, mAnd, mOr, mNot, mIte, mChain, mC, mVar, lCons, lNil, mTup, mLst, mCl, mIsi, mSl, oSome, oNo, mNeg, mYes, mIt, gNm, gTp, gsCons, gsNil, tyNm, List.map_cons, List.map_nil, List.length_cons, List.length_nil, List.replicate, List.cons_append, List.nil_append, List.append_nil, List.getElem?_cons_zero, List.getElem?_cons_succ, List.set_cons_zero, List.set_cons_succ, Option.bind_some, if_true, Nat.reduceSub, Nat.reduceAdd, Nat.reduceEqDiff, if_pos, lenD, ordD, wipeD, Nat.sub_self, Nat.add_one_sub_one, reduceIte, Option.bind, slD]
  refine add_ok ?_
  try simp only [does_body, do_seq, do_ret, do_retN, do_if, do_asg, do_par, do_expr, do_skip, do_tg, does_ret, does_bind, does_noX, does_call, startD, mOp, mB, mAnd, mOr, mNot, mIte, mChain, mC, mVar, lCons, lNil, mTup, mLst, mCl, mIsi, mSl, oSome, oNo, mNeg, mYes, mIt, gNm, gTp, gsCons, gsNil, tyNm, List.map_cons, List.map_nil, List.length_cons, List.length_nil, List.replicate, List.cons_append, List.nil_append, List.append_nil, List.getElem?_cons_zero, List.getElem?_cons_succ, List.set_cons_zero, List.set_cons_succ, Option.bind_some, if_true, Nat.reduceSub, Nat.reduceAdd, Nat.reduceEqDiff, if_pos, lenD, ordD, wipeD, Nat.sub_self, Nat.add_one_sub_one, reduceIte, Option.bind]
  refine do_for ?_
  try simp only [does_body, do_seq, do_ret, do_retN, do_if, do_asg, do_par, do_expr, do_skip, do_tg, does_ret, does_bind, does_noX, does_call, startD, mOp, mB, mAnd, mOr, mNot, mIte, mChain, mC, mVar, lCons, lNil, mTup, mLst, mCl, mIsi, mSl, oSome, oNo, mNeg, mYes, mIt, gNm, gTp, gsCons, gsNil, tyNm, List.map_cons, List.map_nil, List.length_cons, List.length_nil, List.replicate, List.cons_append, List.nil_append, List.append_nil, List.getElem?_cons_zero, List.getElem?_cons_succ, List.set_cons_zero, List.set_cons_succ, Option.bind_some, if_true, Nat.reduceSub, Nat.reduceAdd, Nat.reduceEqDiff, if_pos, lenD, ordD, wipeD, Nat.sub_self, Nat.add_one_sub_one, reduceIte, Option.bind, slD, srcOf, srcL]
  have hcl := cut_len (ns := ns) (lo := none) (hi := some 63)
  generalize hcs : cutL ns none (some 63) = cs at *
  refine ⟨cs.map D.int, fun i ρ S => S = [] ∧ ∃ (sd : Int) (x : Option D), ρ = [some (.scr ns), some (.int sd), x, none, none] ∧ 0 ≤ sd ∧ sd < 2147483648, ⟨rfl, _, _, rfl, by omega, by omega⟩, fun _ _ _ _ => reads_d, ?_, ?_⟩
  · rintro i d ρ S hd ⟨rfl, sd, x, rfl, s0, s1⟩
    obtain ⟨z, rfl⟩ := map_int_get hd
    try simp only [does_body, do_seq, do_ret, do_retN, do_if, do_asg, do_par, do_expr, do_skip, do_tg, does_ret, does_bind, does_noX, does_call, startD, mOp, mB, mAnd, mOr, mNot, mIte, mChain, mC, mVar, lCons, lNil, mTup, mLst, mCl, mIsi, mSl, oSome, oNo, mNeg, mYes, mIt, gNm, gTp, gsCons, gsNil, tyNm, List.map_cons, List.map_nil, List.length_cons, List.length_nil, List.replicate, List.cons_append, List.nil_append, List.append_nil, List.getElem?_cons_zero, List.getElem?_cons_succ, List.set_cons_zero, List.set_cons_succ, Option.bind_some, if_true, Nat.reduceSub, Nat.reduceAdd, Nat.reduceEqDiff, if_pos, lenD, ordD, wipeD, Nat.sub_self, Nat.add_one_sub_one, reduceIte, Option.bind]
    refine mul_ok (k := 40) (by omega) (by decide) (by decide) (by decide) (int_ok (mod_ok (by decide) (add_ok (add_ok (int_ok (mod_ok (by decide) ?_))))))
    try simp only [does_body, do_seq, do_ret, do_retN, do_if, do_asg, do_par, do_expr, do_skip, do_tg, does_ret, does_bind, does_noX, does_call, startD, mOp, mB, mAnd, mOr, mNot, mIte, mChain, mC, mVar, lCons, lNil, mTup, mLst, mCl, mIsi, mSl, oSome, oNo, mNeg, mYes, mIt, gNm, gTp, gsCons, gsNil, tyNm, List.map_cons, List.map_nil, List.length_cons, List.length_nil, List.replicate, List.cons_append, List.nil_append, List.append_nil, List.getElem?_cons_zero, List.getElem?_cons_succ, List.set_cons_zero, List.set_cons_succ, Option.bind_some, if_true, Nat.reduceSub, Nat.reduceAdd, Nat.reduceEqDiff, if_pos, lenD, ordD, wipeD, Nat.sub_self, Nat.add_one_sub_one, reduceIte, Option.bind]
    exact ⟨trivial, _, _, rfl, Int.emod_nonneg _ (by decide), by have := Int.emod_lt_of_pos (sd * 69621 + z % 1000003 + 7) (show (0 : Int) < 2147483647 by decide); omega⟩
  · rintro ρ S ⟨rfl, sd, x, rfl, s0, s1⟩
    try simp only [does_body, do_seq, do_ret, do_retN, do_if, do_asg, do_par, do_expr, do_skip, do_tg, does_ret, does_bind, does_noX, does_call, startD, mOp, mB, mAnd, mOr, mNot, mIte, mChain, mC, mVar, lCons, lNil, mTup, mLst, mCl, mIsi, mSl, oSome, oNo, mNeg, mYes, mIt, gNm, gTp, gsCons, gsNil, tyNm, List.map_cons, List.map_nil, List.length_cons, List.length_nil, List.replicate, List.cons_append, List.nil_append, List.append_nil, List.getElem?_cons_zero, List.getElem?_cons_succ, List.set_cons_zero, List.set_cons_succ, Option.bind_some, if_true, Nat.reduceSub, Nat.reduceAdd, Nat.reduceEqDiff, if_pos, lenD, ordD, wipeD, Nat.sub_self, Nat.add_one_sub_one, reduceIte, Option.bind]
    refine does_lcR (does_lc ?_)
    try simp only [does_body, do_seq, do_ret, do_retN, do_if, do_asg, do_par, do_expr, do_skip, do_tg, does_ret, does_bind, does_noX, does_call, startD, mOp, mB, mAnd, mOr, mNot, mIte, mChain, mC, mVar, lCons, lNil, mTup, mLst, mCl, mIsi, mSl, oSome, oNo, mNeg, mYes, mIt, gNm, gTp, gsCons, gsNil, tyNm, List.map_cons, List.map_nil, List.length_cons, List.length_nil, List.replicate, List.cons_append, List.nil_append, List.append_nil, List.getElem?_cons_zero, List.getElem?_cons_succ, List.set_cons_zero, List.set_cons_succ, Option.bind_some, if_true, Nat.reduceSub, Nat.reduceAdd, Nat.reduceEqDiff, if_pos, lenD, ordD, wipeD, Nat.sub_self, Nat.add_one_sub_one, reduceIte, Option.bind, slD, srcOf, srcL]
    rw [hcs]
    refine ⟨cs.map D.int, fun i acc S => S = [] ∧ ∃ gs : List Int, acc = gs.map D.int ∧ gs.length ≤ i, ⟨rfl, [], rfl, by simp⟩, fun _ _ _ _ => reads_d, ?_, ?_⟩
    · rintro i d acc S hd ⟨rfl, gs, rfl, hg⟩
      have hi := (List.getElem?_eq_some_iff.mp hd).1
      rw [List.length_map] at hi
      obtain ⟨z, rfl⟩ := map_int_get hd
      try simp only [does_body, do_seq, do_ret, do_retN, do_if, do_asg, do_par, do_expr, do_skip, do_tg, does_ret, does_bind, does_noX, does_call, startD, mOp, mB, mAnd, mOr, mNot, mIte, mChain, mC, mVar, lCons, lNil, mTup, mLst, mCl, mIsi, mSl, oSome, oNo, mNeg, mYes, mIt, gNm, gTp, gsCons, gsNil, tyNm, List.map_cons, List.map_nil, List.length_cons, List.length_nil, List.replicate, List.cons_append, List.nil_append, List.append_nil, List.getElem?_cons_zero, List.getElem?_cons_succ, List.set_cons_zero, List.set_cons_succ, Option.bind_some, if_true, Nat.reduceSub, Nat.reduceAdd, Nat.reduceEqDiff, if_pos, lenD, ordD, wipeD, Nat.sub_self, Nat.add_one_sub_one, reduceIte, Option.bind]
      refine int_ok (abs_ok (pow18 ?_))
      try simp only [does_body, do_seq, do_ret, do_retN, do_if, do_asg, do_par, do_expr, do_skip, do_tg, does_ret, does_bind, does_noX, does_call, startD, mOp, mB, mAnd, mOr, mNot, mIte, mChain, mC, mVar, lCons, lNil, mTup, mLst, mCl, mIsi, mSl, oSome, oNo, mNeg, mYes, mIt, gNm, gTp, gsCons, gsNil, tyNm, List.map_cons, List.map_nil, List.length_cons, List.length_nil, List.replicate, List.cons_append, List.nil_append, List.append_nil, List.getElem?_cons_zero, List.getElem?_cons_succ, List.set_cons_zero, List.set_cons_succ, Option.bind_some, if_true, Nat.reduceSub, Nat.reduceAdd, Nat.reduceEqDiff, if_pos, lenD, ordD, wipeD, Nat.sub_self, Nat.add_one_sub_one, reduceIte, Option.bind]
      cases decide ((10 : Int) ^ 18 ≤ (z.natAbs : Int)) with
      | true =>
        try simp only [does_body, do_seq, do_ret, do_retN, do_if, do_asg, do_par, do_expr, do_skip, do_tg, does_ret, does_bind, does_noX, does_call, startD, mOp, mB, mAnd, mOr, mNot, mIte, mChain, mC, mVar, lCons, lNil, mTup, mLst, mCl, mIsi, mSl, oSome, oNo, mNeg, mYes, mIt, gNm, gTp, gsCons, gsNil, tyNm, List.map_cons, List.map_nil, List.length_cons, List.length_nil, List.replicate, List.cons_append, List.nil_append, List.append_nil, List.getElem?_cons_zero, List.getElem?_cons_succ, List.set_cons_zero, List.set_cons_succ, Option.bind_some, if_true, Nat.reduceSub, Nat.reduceAdd, Nat.reduceEqDiff, if_pos, lenD, ordD, wipeD, Nat.sub_self, Nat.add_one_sub_one, reduceIte, Option.bind]
        refine int_ok (abs_ok ⟨by rw [List.length_map]; omega, rfl, gs ++ [(z.natAbs : Int)], by simp, by simp; omega⟩)
      | false => exact ⟨trivial, gs, rfl, by omega⟩
    · rintro acc S ⟨rfl, gs, rfl, hg⟩
      rw [List.length_map] at hg
      refine ⟨_, rfl, ?_⟩
      try simp only [does_body, do_seq, do_ret, do_retN, do_if, do_asg, do_par, do_expr, do_skip, do_tg, does_ret, does_bind, does_noX, does_call, startD, mOp, mB, mAnd, mOr, mNot, mIte, mChain, mC, mVar, lCons, lNil, mTup, mLst, mCl, mIsi, mSl, oSome, oNo, mNeg, mYes, mIt, gNm, gTp, gsCons, gsNil, tyNm, List.map_cons, List.map_nil, List.length_cons, List.length_nil, List.replicate, List.cons_append, List.nil_append, List.append_nil, List.getElem?_cons_zero, List.getElem?_cons_succ, List.set_cons_zero, List.set_cons_succ, Option.bind_some, if_true, Nat.reduceSub, Nat.reduceAdd, Nat.reduceEqDiff, if_pos, lenD, ordD, wipeD, Nat.sub_self, Nat.add_one_sub_one, reduceIte, Option.bind]
      have fin : ∀ (al : D) (S : Store), S = [SO.lst (gs.map D.int)] → (al = .non ∨ ∃ a, al = .int a) → Does (mNew (lCons (mVar 1) (lCons (mC (.int 1)) (lCons (mVar 3) (lCons (mVar 4) lNil)))) [some (.scr ns), some (.int sd), x, some (.ref 0), some al]) S fun d S1 => d = .ref 1 ∧ Bag 1 S1 := by
        rintro al S rfl hal
        unfold mNew
        try simp only [does_body, do_seq, do_ret, do_retN, do_if, do_asg, do_par, do_expr, do_skip, do_tg, does_ret, does_bind, does_noX, does_call, startD, mOp, mB, mAnd, mOr, mNot, mIte, mChain, mC, mVar, lCons, lNil, mTup, mLst, mCl, mIsi, mSl, oSome, oNo, mNeg, mYes, mIt, gNm, gTp, gsCons, gsNil, tyNm, List.map_cons, List.map_nil, List.length_cons, List.length_nil, List.replicate, List.cons_append, List.nil_append, List.append_nil, List.getElem?_cons_zero, List.getElem?_cons_succ, List.set_cons_zero, List.set_cons_succ, Option.bind_some, if_true, Nat.reduceSub, Nat.reduceAdd, Nat.reduceEqDiff, if_pos, lenD, ordD, wipeD, Nat.sub_self, Nat.add_one_sub_one, reduceIte, Option.bind]
        rw [if_pos (by simp)]
        refine ⟨_, _, rfl, rfl, sd, 1, al, gs, rfl, rfl, hal, s0, s1, by decide, by decide, by omega⟩
      show Does (M.ret (D.bl (decide ((ns.length : Int) < 2)))) _ _
      rw [does_ret]
      cases decide ((ns.length : Int) < 2) with
      | false =>
        try simp only [does_body, do_seq, do_ret, do_retN, do_if, do_asg, do_par, do_expr, do_skip, do_tg, does_ret, does_bind, does_noX, does_call, startD, mOp, mB, mAnd, mOr, mNot, mIte, mChain, mC, mVar, lCons, lNil, mTup, mLst, mCl, mIsi, mSl, oSome, oNo, mNeg, mYes, mIt, gNm, gTp, gsCons, gsNil, tyNm, List.map_cons, List.map_nil, List.length_cons, List.length_nil, List.replicate, List.cons_append, List.nil_append, List.append_nil, List.getElem?_cons_zero, List.getElem?_cons_succ, List.set_cons_zero, List.set_cons_succ, Option.bind_some, if_true, Nat.reduceSub, Nat.reduceAdd, Nat.reduceEqDiff, if_pos, lenD, ordD, wipeD, Nat.sub_self, Nat.add_one_sub_one, reduceIte, Option.bind]
        exact fin .non _ rfl (.inl rfl)
      | true =>
        try simp only [does_body, do_seq, do_ret, do_retN, do_if, do_asg, do_par, do_expr, do_skip, do_tg, does_ret, does_bind, does_noX, does_call, startD, mOp, mB, mAnd, mOr, mNot, mIte, mChain, mC, mVar, lCons, lNil, mTup, mLst, mCl, mIsi, mSl, oSome, oNo, mNeg, mYes, mIt, gNm, gTp, gsCons, gsNil, tyNm, List.map_cons, List.map_nil, List.length_cons, List.length_nil, List.replicate, List.cons_append, List.nil_append, List.append_nil, List.getElem?_cons_zero, List.getElem?_cons_succ, List.set_cons_zero, List.set_cons_succ, Option.bind_some, if_true, Nat.reduceSub, Nat.reduceAdd, Nat.reduceEqDiff, if_pos, lenD, ordD, wipeD, Nat.sub_self, Nat.add_one_sub_one, reduceIte, Option.bind]
        refine does_lenr (S := [SO.lst (gs.map D.int)]) (n := 0) rfl ?_
        rw [eq_int, does_ret]
        cases (((gs.map D.int).length : Int) == 0) with
        | false =>
          try simp only [does_body, do_seq, do_ret, do_retN, do_if, do_asg, do_par, do_expr, do_skip, do_tg, does_ret, does_bind, does_noX, does_call, startD, mOp, mB, mAnd, mOr, mNot, mIte, mChain, mC, mVar, lCons, lNil, mTup, mLst, mCl, mIsi, mSl, oSome, oNo, mNeg, mYes, mIt, gNm, gTp, gsCons, gsNil, tyNm, List.map_cons, List.map_nil, List.length_cons, List.length_nil, List.replicate, List.cons_append, List.nil_append, List.append_nil, List.getElem?_cons_zero, List.getElem?_cons_succ, List.set_cons_zero, List.set_cons_succ, Option.bind_some, if_true, Nat.reduceSub, Nat.reduceAdd, Nat.reduceEqDiff, if_pos, lenD, ordD, wipeD, Nat.sub_self, Nat.add_one_sub_one, reduceIte, Option.bind]
          exact fin .non _ rfl (.inl rfl)
        | true =>
          try simp only [does_body, do_seq, do_ret, do_retN, do_if, do_asg, do_par, do_expr, do_skip, do_tg, does_ret, does_bind, does_noX, does_call, startD, mOp, mB, mAnd, mOr, mNot, mIte, mChain, mC, mVar, lCons, lNil, mTup, mLst, mCl, mIsi, mSl, oSome, oNo, mNeg, mYes, mIt, gNm, gTp, gsCons, gsNil, tyNm, List.map_cons, List.map_nil, List.length_cons, List.length_nil, List.replicate, List.cons_append, List.nil_append, List.append_nil, List.getElem?_cons_zero, List.getElem?_cons_succ, List.set_cons_zero, List.set_cons_succ, Option.bind_some, if_true, Nat.reduceSub, Nat.reduceAdd, Nat.reduceEqDiff, if_pos, lenD, ordD, wipeD, Nat.sub_self, Nat.add_one_sub_one, reduceIte, Option.bind]
          refine does_map (s := srcD (ns.map D.int)) (ds := ns.map D.int) id (by simp only [mIt, mVar]; rfl) reads_d (by simp; omega) (fun d hd => ?_) ?_
          · obtain ⟨z, _, rfl⟩ := List.mem_map.mp hd
            try simp only [does_body, do_seq, do_ret, do_retN, do_if, do_asg, do_par, do_expr, do_skip, do_tg, does_ret, does_bind, does_noX, does_call, startD, mOp, mB, mAnd, mOr, mNot, mIte, mChain, mC, mVar, lCons, lNil, mTup, mLst, mCl, mIsi, mSl, oSome, oNo, mNeg, mYes, mIt, gNm, gTp, gsCons, gsNil, tyNm, List.map_cons, List.map_nil, List.length_cons, List.length_nil, List.replicate, List.cons_append, List.nil_append, List.append_nil, List.getElem?_cons_zero, List.getElem?_cons_succ, List.set_cons_zero, List.set_cons_succ, Option.bind_some, if_true, Nat.reduceSub, Nat.reduceAdd, Nat.reduceEqDiff, if_pos, lenD, ordD, wipeD, Nat.sub_self, Nat.add_one_sub_one, reduceIte, Option.bind]
            exact int_ok ⟨rfl, rfl⟩
          · rw [List.map_id]
            have hs : Does (sumD [.lst (ns.map D.int)]) [SO.lst (gs.map D.int)] fun a S => a = .int ns.sum ∧ S = [SO.lst (gs.map D.int)] := by
              refine ⟨_, _, ?_, rfl, rfl⟩
              have : ∀ l : List Int, asInts (l.map D.int) = some l := fun l => by
                induction l with
                | nil => rfl
                | cons a l ih => simp [asInts, ih]
              show ((asInts (ns.map D.int)).map fun ms => D.int ms.sum).map (fun d => ((Rs.ok d : Rs D), _)) = _
              rw [this]; rfl
            refine hs.imp fun a S ⟨e1, e2⟩ => ?_
            subst e1 e2
            exact abs_ok (fin _ _ rfl (.inr ⟨_, rfl⟩))
/-! ### shares -/
/-- shares that sum to one -/
def Sh (n : Nat) (ps : List (Int × Int)) : Prop := ∃ (xs : List Int), xs.length = n ∧ (∀ x ∈ xs, 0 ≤ x ∧ x ≤ 20) ∧ 0 < xs.sum ∧ ps = xs.map fun x => low x xs.sum
def IsShares (f : Fnd) : Prop := ∀ (c n : Nat) (least : Int) S, Bag c S → c + n + 1 ≤ LIM → 0 < n → n ≤ 20 → 0 ≤ least → least ≤ 10 → Does (f [.ref 1, .int n, .int least]) S fun v S' => (∃ ps, v = .lst (ps.map fr) ∧ Sh n ps) ∧ Bag (c + n + 1) S' ∧ Kp [0, 1] S S'
/-! ### fractions, by their worth -/
theorem low_scale {t b c : Int} (hc : 0 < c) : low (t * c) (b * c) = low t b := by
  unfold low
  have h : (Int.gcd (t * c) (b * c) : Int) = (Int.gcd t b : Int) * c := by
    rw [Int.gcd_mul_right]
    rw [Int.natCast_mul, show ((c.natAbs : Nat) : Int) = c by omega]
  rw [h, Int.mul_ediv_mul_of_pos_left _ _ hc, Int.mul_ediv_mul_of_pos_left _ _ hc]
theorem low_of {t b : Int} (hb : 0 < b) : ∃ g : Int, 0 < g ∧ t = (low t b).1 * g ∧ b = (low t b).2 * g := by
  refine ⟨Int.gcd t b, gcd_pos hb, ?_, ?_⟩
  · exact (Int.ediv_mul_cancel (Int.gcd_dvd_left ..)).symm
  · exact (Int.ediv_mul_cancel (Int.gcd_dvd_right ..)).symm
theorem pl_low {x y s : Int} (hs : 0 < s) : pl (low x s) (low y s) = low (x + y) s := by
  obtain ⟨g, hg, e1, e2⟩ := low_of (t := x) hs
  obtain ⟨h, hh, e3, e4⟩ := low_of (t := y) hs
  unfold pl
  rw [← low_scale (c := g * h) (Int.mul_pos hg hh)]
  have a1 : ((low x s).1 * (low y s).2 + (low y s).1 * (low x s).2) * (g * h) = (x + y) * s := by
    have q1 : (low x s).1 * (low y s).2 * (g * h) = x * s := by
      calc (low x s).1 * (low y s).2 * (g * h) = ((low x s).1 * g) * ((low y s).2 * h) := by ac_rfl
        _ = x * s := by rw [← e1, ← e4]
    have q2 : (low y s).1 * (low x s).2 * (g * h) = y * s := by
      calc (low y s).1 * (low x s).2 * (g * h) = ((low y s).1 * h) * ((low x s).2 * g) := by ac_rfl
        _ = y * s := by rw [← e3, ← e2]
    rw [Int.add_mul, q1, q2, Int.add_mul]
  have a2 : (low x s).2 * (low y s).2 * (g * h) = s * s := by
    calc (low x s).2 * (low y s).2 * (g * h) = ((low x s).2 * g) * ((low y s).2 * h) := by ac_rfl
      _ = s * s := by rw [← e2, ← e4]
  rw [a1, a2, low_scale hs]
theorem low_zero {s : Int} (hs : 0 < s) : low 0 s = (0, 1) := by
  unfold low
  have : (Int.gcd 0 s : Int) = s := by simp [Int.gcd_zero_left]; omega
  rw [this]
  simp [Int.ediv_self (show s ≠ 0 by omega)]
theorem foldl_low {s : Int} (hs : 0 < s) : ∀ (xs : List Int) (a : Int), (xs.map fun x => low x s).foldl pl (low a s) = low (a + xs.sum) s
  | [], a => by simp
  | x :: xs, a => by
    rw [List.map_cons, List.foldl_cons, pl_low hs, foldl_low hs xs, List.sum_cons]
    congr 1; omega
theorem tot_low {s : Int} (hs : 0 < s) (xs : List Int) : tot (xs.map fun x => low x s) = low xs.sum s := by
  unfold tot
  rw [← low_zero hs, foldl_low hs]
  congr 1; omega
theorem low_self {s : Int} (hs : 0 < s) : low s s = (1, 1) := by
  have := low_scale (t := 1) (b := 1) hs
  rw [Int.one_mul] at this
  rw [this]; decide
theorem low_red {p : Int × Int} (h : Int.gcd p.1 p.2 = 1) : low p.1 p.2 = p := by
  unfold low; rw [h]; simp
theorem tm_low {p : Int × Int} {x s : Int} (hs : 0 < s) : tm p (low x s) = low (p.1 * x) (p.2 * s) := by
  obtain ⟨g, hg, e1, e2⟩ := low_of (t := x) hs
  unfold tm
  rw [← low_scale (c := g) hg, Int.mul_assoc, Int.mul_assoc, ← e1, ← e2]
theorem tot_tm {p : Int × Int} (hp : 0 < p.2) (hr : Int.gcd p.1 p.2 = 1) {xs : List Int} (hs : 0 < xs.sum) : tot (xs.map fun x => tm p (low x xs.sum)) = p := by
  have e : (xs.map fun x => tm p (low x xs.sum)) = (xs.map (p.1 * ·)).map fun y => low y (p.2 * xs.sum) := by
    rw [List.map_map]
    exact List.map_congr_left fun x _ => tm_low hs
  have hm : ∀ l : List Int, (l.map (p.1 * ·)).sum = p.1 * l.sum := fun l => by
    induction l with
    | nil => simp
    | cons a l ih => simp [ih, Int.mul_add]
  rw [e, tot_low (Int.mul_pos hp hs), hm, low_scale hs, low_red hr]
theorem Sh.tot {n : Nat} {ps : List (Int × Int)} (h : Sh n ps) : tot ps = (1, 1) := by
  obtain ⟨xs, _, _, hs, rfl⟩ := h
  rw [tot_low hs, low_self hs]
/-- a chance, reduced and not great -/
structure Ch (k : Nat) (p : Int × Int) : Prop where
  n0 : 0 ≤ p.1
  nd : p.1 ≤ p.2
  d0 : 0 < p.2
  dk : p.2 ≤ 400 ^ k
  red : Int.gcd p.1 p.2 = 1
theorem low_ch {x s : Int} {k : Nat} (h0 : 0 ≤ x) (h1 : x ≤ s) (hs : 0 < s) (hk : s ≤ 400 ^ k) : Ch k (low x s) := by
  obtain ⟨g, hg, e1, e2⟩ := low_of (t := x) hs
  have g1 := gcd_pos (t := x) hs
  refine ⟨Int.ediv_nonneg h0 (Int.le_of_lt g1), ?_, low_pos hs, Int.le_trans (low_le hs) hk, low_gcd hs⟩
  exact Int.ediv_le_ediv g1 h1
theorem sum_le {xs : List Int} {k : Int} (h : ∀ x ∈ xs, x ≤ k) : xs.sum ≤ xs.length * k := by
  induction xs with
  | nil => simp
  | cons a l ih =>
    have h1 := h a List.mem_cons_self
    have h2 := ih fun x hx => h x (List.mem_cons_of_mem _ hx)
    rw [List.sum_cons, List.length_cons]
    have : ((l.length + 1 : Nat) : Int) * k = l.length * k + k := by push_cast; rw [Int.add_mul]; omega
    omega
theorem le_sum {xs : List Int} (h : ∀ x ∈ xs, 0 ≤ x) : ∀ x ∈ xs, x ≤ xs.sum := by
  induction xs with
  | nil => simp
  | cons a l ih =>
    intro x hx
    have h0 : 0 ≤ l.sum := by
      clear ih hx
      induction l with
      | nil => simp
      | cons b l ih2 =>
        rw [List.sum_cons]
        have := h b (by simp)
        have := ih2 fun y hy => h y (by simp at hy ⊢; rcases hy with h | h <;> simp [h])
        omega
    rw [List.sum_cons]
    rcases List.mem_cons.mp hx with e | e
    · subst e; omega
    · have := ih (fun y hy => h y (List.mem_cons_of_mem _ hy)) x e
      have := h a List.mem_cons_self
      omega
theorem Sh.ch {n : Nat} {ps : List (Int × Int)} (h : Sh n ps) (hn : n ≤ 20) : ∀ p ∈ ps, Ch 1 p := by
  obtain ⟨xs, hl, hx, hs, rfl⟩ := h
  intro p hp
  obtain ⟨x, hm, rfl⟩ := List.mem_map.mp hp
  have h1 := sum_le (k := 20) fun x hx' => (hx x hx').2
  refine low_ch (hx x hm).1 (le_sum (fun y hy => (hx y hy).1) x hm) hs ?_
  have : (xs.length : Int) ≤ 20 := by omega
  omega
theorem Ch.tm {j k : Nat} {p q : Int × Int} (hp : Ch j p) (hq : Ch k q) : Ch (j + k) (tm p q) := by
  refine low_ch (Int.mul_nonneg hp.n0 hq.n0) (Int.mul_le_mul hp.nd hq.nd hq.n0 (Int.le_of_lt hp.d0)) (Int.mul_pos hp.d0 hq.d0) ?_
  rw [Int.pow_add]
  exact Int.mul_le_mul hp.dk hq.dk (Int.le_of_lt hq.d0) (by have := hp.dk; have := hp.d0; omega)
theorem Ch.bd {k : Nat} {p : Int × Int} (h : Ch k p) (hk : k ≤ 10) : Bd 100 p := by
  have h1 := h.dk
  have h2 : (400 : Int) ^ k ≤ 400 ^ 10 := by
    exact_mod_cast Nat.pow_le_pow_right (n := 400) (by decide) hk
  have h3 : (400 : Int) ^ 10 < 2 ^ 100 := by decide
  have := h.n0; have := h.nd; have := h.d0
  exact ⟨by omega, by omega, h.d0⟩
theorem Ch.fine {k : Nat} {p : Int × Int} (h : Ch k p) (hk : k ≤ 10) : Fine (fr p) := by
  obtain ⟨h1, h2, _⟩ := h.bd hk
  exact ⟨by simp, h1, h2, trivial⟩
theorem Ch.isCh {k : Nat} {p : Int × Int} (h : Ch k p) : isCh (fr p) = true := by
  unfold Lw.isCh isFr fr frOf
  simp [h.n0, h.nd, h.d0, h.red]
/-! ### shares out of the bag -/
theorem does_augS {k : Int → Int → Int} {fo fi fe : Ev} {ρ : Tl.Env} {S : Store} {P : Fl → Store → Prop} {p : Nat} {b : Int} (h1 : Vl (fo ρ) S (.ref p)) (h3 : ∀ S, Vl (fe ρ) S (.int b))
    (h2 : Does (fi ρ) S fun i S2 => ∃ (j : Nat) (ds : List D) (a : Int), i = .int j ∧ j < 1000000 ∧ S2[p]? = some (.lst ds) ∧ ds[j]? = some (.int a) ∧ P (.nx ρ) (S2.set p (.lst (ds.set j (.int (k a b)))))) : DoS (sAugS k fo fi fe) ρ S P := by
  unfold sAugS
  rw [do_bnd]
  refine Does.of h1 ?_
  rw [do_bnd]
  refine h2.imp fun i S2 ⟨j, ds, a, e, hj, e1, e2, q⟩ => ?_
  subst e
  rw [do_bnd]
  refine Does.of (a := a) (S' := S2) ?_ ?_
  · show (if (0 : Int) ≤ (j : Int) ∧ (j : Int) < 1000000 then (match S2[p]? with
      | some (.lst ds) => (match ds[(j : Int).toNat]? with
        | some (.int a) => some ((Rs.ok a : Rs Int), S2)
        | _ => none)
      | _ => none) else none) = _
    rw [if_pos (by omega), e1]
    dsimp only
    rw [Int.toNat_natCast, e2]
  · rw [do_bnd]
    refine Does.of (h3 S2) ?_
    have hl : j < ds.length := (List.getElem?_eq_some_iff.mp e2).1
    refine ⟨.nx ρ, _, ?_, trivial, q⟩
    show sTg (fun d ρ => stD (.ref p) (.int j) d ρ) (.int (k a b)) ρ S2 = _
    have hs : stD (.ref p) (.int (j : Int)) (.int (k a b)) ρ S2 = some (.ok ρ, S2.set p (.lst (ds.set j (.int (k a b))))) := by
      refine Does.eq (does_st (j := j) e1 ?_ ⟨rfl, rfl⟩)
      unfold ixN
      rw [if_pos (by omega), if_pos (by omega), Int.toNat_natCast]
    simp only [sTg, hs]
theorem asInts_map : ∀ l : List Int, asInts (l.map D.int) = some l
  | [] => rfl
  | a :: l => by simp [asInts, asInts_map l]
theorem sum_ref {p : Nat} {S : Store} {xs : List Int} (h : S[p]? = some (.lst (xs.map D.int))) : Vl (sumD [.ref p]) S (.int xs.sum) := by
  show (match S[p]? with
    | some (.lst ds) => ((asInts ds).map fun (ns : List Int) => D.int ns.sum).map fun d => ((Rs.ok d : Rs D), S)
    | _ => none) = _
  rw [h]
  dsimp only
  rw [asInts_map]; rfl
theorem v_itR {f : Ev} {ρ : Tl.Env} {S : Store} {p : Nat} {ds : List D} (h1 : Vl (f ρ) S (.ref p)) (h : S[p]? = some (.lst ds)) : Vl (mIt f ρ) S (srcR p ds.length) := by
  refine v_bind h1 ?_
  show (match S[p]? with
    | some (.lst ds) => some ((Rs.ok (srcR p ds.length) : Rs Src), S)
    | _ => none) = _
  rw [h]
theorem sum_set : ∀ {xs : List Int} {j : Nat} {a : Int}, xs[j]? = some a → (xs.set j (a + 1)).sum = xs.sum + 1
  | x :: xs, 0, a, h => by
    cases h
    simp; omega
  | x :: xs, j + 1, a, h => by
    have := sum_set (xs := xs) (j := j) (a := a) (by simpa using h)
    simp [this]; omega
theorem shares_ok {p q : Fnd} (hp : IsPick p) (hq : IsLLow q) : IsShares (B_l_shares p q) := by
  intro c n least S hb hc hn hn2 hl0 hl1
  have h2 := hb.two
  unfold B_l_shares
  simp only [does_body, do_seq, do_ret, do_retN, do_if, do_asg, do_par, do_expr, do_skip, do_tg, does_ret, does_bind, does_noX, does_call, startD, mOp, mB, mAnd, mOr, mNot, mIte, mChain, mC, mVar, lCons, lNil, mTup, mLst, mCl, mIsi, mSl, oSome, oNo, mNeg, mYes, mIt, gNm, gTp, gsCons, gsNil, tyNm, List.map_cons, List.map_nil, List.length_cons, List.length_nil, List.replicate, List.cons_append, List.nil_append, List.append_nil, List.getElem?_cons_zero, List.getElem?_cons_succ, List.set_cons_zero, List.set_cons_succ, Option.bind_some, if_true, Nat.reduceSub, Nat.reduceAdd, Nat.reduceEqDiff, if_pos, lenD, ordD, wipeD, Nat.sub_self, Nat.add_one_sub_one, reduceIte, Option.bind]
  refine does_lcR (does_lc ?_)
  unfold mRg1
  simp only [does_body, do_seq, do_ret, do_retN, do_if, do_asg, do_par, do_expr, do_skip, do_tg, does_ret, does_bind, does_noX, does_call, startD, mOp, mB, mAnd, mOr, mNot, mIte, mChain, mC, mVar, lCons, lNil, mTup, mLst, mCl, mIsi, mSl, oSome, oNo, mNeg, mYes, mIt, gNm, gTp, gsCons, gsNil, tyNm, List.map_cons, List.map_nil, List.length_cons, List.length_nil, List.replicate, List.cons_append, List.nil_append, List.append_nil, List.getElem?_cons_zero, List.getElem?_cons_succ, List.set_cons_zero, List.set_cons_succ, Option.bind_some, if_true, Nat.reduceSub, Nat.reduceAdd, Nat.reduceEqDiff, if_pos, lenD, ordD, wipeD, Nat.sub_self, Nat.add_one_sub_one, reduceIte, Option.bind]
  rw [if_pos (by omega)]
  rw [does_ret]
  refine ⟨_, fun i acc S' => Bag (c + i) S' ∧ Kp [0, 1] S S' ∧ ∃ xs : List Int, acc = xs.map D.int ∧ xs.length = i ∧ ∀ x ∈ xs, 0 ≤ x ∧ x ≤ 13, ⟨hb, Kp.refl, [], rfl, rfl, by simp⟩, fun _ _ _ _ => reads_rg, ?_, ?_⟩
  · rintro i d acc S1 hd ⟨b1, k1, xs, rfl, hxl, hx⟩
    have hi : i < n := by
      have := (List.getElem?_eq_some_iff.mp hd).1
      simpa using this
    try simp only [does_body, do_seq, do_ret, do_retN, do_if, do_asg, do_par, do_expr, do_skip, do_tg, does_ret, does_bind, does_noX, does_call, startD, mOp, mB, mAnd, mOr, mNot, mIte, mChain, mC, mVar, lCons, lNil, mTup, mLst, mCl, mIsi, mSl, oSome, oNo, mNeg, mYes, mIt, gNm, gTp, gsCons, gsNil, tyNm, List.map_cons, List.map_nil, List.length_cons, List.length_nil, List.replicate, List.cons_append, List.nil_append, List.append_nil, List.getElem?_cons_zero, List.getElem?_cons_succ, List.set_cons_zero, List.set_cons_succ, Option.bind_some, if_true, Nat.reduceSub, Nat.reduceAdd, Nat.reduceEqDiff, if_pos, lenD, ordD, wipeD, Nat.sub_self, Nat.add_one_sub_one, reduceIte, Option.bind]
    refine (hp (c + i) 4 S1 b1 (by omega) (by decide) (by decide)).imp fun v S2 ⟨⟨z, e, z0, z1⟩, b2, k2, _⟩ => ?_
    subst e
    refine add_ok ⟨by rw [List.length_map]; omega, b2, k1.trans k2, xs ++ [least + z], by simp, by simp [hxl], fun x hx' => ?_⟩
    rcases List.mem_append.mp hx' with h | h
    · exact hx x h
    · have : x = least + z := by simpa using h
      omega
  · rintro acc S1 ⟨b1, k1, xs, rfl, hxl, hx⟩
    have hxl : xs.length = n := by simpa using hxl
    have b1 : Bag (c + n) S1 := by simpa using b1
    refine ⟨_, rfl, ?_⟩
    have l1 := b1.two
    have k2 : Kp [0, 1] S1 (S1 ++ [SO.lst (xs.map D.int)]) := Kp.push
    have b2 := b1.keep (Kp.push (xs := []) (o := SO.lst (xs.map D.int))) (by simp) (by simp)
    have e2 : (S1 ++ [SO.lst (xs.map D.int)])[S1.length]? = some (.lst (xs.map D.int)) := by simp
    have nin : S1.length ∉ [0, 1] := fun h => by
      simp only [List.mem_cons, List.not_mem_nil, or_false] at h; omega
    generalize hS2 : S1 ++ [SO.lst (xs.map D.int)] = S2 at *
    generalize hpp : S1.length = pp at *
    try simp only [does_body, do_seq, do_ret, do_retN, do_if, do_asg, do_par, do_expr, do_skip, do_tg, does_ret, does_bind, does_noX, does_call, startD, mOp, mB, mAnd, mOr, mNot, mIte, mChain, mC, mVar, lCons, lNil, mTup, mLst, mCl, mIsi, mSl, oSome, oNo, mNeg, mYes, mIt, gNm, gTp, gsCons, gsNil, tyNm, List.map_cons, List.map_nil, List.length_cons, List.length_nil, List.replicate, List.cons_append, List.nil_append, List.append_nil, List.getElem?_cons_zero, List.getElem?_cons_succ, List.set_cons_zero, List.set_cons_succ, Option.bind_some, if_true, Nat.reduceSub, Nat.reduceAdd, Nat.reduceEqDiff, if_pos, lenD, ordD, wipeD, Nat.sub_self, Nat.add_one_sub_one, reduceIte, Option.bind]
    refine does_augS (p := pp) (b := 1) rfl (fun _ => rfl) ?_
    try simp only [does_body, do_seq, do_ret, do_retN, do_if, do_asg, do_par, do_expr, do_skip, do_tg, does_ret, does_bind, does_noX, does_call, startD, mOp, mB, mAnd, mOr, mNot, mIte, mChain, mC, mVar, lCons, lNil, mTup, mLst, mCl, mIsi, mSl, oSome, oNo, mNeg, mYes, mIt, gNm, gTp, gsCons, gsNil, tyNm, List.map_cons, List.map_nil, List.length_cons, List.length_nil, List.replicate, List.cons_append, List.nil_append, List.append_nil, List.getElem?_cons_zero, List.getElem?_cons_succ, List.set_cons_zero, List.set_cons_succ, Option.bind_some, if_true, Nat.reduceSub, Nat.reduceAdd, Nat.reduceEqDiff, if_pos, lenD, ordD, wipeD, Nat.sub_self, Nat.add_one_sub_one, reduceIte, Option.bind]
    refine (hp (c + n) n S2 b2 (by omega) (by omega) (by omega)).imp fun v S3 ⟨⟨z, e, z0, z1⟩, b3, k3, _⟩ => ?_
    subst e
    obtain ⟨j, rfl⟩ : ∃ j : Nat, z = j := ⟨z.toNat, by omega⟩
    have e3 := k3.get e2 nin
    have hj : j < xs.length := by omega
    refine ⟨j, _, xs[j], rfl, by omega, e3, by simp [hj], ?_⟩
    have e4 : (xs.map D.int).set j (.int (xs[j] + 1)) = (xs.set j (xs[j] + 1)).map D.int := by simp
    rw [e4]
    have hs : (xs.set j (xs[j] + 1)).sum = xs.sum + 1 := sum_set (List.getElem?_eq_getElem hj)
    have hy : ∀ y ∈ xs.set j (xs[j] + 1), 0 ≤ y ∧ y ≤ 20 := fun y hy => by
      rcases List.mem_or_eq_of_mem_set hy with h | h
      · have := hx y h; omega
      · have := hx xs[j] (List.getElem_mem hj); omega
    have hyl : (xs.set j (xs[j] + 1)).length = n := by simp [hxl]
    have hpos : 0 < (xs.set j (xs[j] + 1)).sum := by
      rw [hs]
      have := le_sum (fun y hy => (hx y hy).1) xs[j] (List.getElem_mem hj)
      have := (hx xs[j] (List.getElem_mem hj)).1
      omega
    have hle := sum_le (k := 20) fun y h => (hy y h).2
    generalize xs.set j (xs[j] + 1) = ys at *
    have e5 : (S3.set pp (SO.lst (ys.map D.int)))[pp]? = some (.lst (ys.map D.int)) := set_get (List.getElem?_eq_some_iff.mp e3).1
    have b5 : Bag (c + n + 1) (S3.set pp (SO.lst (ys.map D.int))) := b3.keep (Kp.set (xs := [pp]) (by simp)) (by simp; omega) (by simp; omega)
    have k5 : Kp [0, 1] S (S3.set pp (SO.lst (ys.map D.int))) := by
      refine ⟨?_, fun i hi ni => ?_⟩
      · rw [List.length_set]
        have := k1.1; have := k2.1; have := k3.1; omega
      · have hip : pp ≠ i := by have := k1.1; omega
        rw [set_ne hip]
        exact ((k1.trans k2).trans k3).2 i hi ni
    generalize S3.set pp (SO.lst (ys.map D.int)) = S5 at *
    try simp only [does_body, do_seq, do_ret, do_retN, do_if, do_asg, do_par, do_expr, do_skip, do_tg, does_ret, does_bind, does_noX, does_call, startD, mOp, mB, mAnd, mOr, mNot, mIte, mChain, mC, mVar, lCons, lNil, mTup, mLst, mCl, mIsi, mSl, oSome, oNo, mNeg, mYes, mIt, gNm, gTp, gsCons, gsNil, tyNm, List.map_cons, List.map_nil, List.length_cons, List.length_nil, List.replicate, List.cons_append, List.nil_append, List.append_nil, List.getElem?_cons_zero, List.getElem?_cons_succ, List.set_cons_zero, List.set_cons_succ, Option.bind_some, if_true, Nat.reduceSub, Nat.reduceAdd, Nat.reduceEqDiff, if_pos, lenD, ordD, wipeD, Nat.sub_self, Nat.add_one_sub_one, reduceIte, Option.bind]
    have hv : Vl (mLc (mIt (mVar 3)) (gNm 5) mYes (mCall q 2 (lCons (mVar 5) (lCons (mCl sumD (lCons (mVar 3) lNil)) lNil))) [5] [some (.ref 1), some (.int n), some (.int least), some (.ref pp), none, none]) S5 (.lst ((ys.map D.int).map fun d => match d with
      | .int y => fr (low y ys.sum)
      | _ => .non)) := by
      refine v_map _ (v_itR v_var e5) (reads_r e5) (by simp; omega) fun d hd => ?_
      obtain ⟨y, hym, rfl⟩ := List.mem_map.mp hd
      have hle : ys.sum ≤ 400 := by omega
      exact ⟨_, v_nm, v_call2 v_var (v_cl1 v_var (sum_ref e5)) (hq y ys.sum S5 hpos (Nat.lt_of_lt_of_le (show ys.sum.natAbs < 2 ^ 9 by omega) (Nat.pow_le_pow_right (by decide) (by decide))))⟩
    refine Does.of hv ⟨⟨ys.map fun y => low y ys.sum, ?_, ys, hyl, hy, hpos, rfl⟩, b5, k5⟩
    rw [List.map_map, List.map_map]
    rfl
end Lw
set_option Elab.async false
set_option linter.all false
set_option maxRecDepth 100000
set_option maxHeartbeats 4000000
set_option autoImplicit false
namespace Lw
open PySem L2 Tl
/-! ### trees as the law makes them -/
abbrev An := List Int × List (Int × Int) × D
def ansD (a : An) : D := .tup [.tup (a.1.map D.int), .tup (a.2.1.map fr), a.2.2]
structure GA (w e : Nat) (G : List (Int × Int) → D → Prop) (i : Nat) (a : An) : Prop where
  wd : ∃ rest : List Int, a.1 = 11 * (i : Int) :: rest ∧ rest.length ≤ 7 ∧ ∀ x ∈ rest, 0 ≤ x ∧ x ≤ 99
  wl : a.2.1.length = w
  ch : ∀ p ∈ a.2.1, Ch (e + 1) p
  nd : G a.2.1 a.2.2
structure GQ (w e : Nat) (G : List (Int × Int) → D → Prop) (ah : List (Int × Int)) (q : D) : Prop where
  ex : ∃ as : List An, q = .tup (as.map ansD) ∧ 1 ≤ as.length ∧ as.length ≤ 3 ∧ (∀ i a, as[i]? = some a → GA w e G i a) ∧ ∀ j p, ah[j]? = some p → tot (as.map fun a => a.2.1.getD j (0, 1)) = p
def GN (w : Nat) : Nat → Nat → List (Int × Int) → D → Prop
  | 0, _, _, d => d = .tup []
  | l + 1, e, ah, d => ∃ qs, d = .tup qs ∧ qs.length ≤ 2 ∧ ∀ q ∈ qs, GQ w e (GN w l (e + 1)) ah q
/-- how many answers -/
def cntF : Nat → D → Nat
  | 0, _ => 0
  | l + 1, d => ((items d).map fun q => ((items q).map fun a => 1 + cntF l (at_ 2 a)).sum).sum
def cntQ (l : Nat) (q : D) : Nat := ((items q).map fun a => 1 + cntF l (at_ 2 a)).sum
/-- the list of what is left, at t -/
abbrev Lv (t : Nat) (x : Int) (S : Store) : Prop := S[t]? = some (.lst [.int x])
mutual
def cQ : Nat → Nat
  | l => 30 + 3 * cN l
def cN : Nat → Nat
  | 0 => 0
  | l + 1 => 1 + 2 * (30 + 3 * cN l)
end
def IsQuest (l : Nat) (f : Fnd) : Prop := ∀ (c w e : Nat) (ah : List (Int × Int)) (t : Nat) (x : Int) S, Bag c S → Lv t x S → 2 ≤ t → ah.length = w → 1 ≤ w → w ≤ 5 → (∀ p ∈ ah, Ch e p) → e + l ≤ 8 → c + (30 + 3 * cN l) ≤ LIM →
  Does (f [.ref 1, .int w, .tup (ah.map fr), .int (l + 1 : Nat), .ref t]) S fun v S' => GQ w e (GN w l (e + 1)) ah v ∧ Bag (c + (30 + 3 * cN l)) S' ∧ Kp [0, 1, t] S S' ∧ ∃ x', Lv t x' S' ∧ x' = x - cntQ l v ∧ (x ≤ 0 → x - 3 ≤ x') ∧ (0 < x → -(5 * (l : Int) + 2) ≤ x')
def IsNode (l : Nat) (f : Fnd) : Prop := ∀ (c w e : Nat) (ah : List (Int × Int)) (t : Nat) (x : Int) S, Bag c S → Lv t x S → 2 ≤ t → ah.length = w → 1 ≤ w → w ≤ 5 → (∀ p ∈ ah, Ch e p) → e + l ≤ 9 → c + cN l ≤ LIM →
  Does (f [.ref 1, .int w, .tup (ah.map fr), .int (l : Nat), .ref t]) S fun v S' => GN w l e ah v ∧ Bag (c + cN l) S' ∧ Kp [0, 1, t] S S' ∧ ∃ x', Lv t x' S' ∧ x' = x - cntF l v ∧ (x ≤ 0 → x' = x) ∧ (0 < x → -(5 * (l : Int)) ≤ x')
theorem not01 {t : Nat} (h : 2 ≤ t) : t ∉ [0, 1] := fun m => by
  simp only [List.mem_cons, List.not_mem_nil, or_false] at m; omega
theorem tuple_l {ds : List D} {S : Store} : Vl (tupleD [.lst ds]) S (.tup ds) := rfl
theorem does_rg {f : Ev} {ρ : Tl.Env} {S : Store} {P : Src → Store → Prop} (h : Does (f ρ) S fun d S1 => ∃ n : Nat, d = .int n ∧ n ≤ 1000000 ∧ P (srcRg 0 n) S1) : Does (mRg1 f ρ) S P := by
  unfold mRg1
  rw [does_bind]
  refine h.imp fun d S1 ⟨n, e, hn, p⟩ => ?_
  subst e
  show Does (if (-1000000 : Int) ≤ (n : Int) ∧ (n : Int) ≤ 1000000 then M.ret (srcRg 0 (n : Int).toNat) else M.stuck) S1 P
  rw [if_pos (by omega), does_ret]
  simpa using p
theorem node_ok {p q : Fnd} (hp : IsPick p) : ∀ {l : Nat}, (∀ l', l = l' + 1 → IsQuest l' q) → IsNode l (B_l_node p q)
  | 0, hq => by
    intro c w e ah t x S hb hf ht hal hw1 hw3 hch hel hc
    unfold B_l_node
    simp only [does_body, do_seq, do_ret, do_retN, do_if, do_asg, do_par, do_expr, do_skip, do_tg, does_ret, does_bind, does_noX, does_call, startD, mOp, mB, mAnd, mOr, mNot, mIte, mChain, mC, mVar, lCons, lNil, mTup, mLst, mCl, mIsi, mSl, oSome, oNo, mNeg, mYes, mIt, gNm, gTp, gsCons, gsNil, tyNm, List.map_cons, List.map_nil, List.length_cons, List.length_nil, List.replicate, List.cons_append, List.nil_append, List.append_nil, List.getElem?_cons_zero, List.getElem?_cons_succ, List.set_cons_zero, List.set_cons_succ, Option.bind_some, if_true, Nat.reduceSub, Nat.reduceAdd, Nat.reduceEqDiff, if_pos, lenD, ordD, wipeD, Nat.sub_self, Nat.add_one_sub_one, reduceIte, Option.bind, eq_int]
    rw [show (((0 : Nat) : Int) == 0) = true from rfl]
    simp only [does_body, do_seq, do_ret, do_retN, do_if, do_asg, do_par, do_expr, do_skip, do_tg, does_ret, does_bind, does_noX, does_call, startD, mOp, mB, mAnd, mOr, mNot, mIte, mChain, mC, mVar, lCons, lNil, mTup, mLst, mCl, mIsi, mSl, oSome, oNo, mNeg, mYes, mIt, gNm, gTp, gsCons, gsNil, tyNm, List.map_cons, List.map_nil, List.length_cons, List.length_nil, List.replicate, List.cons_append, List.nil_append, List.append_nil, List.getElem?_cons_zero, List.getElem?_cons_succ, List.set_cons_zero, List.set_cons_succ, Option.bind_some, if_true, Nat.reduceSub, Nat.reduceAdd, Nat.reduceEqDiff, if_pos, lenD, ordD, wipeD, Nat.sub_self, Nat.add_one_sub_one, reduceIte, Option.bind, Nat.zero_le]
    refine ⟨rfl, hb.mono (by omega), Kp.refl, x, hf, by simp [cntF], fun _ => rfl, fun h => by simp; omega⟩
  | l + 1, hq => by
    intro c w e ah t x S hb hf ht hal hw1 hw3 hch hel hc
    have hx := hf
    have hc : c + (1 + 2 * (30 + 3 * cN l)) ≤ LIM := hc
    unfold B_l_node
    simp only [does_body, do_seq, do_ret, do_retN, do_if, do_asg, do_par, do_expr, do_skip, do_tg, does_ret, does_bind, does_noX, does_call, startD, mOp, mB, mAnd, mOr, mNot, mIte, mChain, mC, mVar, lCons, lNil, mTup, mLst, mCl, mIsi, mSl, oSome, oNo, mNeg, mYes, mIt, gNm, gTp, gsCons, gsNil, tyNm, List.map_cons, List.map_nil, List.length_cons, List.length_nil, List.replicate, List.cons_append, List.nil_append, List.append_nil, List.getElem?_cons_zero, List.getElem?_cons_succ, List.set_cons_zero, List.set_cons_succ, Option.bind_some, if_true, Nat.reduceSub, Nat.reduceAdd, Nat.reduceEqDiff, if_pos, lenD, ordD, wipeD, Nat.sub_self, Nat.add_one_sub_one, reduceIte, Option.bind, eq_int]
    rw [show (((l + 1 : Nat) : Int) == 0) = false by simp; omega]
    simp only [does_body, do_seq, do_ret, do_retN, do_if, do_asg, do_par, do_expr, do_skip, do_tg, does_ret, does_bind, does_noX, does_call, startD, mOp, mB, mAnd, mOr, mNot, mIte, mChain, mC, mVar, lCons, lNil, mTup, mLst, mCl, mIsi, mSl, oSome, oNo, mNeg, mYes, mIt, gNm, gTp, gsCons, gsNil, tyNm, List.map_cons, List.map_nil, List.length_cons, List.length_nil, List.replicate, List.cons_append, List.nil_append, List.append_nil, List.getElem?_cons_zero, List.getElem?_cons_succ, List.set_cons_zero, List.set_cons_succ, Option.bind_some, if_true, Nat.reduceSub, Nat.reduceAdd, Nat.reduceEqDiff, if_pos, lenD, ordD, wipeD, Nat.sub_self, Nat.add_one_sub_one, reduceIte, Option.bind]
    refine does_ixr hx (does_at0 ?_)
    show Does (M.ret (D.bl (decide (x ≤ 0)))) _ _
    rw [does_ret]
    cases hx0 : decide (x ≤ 0) with
    | true =>
      have hx0 : x ≤ 0 := of_decide_eq_true hx0
      simp only [does_body, do_seq, do_ret, do_retN, do_if, do_asg, do_par, do_expr, do_skip, do_tg, does_ret, does_bind, does_noX, does_call, startD, mOp, mB, mAnd, mOr, mNot, mIte, mChain, mC, mVar, lCons, lNil, mTup, mLst, mCl, mIsi, mSl, oSome, oNo, mNeg, mYes, mIt, gNm, gTp, gsCons, gsNil, tyNm, List.map_cons, List.map_nil, List.length_cons, List.length_nil, List.replicate, List.cons_append, List.nil_append, List.append_nil, List.getElem?_cons_zero, List.getElem?_cons_succ, List.set_cons_zero, List.set_cons_succ, Option.bind_some, if_true, Nat.reduceSub, Nat.reduceAdd, Nat.reduceEqDiff, if_pos, lenD, ordD, wipeD, Nat.sub_self, Nat.add_one_sub_one, reduceIte, Option.bind, Nat.zero_le]
      exact ⟨⟨[], rfl, by simp, by simp⟩, hb.mono (by omega), Kp.refl, x, hf, by simp [cntF, items], fun _ => rfl, fun h => by omega⟩
    | false =>
      have hx0 : 0 < x := by
        have := of_decide_eq_false hx0
        omega
      simp only [does_body, do_seq, do_ret, do_retN, do_if, do_asg, do_par, do_expr, do_skip, do_tg, does_ret, does_bind, does_noX, does_call, startD, mOp, mB, mAnd, mOr, mNot, mIte, mChain, mC, mVar, lCons, lNil, mTup, mLst, mCl, mIsi, mSl, oSome, oNo, mNeg, mYes, mIt, gNm, gTp, gsCons, gsNil, tyNm, List.map_cons, List.map_nil, List.length_cons, List.length_nil, List.replicate, List.cons_append, List.nil_append, List.append_nil, List.getElem?_cons_zero, List.getElem?_cons_succ, List.set_cons_zero, List.set_cons_succ, Option.bind_some, if_true, Nat.reduceSub, Nat.reduceAdd, Nat.reduceEqDiff, if_pos, lenD, ordD, wipeD, Nat.sub_self, Nat.add_one_sub_one, reduceIte, Option.bind]
      refine does_lc (does_rg ?_)
      simp only [does_body, do_seq, do_ret, do_retN, do_if, do_asg, do_par, do_expr, do_skip, do_tg, does_ret, does_bind, does_noX, does_call, startD, mOp, mB, mAnd, mOr, mNot, mIte, mChain, mC, mVar, lCons, lNil, mTup, mLst, mCl, mIsi, mSl, oSome, oNo, mNeg, mYes, mIt, gNm, gTp, gsCons, gsNil, tyNm, List.map_cons, List.map_nil, List.length_cons, List.length_nil, List.replicate, List.cons_append, List.nil_append, List.append_nil, List.getElem?_cons_zero, List.getElem?_cons_succ, List.set_cons_zero, List.set_cons_succ, Option.bind_some, if_true, Nat.reduceSub, Nat.reduceAdd, Nat.reduceEqDiff, if_pos, lenD, ordD, wipeD, Nat.sub_self, Nat.add_one_sub_one, reduceIte, Option.bind]
      refine (hp c 3 S hb (by omega) (by decide) (by decide)).imp fun v S1 ⟨⟨i, e1, i0, i1⟩, b1, k1, _⟩ => ?_
      subst e1
      obtain ⟨n, rfl⟩ : ∃ n : Nat, i = n := ⟨i.toNat, by omega⟩
      have f1 : Lv t x S1 := k1.get hf (not01 ht)
      refine ⟨n, rfl, by omega, _, fun i acc S' => Bag (c + 1 + i * (30 + 3 * cN l)) S' ∧ Kp [0, 1, t] S S' ∧ (∃ y, Lv t y S' ∧ y = x - ((acc.map (cntQ l)).sum : Nat) ∧ (1 ≤ i ∨ 0 < y) ∧ (2 ≤ i ∨ -(5 * (l : Int) + 2) ≤ y) ∧ -(5 * (l : Int) + 5) ≤ y) ∧ acc.length = i ∧ ∀ q ∈ acc, GQ w e (GN w l (e + 1)) ah q, ⟨by simpa using b1, k1.more (by simp), ⟨x, f1, by simp, Or.inr hx0, Or.inr (by omega), by omega⟩, rfl, by simp⟩, fun _ _ _ _ => reads_rg, ?_, ?_⟩
      · rintro i d acc S2 hd ⟨b2, k2, ⟨y, f2, y1, y2, y3, y4⟩, hl2, hg2⟩
        have hi : i < n := by
          have := (List.getElem?_eq_some_iff.mp hd).1
          simpa using this
        have hm : (i + 1) * (30 + 3 * cN l) = i * (30 + 3 * cN l) + (30 + 3 * cN l) := Nat.succ_mul _ _
        have hm2 : (i + 1) * (30 + 3 * cN l) ≤ 2 * (30 + 3 * cN l) := Nat.mul_le_mul_right _ (by omega)
        simp only [does_body, do_seq, do_ret, do_retN, do_if, do_asg, do_par, do_expr, do_skip, do_tg, does_ret, does_bind, does_noX, does_call, startD, mOp, mB, mAnd, mOr, mNot, mIte, mChain, mC, mVar, lCons, lNil, mTup, mLst, mCl, mIsi, mSl, oSome, oNo, mNeg, mYes, mIt, gNm, gTp, gsCons, gsNil, tyNm, List.map_cons, List.map_nil, List.length_cons, List.length_nil, List.replicate, List.cons_append, List.nil_append, List.append_nil, List.getElem?_cons_zero, List.getElem?_cons_succ, List.set_cons_zero, List.set_cons_succ, Option.bind_some, if_true, Nat.reduceSub, Nat.reduceAdd, Nat.reduceEqDiff, if_pos, lenD, ordD, wipeD, Nat.sub_self, Nat.add_one_sub_one, reduceIte, Option.bind]
        refine (hq l rfl (c + 1 + i * (30 + 3 * cN l)) w e ah t y S2 b2 f2 ht hal hw1 hw3 hch (by omega) (by omega)).imp fun v S3 ⟨g3, b3, k3, y', f3, z1, z2, z3⟩ => ?_
        refine ⟨by omega, b3.mono (by omega), k2.trans k3, ⟨y', f3, ?_, Or.inl (by omega), ?_, ?_⟩, by simp [hl2], fun q hq' => ?_⟩
        · rw [List.map_append, List.sum_append]; simp; omega
        · rcases Nat.eq_zero_or_pos i with h0 | h0
          · exact Or.inr (z3 (by omega))
          · exact Or.inl (by omega)
        · rcases Int.lt_or_le 0 y with h | h
          · have := z3 h; omega
          · have h1 := z2 h
            omega
        rcases List.mem_append.mp hq' with h | h
        · exact hg2 q h
        · rw [show q = v by simpa using h]; exact g3
      · rintro acc S2 ⟨b2, k2, ⟨y, f2, y1, y2, y3, y4⟩, hl2, hg2⟩
        have hl2 : acc.length = n := by simpa using hl2
        have b2 : Bag (c + 1 + n * (30 + 3 * cN l)) S2 := by simpa using b2
        have hm2 : n * (30 + 3 * cN l) ≤ 2 * (30 + 3 * cN l) := Nat.mul_le_mul_right _ (by omega)
        refine Does.of tuple_l ⟨⟨acc, rfl, by omega, hg2⟩, b2.mono ?_, k2, y, f2, y1, fun h => by omega, fun _ => by push_cast; omega⟩
        show c + 1 + n * (30 + 3 * cN l) ≤ c + (1 + 2 * (30 + 3 * cN l))
        omega
/-! ### a question -/
def opts (k : Nat) : List (List Int) := [[(k : Int)], [7 * k, 3], [9 * k + 1, 0, 99], List.replicate 7 (90 + (k : Int)), []]
def optE : Ev := mLst (lCons (mTup (lCons (mVar 8) lNil)) (lCons (mTup (lCons (mOp mulD (mC (.int 7)) (mVar 8)) (lCons (mC (.int 3)) lNil))) (lCons (mTup (lCons (mOp addD (mOp mulD (mC (.int 9)) (mVar 8)) (mC (.int 1))) (lCons (mC (.int 0)) (lCons (mC (.int 99)) lNil)))) (lCons (mOp mulD (mTup (lCons (mOp addD (mC (.int 90)) (mVar 8)) lNil)) (mC (.int 7))) (lCons (mTup lNil) lNil)))))
theorem v_mul {i j : Int} {S : Store} (hi : i.natAbs < 2 ^ 50) (hj : j.natAbs < 2 ^ 50) : Vl (mulD (.int i) (.int j)) S (.int (i * j)) := Does.eq (mul_ok hi hj (by decide) (by decide) ⟨rfl, rfl⟩)
theorem v_opts {k : Nat} (hk : k < 3) {x0 x1 x2 x3 x4 x5 x6 x7 x9 x10 x11 : Option D} {S : Store} : Vl (optE [x0, x1, x2, x3, x4, x5, x6, x7, some (.int k), x9, x10, x11]) S (.lst ((opts k).map fun r => .tup (r.map D.int))) := by
  unfold optE
  refine Vl.to (v_lst (v_cons (v_tup (v_cons v_var v_nil) (by simp)) (v_cons (v_tup (v_cons (v_op v_c v_var (v_mul (by decide) (by omega))) (v_cons v_c v_nil)) (by simp)) (v_cons (v_tup (v_cons (v_op (v_op v_c v_var (v_mul (by decide) (by omega))) v_c rfl) (v_cons v_c (v_cons v_c v_nil))) (by simp))
    (v_cons (v_op (v_tup (v_cons (v_op v_c v_var rfl) v_nil) (by simp)) v_c rfl) (v_cons (v_tup v_nil (by decide)) v_nil))))) (by simp)) ?_
  rfl
theorem opts_ok {k : Nat} (hk : k < 3) {r : List Int} (h : r ∈ opts k) : r.length ≤ 7 ∧ ∀ x ∈ r, 0 ≤ x ∧ x ≤ 99 := by
  unfold opts at h
  simp only [List.mem_cons, List.not_mem_nil, or_false] at h
  rcases h with rfl | rfl | rfl | rfl | rfl
  · refine ⟨by simp, fun x hx => ?_⟩
    simp at hx; omega
  · refine ⟨by simp, fun x hx => ?_⟩
    simp at hx; rcases hx with h | h <;> omega
  · refine ⟨by simp, fun x hx => ?_⟩
    simp at hx; rcases hx with h | h | h <;> omega
  · refine ⟨by simp, fun x hx => ?_⟩
    have := List.eq_of_mem_replicate hx; omega
  · simp
def rowD (ps : List (Int × Int)) : D := .lst (ps.map fr)
def wts (ah : List (Int × Int)) (rows : List (List (Int × Int))) (k : Nat) : List (Int × Int) := (List.range ah.length).map fun j => tm (ah.getD j (0, 1)) ((rows.getD j []).getD k (0, 1))
theorem getAt_v {ds : List D} {i : Nat} {d : D} {S : Store} (h : ds[i]? = some d) : Vl (getAt ds (i : Int)) S d := Does.eq (getAt_i h ⟨rfl, rfl⟩)
theorem Bd.up {j k : Nat} {p : Int × Int} (h : Bd j p) (l : j ≤ k) : Bd k p := h.mono l
theorem v_wts {p : Fnd} (hp : IsTimes p) {ah : List (Int × Int)} {rows : List (List (Int × Int))} {m k e : Nat} (hr : rows.length = ah.length) (hrm : ∀ ps ∈ rows, Sh m ps) (hk : k < m) (hm : m ≤ 3) (hl : ah.length ≤ 5) (hch : ∀ q ∈ ah, Ch e q) (he : e ≤ 9)
    {x0 x3 x4 x5 x7 x9 x10 x11 : Option D} {S : Store} : Vl (mCl tupleD (lCons (mLc (mRg1 (mVar 1)) (gNm 11) mYes (mCall p 2 (lCons (mOp idxD (mVar 2) (mVar 11)) (lCons (mOp idxD (mOp idxD (mVar 6) (mVar 11)) (mVar 8)) lNil))) [11]) lNil) [x0, some (.int ah.length), some (.tup (ah.map fr)), x3, x4, x5, some (.lst (rows.map rowD)), x7, some (.int k), x9, x10, x11]) S (.tup ((wts ah rows k).map fr)) := by
  refine v_cl1 (x := .lst (((List.range ah.length).map fun (i : Nat) => D.int (0 + i)).map fun d => match d with
    | .int j => fr (tm (ah.getD j.toNat (0, 1)) ((rows.getD j.toNat []).getD k (0, 1)))
    | _ => .non)) (v_map _ (s := srcRg 0 ah.length) ?_ reads_rg (by simp; omega) fun d hd => ?_) ?_
  · unfold mRg1
    refine v_bind v_var ?_
    show (if (-1000000 : Int) ≤ (ah.length : Int) ∧ (ah.length : Int) ≤ 1000000 then M.ret (srcRg 0 (ah.length : Int).toNat) else M.stuck) S = _
    rw [if_pos (by omega)]
    rfl
  · obtain ⟨j, hj, rfl⟩ := List.mem_map.mp hd
    have hj : j < ah.length := by simpa using hj
    have e0 : (0 + (j : Int)) = ((j : Nat) : Int) := by omega
    rw [e0]
    have ha : ah[j]? = some ah[j] := List.getElem?_eq_getElem hj
    have hj2 : j < rows.length := by omega
    have hb : rows[j]? = some rows[j] := List.getElem?_eq_getElem hj2
    have hsh := hrm rows[j] (List.getElem_mem hj2)
    obtain ⟨xs, hx1, hx2, hx3, hx4⟩ := id hsh
    have hkl : k < rows[j].length := by rw [hx4, List.length_map]; omega
    have hc : rows[j][k]? = some rows[j][k] := List.getElem?_eq_getElem hkl
    have b1 := ((hch ah[j] (List.getElem_mem hj)).bd (by omega)).mono (show 100 ≤ 4000 by decide)
    have b2 := ((hsh.ch (by omega) rows[j][k] (List.getElem_mem hkl)).bd (by decide)).mono (show 100 ≤ 4000 by decide)
    refine ⟨_, v_nm, v_call2 (x := fr ah[j]) (y := fr rows[j][k]) (v_idx v_var v_var (getAt_v (by rw [List.getElem?_map, ha]; rfl))) (v_op (x := rowD rows[j]) (y := .int k) (v_op (x := .lst (rows.map rowD)) (y := .int j) v_var v_var (getAt_v (ds := rows.map rowD) (by rw [List.getElem?_map, hb]; rfl))) v_var (getAt_v (ds := rows[j].map fr) (by rw [List.getElem?_map, hc]; rfl))) ?_⟩
    show Vl (p [fr ah[j], fr rows[j][k]]) S (fr (tm (ah.getD ((j : Nat) : Int).toNat (0, 1)) ((rows.getD ((j : Nat) : Int).toNat []).getD k (0, 1))))
    have g1 : ah.getD j (0, 1) = ah[j] := by simp [List.getD, ha]
    have g2 : rows.getD j [] = rows[j] := by simp [List.getD, hb]
    have g3 : rows[j].getD k (0, 1) = rows[j][k] := by simp [List.getD, hc]
    rw [Int.toNat_natCast, g1, g2, g3]
    exact hp _ _ S b1 b2
  · unfold wts
    rw [List.map_map, List.map_map]
    refine congrArg (fun l => some ((Rs.ok (D.tup l) : Rs D), S)) (List.map_congr_left fun j _ => ?_)
    show fr (tm (ah.getD (0 + (j : Int)).toNat (0, 1)) ((rows.getD (0 + (j : Int)).toNat []).getD k (0, 1))) = _
    rw [show (0 + (j : Int)).toNat = j by omega]
    rfl
theorem wts_ch {ah : List (Int × Int)} {rows : List (List (Int × Int))} {m k e : Nat} (hr : rows.length = ah.length) (hrm : ∀ ps ∈ rows, Sh m ps) (hk : k < m) (hm : m ≤ 3) (hch : ∀ q ∈ ah, Ch e q) : ∀ p ∈ wts ah rows k, Ch (e + 1) p := by
  intro p hp
  obtain ⟨j, hj, rfl⟩ := List.mem_map.mp hp
  have hj : j < ah.length := by simpa using hj
  have hj2 : j < rows.length := by omega
  have hsh := hrm rows[j] (List.getElem_mem hj2)
  obtain ⟨xs, hx1, hx2, hx3, hx4⟩ := id hsh
  have hkl : k < rows[j].length := by rw [hx4, List.length_map]; omega
  have g1 : ah.getD j (0, 1) = ah[j] := by simp [List.getD, hj]
  have g2 : rows.getD j [] = rows[j] := by simp [List.getD, hj2]
  have g3 : rows[j].getD k (0, 1) = rows[j][k] := by simp [List.getD, hkl]
  rw [g1, g2, g3]
  exact (hch ah[j] (List.getElem_mem hj)).tm (hsh.ch (by omega) _ (List.getElem_mem hkl))
theorem wts_sum {ah : List (Int × Int)} {rows : List (List (Int × Int))} {m e : Nat} (hr : rows.length = ah.length) (hrm : ∀ ps ∈ rows, Sh m ps) (hch : ∀ q ∈ ah, Ch e q) {j : Nat} {p : Int × Int} (h : ah[j]? = some p) : tot ((List.range m).map fun k => (wts ah rows k).getD j (0, 1)) = p := by
  have hj : j < ah.length := (List.getElem?_eq_some_iff.mp h).1
  have hj2 : j < rows.length := by omega
  have hsh := hrm rows[j] (List.getElem_mem hj2)
  obtain ⟨xs, hx1, hx2, hx3, hx4⟩ := id hsh
  have hp : ah.getD j (0, 1) = p := by simp [List.getD, h]
  have g2 : rows.getD j [] = rows[j] := by simp [List.getD, hj2]
  have e1 : ((List.range m).map fun k => (wts ah rows k).getD j (0, 1)) = xs.map fun x => tm p (low x xs.sum) := by
    refine List.ext_getElem (by simp [hx1]) fun k h1 h2 => ?_
    have hk : k < xs.length := by simpa using h2
    simp only [List.getElem_map, List.getElem_range]
    have : (wts ah rows k).getD j (0, 1) = tm (ah.getD j (0, 1)) ((rows.getD j []).getD k (0, 1)) := by
      unfold wts
      simp [List.getD, hj]
    rw [this, hp, g2, hx4]
    simp [List.getD, hk]
  have hc := hch p (List.mem_of_getElem? h)
  rw [e1, tot_tm hc.d0 hc.red hx3]
theorem tuple_r {p : Nat} {ds : List D} {S : Store} (h : S[p]? = some (.lst ds)) : Vl (tupleD [.ref p]) S (.tup ds) := by
  show (match S[p]? with
    | some (.lst ds) => (some (D.tup ds)).map fun d => ((Rs.ok d : Rs D), S)
    | _ => none) = _
  rw [h]; rfl
theorem v_sub {i j : Int} {S : Store} : Vl (subD (.int i) (.int j)) S (.int (i - j)) := rfl
theorem does_cons {f : Ev} {g : Evs} {ρ : Tl.Env} {S : Store} {P : List D → Store → Prop} : Does (lCons f g ρ) S P ↔ Does (f ρ) S fun d S1 => Does (g ρ) S1 fun ds S2 => P (d :: ds) S2 := by
  simp only [lCons, does_bind, does_ret]
theorem question_ok {p q r s n : Fnd} (hp : IsPick p) (hq : IsSome q) (hr : IsTimes r) (hs : IsShares s) {l : Nat} (hn : IsNode l n) : IsQuest l (B_l_question p q r s n) := by
  intro c w e ah t x S hb hf ht hal hw1 hw3 hch hel hc
  unfold B_l_question
  simp only [does_body, do_seq, do_ret, do_retN, do_if, do_asg, do_par, do_expr, do_skip, do_tg, does_ret, does_bind, does_noX, does_call, startD, mOp, mB, mAnd, mOr, mNot, mIte, mChain, mC, mVar, lCons, lNil, mTup, mLst, mCl, mIsi, mSl, oSome, oNo, mNeg, mYes, mIt, gNm, gTp, gsCons, gsNil, tyNm, List.map_cons, List.map_nil, List.length_cons, List.length_nil, List.replicate, List.cons_append, List.nil_append, List.append_nil, List.getElem?_cons_zero, List.getElem?_cons_succ, List.set_cons_zero, List.set_cons_succ, Option.bind_some, if_true, Nat.reduceSub, Nat.reduceAdd, Nat.reduceEqDiff, if_pos, lenD, ordD, wipeD, Nat.sub_self, Nat.add_one_sub_one, reduceIte, Option.bind]
  refine (hp c 3 S hb (by omega) (by decide) (by decide)).imp fun v S1 ⟨⟨i, e1, i0, i1⟩, b1, k1, _⟩ => ?_
  subst e1
  refine add_ok ?_
  obtain ⟨m, hm⟩ : ∃ m : Nat, 1 + i = m := ⟨(1 + i).toNat, by omega⟩
  rw [hm]
  have hm1 : 1 ≤ m := by omega
  have hm3 : m ≤ 3 := by omega
  have hx : Lv t x S1 := k1.get hf (not01 ht)
  refine does_augS (p := t) (b := m) rfl (fun _ => rfl) ?_
  simp only [does_body, do_seq, do_ret, do_retN, do_if, do_asg, do_par, do_expr, do_skip, do_tg, does_ret, does_bind, does_noX, does_call, startD, mOp, mB, mAnd, mOr, mNot, mIte, mChain, mC, mVar, lCons, lNil, mTup, mLst, mCl, mIsi, mSl, oSome, oNo, mNeg, mYes, mIt, gNm, gTp, gsCons, gsNil, tyNm, List.map_cons, List.map_nil, List.length_cons, List.length_nil, List.replicate, List.cons_append, List.nil_append, List.append_nil, List.getElem?_cons_zero, List.getElem?_cons_succ, List.set_cons_zero, List.set_cons_succ, Option.bind_some, if_true, Nat.reduceSub, Nat.reduceAdd, Nat.reduceEqDiff, if_pos, lenD, ordD, wipeD, Nat.sub_self, Nat.add_one_sub_one, reduceIte, Option.bind]
  refine ⟨0, _, x, rfl, by decide, hx, rfl, ?_⟩
  have t1 : t < S1.length := (List.getElem?_eq_some_iff.mp hx).1
  have f2 : Lv t (x - m) (S1.set t (SO.lst (([D.int x] : List D).set 0 (.int (x - m))))) := set_get t1
  have b2 := b1.keep (Kp.set (xs := [t]) (i := t) (o := SO.lst (([D.int x] : List D).set 0 (.int (x - m)))) (by simp)) (by simp; omega) (by simp; omega)
  have k2 : Kp [0, 1, t] S (S1.set t (SO.lst (([D.int x] : List D).set 0 (.int (x - m))))) := (k1.more (by simp)).trans (Kp.set (by simp))
  generalize S1.set t (SO.lst (([D.int x] : List D).set 0 (.int (x - m)))) = S2 at *
  try simp only [does_body, do_seq, do_ret, do_retN, do_if, do_asg, do_par, do_expr, do_skip, do_tg, does_ret, does_bind, does_noX, does_call, startD, mOp, mB, mAnd, mOr, mNot, mIte, mChain, mC, mVar, lCons, lNil, mTup, mLst, mCl, mIsi, mSl, oSome, oNo, mNeg, mYes, mIt, gNm, gTp, gsCons, gsNil, tyNm, List.map_cons, List.map_nil, List.length_cons, List.length_nil, List.replicate, List.cons_append, List.nil_append, List.append_nil, List.getElem?_cons_zero, List.getElem?_cons_succ, List.set_cons_zero, List.set_cons_succ, Option.bind_some, if_true, Nat.reduceSub, Nat.reduceAdd, Nat.reduceEqDiff, if_pos, lenD, ordD, wipeD, Nat.sub_self, Nat.add_one_sub_one, reduceIte, Option.bind]
  refine does_lc (does_rg ?_)
  try simp only [does_body, do_seq, do_ret, do_retN, do_if, do_asg, do_par, do_expr, do_skip, do_tg, does_ret, does_bind, does_noX, does_call, startD, mOp, mB, mAnd, mOr, mNot, mIte, mChain, mC, mVar, lCons, lNil, mTup, mLst, mCl, mIsi, mSl, oSome, oNo, mNeg, mYes, mIt, gNm, gTp, gsCons, gsNil, tyNm, List.map_cons, List.map_nil, List.length_cons, List.length_nil, List.replicate, List.cons_append, List.nil_append, List.append_nil, List.getElem?_cons_zero, List.getElem?_cons_succ, List.set_cons_zero, List.set_cons_succ, Option.bind_some, if_true, Nat.reduceSub, Nat.reduceAdd, Nat.reduceEqDiff, if_pos, lenD, ordD, wipeD, Nat.sub_self, Nat.add_one_sub_one, reduceIte, Option.bind]
  refine ⟨w, rfl, by omega, _, fun i acc S' => Bag (c + 1 + i * (m + 2)) S' ∧ Kp [0, 1, t] S S' ∧ Lv t (x - m) S' ∧ ∃ rows : List (List (Int × Int)), acc = rows.map rowD ∧ rows.length = i ∧ ∀ ps ∈ rows, Sh m ps, ⟨by simpa using b2, k2, f2, [], rfl, rfl, by simp⟩, fun _ _ _ _ => reads_rg, ?_, ?_⟩
  · rintro i d acc S3 hd ⟨b3, k3, f3, rows, rfl, hrl, hrs⟩
    have hi : i < w := by
      have := (List.getElem?_eq_some_iff.mp hd).1
      simpa using this
    have hmul : (i + 1) * (m + 2) = i * (m + 2) + (m + 2) := Nat.succ_mul _ _
    have hle : (i + 1) * (m + 2) ≤ 5 * 5 := Nat.mul_le_mul (by omega) (by omega)
    simp only [does_body, do_seq, do_ret, do_retN, do_if, do_asg, do_par, do_expr, do_skip, do_tg, does_ret, does_bind, does_noX, does_call, startD, mOp, mB, mAnd, mOr, mNot, mIte, mChain, mC, mVar, lCons, lNil, mTup, mLst, mCl, mIsi, mSl, oSome, oNo, mNeg, mYes, mIt, gNm, gTp, gsCons, gsNil, tyNm, List.map_cons, List.map_nil, List.length_cons, List.length_nil, List.replicate, List.cons_append, List.nil_append, List.append_nil, List.getElem?_cons_zero, List.getElem?_cons_succ, List.set_cons_zero, List.set_cons_succ, Option.bind_some, if_true, Nat.reduceSub, Nat.reduceAdd, Nat.reduceEqDiff, if_pos, lenD, ordD, wipeD, Nat.sub_self, Nat.add_one_sub_one, reduceIte, Option.bind]
    refine (hp (c + 1 + i * (m + 2)) 2 S3 b3 (by omega) (by decide) (by decide)).imp fun v S4 ⟨⟨z, e4, z0, z1⟩, b4, k4, _⟩ => ?_
    subst e4
    try simp only [does_body, do_seq, do_ret, do_retN, do_if, do_asg, do_par, do_expr, do_skip, do_tg, does_ret, does_bind, does_noX, does_call, startD, mOp, mB, mAnd, mOr, mNot, mIte, mChain, mC, mVar, lCons, lNil, mTup, mLst, mCl, mIsi, mSl, oSome, oNo, mNeg, mYes, mIt, gNm, gTp, gsCons, gsNil, tyNm, List.map_cons, List.map_nil, List.length_cons, List.length_nil, List.replicate, List.cons_append, List.nil_append, List.append_nil, List.getElem?_cons_zero, List.getElem?_cons_succ, List.set_cons_zero, List.set_cons_succ, Option.bind_some, if_true, Nat.reduceSub, Nat.reduceAdd, Nat.reduceEqDiff, if_pos, lenD, ordD, wipeD, Nat.sub_self, Nat.add_one_sub_one, reduceIte, Option.bind]
    refine (hs (c + 1 + i * (m + 2) + 1) m z S4 b4 (by omega) (by omega) (by omega) z0 (by omega)).imp fun v S5 ⟨⟨ps, e5, hps⟩, b5, k5⟩ => ?_
    subst e5
    have k45 := k4.trans k5
    refine ⟨by rw [List.length_map]; omega, b5.mono (by omega), k3.trans (k45.more (by simp)), k45.get f3 (not01 ht), rows ++ [ps], by simp [rowD], by simp [hrl], fun y hy => ?_⟩
    rcases List.mem_append.mp hy with h | h
    · exact hrs y h
    · rw [show y = ps by simpa using h]; exact hps
  · rintro acc S3 ⟨b3, k3, f3, rows, rfl, hrl, hrs⟩
    have hrl : rows.length = w := by simpa using hrl
    have b3 : Bag (c + 1 + w * (m + 2)) S3 := by simpa using b3
    have hwm : w * (m + 2) ≤ 5 * 5 := Nat.mul_le_mul hw3 (by omega)
    try simp only [does_body, do_seq, do_ret, do_retN, do_if, do_asg, do_par, do_expr, do_skip, do_tg, does_ret, does_bind, does_noX, does_call, startD, mOp, mB, mAnd, mOr, mNot, mIte, mChain, mC, mVar, lCons, lNil, mTup, mLst, mCl, mIsi, mSl, oSome, oNo, mNeg, mYes, mIt, gNm, gTp, gsCons, gsNil, tyNm, List.map_cons, List.map_nil, List.length_cons, List.length_nil, List.replicate, List.cons_append, List.nil_append, List.append_nil, List.getElem?_cons_zero, List.getElem?_cons_succ, List.set_cons_zero, List.set_cons_succ, Option.bind_some, if_true, Nat.reduceSub, Nat.reduceAdd, Nat.reduceEqDiff, if_pos, lenD, ordD, wipeD, Nat.sub_self, Nat.add_one_sub_one, reduceIte, Option.bind]
    unfold mNew
    simp only [does_body, do_seq, do_ret, do_retN, do_if, do_asg, do_par, do_expr, do_skip, do_tg, does_ret, does_bind, does_noX, does_call, startD, mOp, mB, mAnd, mOr, mNot, mIte, mChain, mC, mVar, lCons, lNil, mTup, mLst, mCl, mIsi, mSl, oSome, oNo, mNeg, mYes, mIt, gNm, gTp, gsCons, gsNil, tyNm, List.map_cons, List.map_nil, List.length_cons, List.length_nil, List.replicate, List.cons_append, List.nil_append, List.append_nil, List.getElem?_cons_zero, List.getElem?_cons_succ, List.set_cons_zero, List.set_cons_succ, Option.bind_some, if_true, Nat.reduceSub, Nat.reduceAdd, Nat.reduceEqDiff, if_pos, lenD, ordD, wipeD, Nat.sub_self, Nat.add_one_sub_one, reduceIte, Option.bind, Nat.zero_le]
    refine Does.of (a := .ref S3.length) (S' := S3 ++ [.lst []]) rfl ?_
    have l3 := b3.two
    have b4 := b3.keep (Kp.push (xs := []) (o := SO.lst [])) (by simp) (by simp)
    have k4 : Kp [0, 1, t] S (S3 ++ [SO.lst []]) := k3.trans Kp.push
    have f4 : Lv t (x - m) (S3 ++ [SO.lst []]) := (Kp.push (xs := []) (o := SO.lst [])).get f3 (by simp)
    have g4 : (S3 ++ [SO.lst []])[S3.length]? = some (.lst []) := by simp
    have pS : S.length ≤ S3.length := k3.1
    have t3 : t < S3.length := (List.getElem?_eq_some_iff.mp f3).1
    generalize S3 ++ [SO.lst []] = S4 at *
    generalize hpp : S3.length = pf at *
    have np : pf ∉ [0, 1] := fun h => by
      simp only [List.mem_cons, List.not_mem_nil, or_false] at h; omega
    have npt : pf ∉ [0, 1, t] := fun h => by
      simp only [List.mem_cons, List.not_mem_nil, or_false] at h; omega
    try simp only [does_body, do_seq, do_ret, do_retN, do_if, do_asg, do_par, do_expr, do_skip, do_tg, does_ret, does_bind, does_noX, does_call, startD, mOp, mB, mAnd, mOr, mNot, mIte, mChain, mC, mVar, lCons, lNil, mTup, mLst, mCl, mIsi, mSl, oSome, oNo, mNeg, mYes, mIt, gNm, gTp, gsCons, gsNil, tyNm, List.map_cons, List.map_nil, List.length_cons, List.length_nil, List.replicate, List.cons_append, List.nil_append, List.append_nil, List.getElem?_cons_zero, List.getElem?_cons_succ, List.set_cons_zero, List.set_cons_succ, Option.bind_some, if_true, Nat.reduceSub, Nat.reduceAdd, Nat.reduceEqDiff, if_pos, lenD, ordD, wipeD, Nat.sub_self, Nat.add_one_sub_one, reduceIte, Option.bind]
    refine do_for (does_rg (Does.of v_var ?_))
    refine ⟨m, rfl, by omega, _, fun i ρ S' => Bag (c + 1 + w * (m + 2) + i * (1 + cN l)) S' ∧ Kp [0, 1, t] S S' ∧ pf < S'.length ∧ (∃ y1 y2 y3 y4, ρ = [some (.ref 1), some (.int w), some (.tup (ah.map fr)), some (.int (l + 1 : Nat)), some (.ref t), some (.int m), some (.lst (rows.map rowD)), some (.ref pf), y1, y2, y3, y4]) ∧
      ∃ as : List An, (∃ y, Lv t y S' ∧ y = x - m - ((as.map fun a => cntF l a.2.2).sum : Nat) ∧ (x - m ≤ 0 → y = x - m) ∧ (0 < x - m → -(5 * (l : Int)) ≤ y)) ∧ S'[pf]? = some (.lst (as.map ansD)) ∧ as.length = i ∧ (∀ j a, as[j]? = some a → GA w e (GN w l (e + 1)) j a) ∧ as.map (fun a => a.2.1) = (List.range i).map (wts ah rows), ⟨by simpa using b4, k4, (List.getElem?_eq_some_iff.mp g4).1, ⟨_, _, _, _, rfl⟩, [], ⟨x - m, f4, by simp, fun _ => rfl, fun _ => by omega⟩, g4, rfl, by simp, rfl⟩, fun _ _ _ _ => reads_rg, ?_, ?_⟩
    · rintro i d ρ S5 hd ⟨b5, k5, l5, ⟨y1, y2, y3, y4, rfl⟩, as, ⟨yy, f5, u1, u2, u3⟩, g5, hasl, hga, hws⟩
      have hi : i < m := by
        have := (List.getElem?_eq_some_iff.mp hd).1
        simpa using this
      have hd' : d = .int (i : Nat) := by
        rw [List.getElem?_map, List.getElem?_range (by simpa using hi)] at hd
        simp at hd
        rw [← hd]
      subst hd'
      have hmul : (i + 1) * (1 + cN l) = i * (1 + cN l) + (1 + cN l) := Nat.succ_mul _ _
      have hle : (i + 1) * (1 + cN l) ≤ 3 * (1 + cN l) := Nat.mul_le_mul_right _ (by omega)
      rw [do_seq, do_tg]
      refine Does.of v_nm ?_
      simp only [List.set_cons_zero, List.set_cons_succ]
      rw [do_seq, do_asg, does_call]
      have hopt := v_opts (k := i) (by omega) (x0 := some (.ref 1)) (x1 := some (.int w)) (x2 := some (.tup (ah.map fr))) (x3 := some (.int (l + 1 : Nat))) (x4 := some (.ref t)) (x5 := some (.int m)) (x6 := some (.lst (rows.map rowD))) (x7 := some (.ref pf)) (x9 := y2) (x10 := y3) (x11 := y4) (S := S5)
      refine Does.of (v_cons v_var (v_cons hopt v_nil)) ?_
      rw [if_pos (show [D.ref 1, D.lst ((opts i).map fun r => .tup (r.map D.int))].length = 2 from rfl)]
      refine (hq (c + 1 + w * (m + 2) + i * (1 + cN l)) _ S5 b5 (by omega) (by simp [opts]) (by simp [opts])).imp fun v S6 ⟨hv, b6, k6⟩ => ?_
      obtain ⟨rest, hrest, rfl⟩ := List.mem_map.mp hv
      obtain ⟨hr1, hr2⟩ := opts_ok (by omega) hrest
      refine Does.of v_nm ?_
      simp only [List.set_cons_zero, List.set_cons_succ]
      rw [do_seq, do_asg]
      have g6 := k6.get g5 np
      have f6 : Lv t yy S6 := k6.get f5 (not01 ht)
      have hw' : ah.length = w := hal
      subst hw'
      refine Does.of (v_wts hr hrl hrs hi hm3 (by omega) hch (by omega)) ?_
      refine Does.of v_nm ?_
      simp only [List.set_cons_zero, List.set_cons_succ]
      rw [do_expr]
      have hch2 := wts_ch hrl hrs hi hm3 hch
      have hwl : (wts ah rows i).length = ah.length := by unfold wts; simp
      refine does_mt (n := pf) v_var g6 ?_
      -- the answer
      unfold mTup
      rw [does_bind, does_cons]
      refine Does.of (a := .tup ((11 * (i : Int) :: rest).map D.int)) (S' := S6) ?_ ?_
      · refine v_op (v_tup (v_cons (v_op v_c v_var (v_mul (by decide) (by omega))) v_nil) (by simp)) v_var ?_
        show (if [D.int (11 * (i : Int))].length + (rest.map D.int).length ≤ 1000000 then M.ret (D.tup ([D.int (11 * (i : Int))] ++ rest.map D.int)) else M.stuck) S6 = _
        rw [if_pos (by simp; omega)]
        rfl
      rw [does_cons]
      refine Does.of v_var ?_
      rw [does_cons, does_call]
      have esub : Vl (mOp subD (mVar 3) (mC (.int 1)) [some (.ref 1), some (.int ah.length), some (.tup (ah.map fr)), some (.int (l + 1 : Nat)), some (.ref t), some (.int m), some (.lst (rows.map rowD)), some (.ref pf), some (.int i), some (.tup (rest.map D.int)), some (.tup ((wts ah rows i).map fr)), y4]) S6 (.int (l : Nat)) := by
        refine Vl.to (v_op v_var v_c v_sub) ?_
        congr 1; omega
      refine Does.of (v_cons v_var (v_cons v_var (v_cons v_var (v_cons esub (v_cons v_var v_nil))))) ?_
      rw [if_pos (show [D.ref 1, D.int ah.length, D.tup ((wts ah rows i).map fr), D.int (l : Nat), D.ref t].length = 5 from rfl)]
      refine (hn (c + 1 + ah.length * (m + 2) + i * (1 + cN l) + 1) ah.length (e + 1) (wts ah rows i) t yy S6 b6 f6 ht hwl hw1 hw3 hch2 (by omega) (by omega)).imp fun nd S7 ⟨gn, b7, k7, y', f7, v1, v2, v3⟩ => ?_
      refine Does.of (v_nil (ρ := [])) ?_
      rw [if_pos (by simp)]
      rw [does_ret]
      have g7 := k7.get g6 npt
      have l7 : pf < S7.length := (List.getElem?_eq_some_iff.mp g7).1
      let a : An := (11 * (i : Int) :: rest, wts ah rows i, nd)
      have ha : D.tup [.tup ((11 * (i : Int) :: rest).map D.int), .tup ((wts ah rows i).map fr), nd] = ansD a := rfl
      refine ⟨.non, as.map ansD, as.map ansD ++ [ansD a], g7, ?_, ?_⟩
      · rw [ha]
        show (if (as.map ansD).length < 1000000 then some (D.non, as.map ansD ++ [ansD a]) else none) = _
        rw [if_pos (by rw [List.length_map]; omega)]
      · have k8 : Kp [0, 1, t] S (S7.set pf (SO.lst (as.map ansD ++ [ansD a]))) := by
          have k57 := (k5.trans (k6.more (by simp))).trans k7
          refine ⟨by rw [List.length_set]; exact k57.1, fun j hj hnj => ?_⟩
          rw [set_ne (by omega)]
          exact k57.2 j hj hnj
        have kset : Kp [pf] S7 (S7.set pf (SO.lst (as.map ansD ++ [ansD a]))) := Kp.set (by simp)
        refine ⟨(b7.keep kset (by simp; omega) (by simp; omega)).mono (by omega), k8, by rw [List.length_set]; exact l7, ⟨_, _, _, _, rfl⟩, as ++ [a], ⟨y', kset.get f7 (by simp; omega), ?_, fun h => ?_, fun h => ?_⟩, ?_, by simp [hasl], fun j b hb => ?_, ?_⟩
        · rw [List.map_append, List.sum_append]
          show y' = x - m - (((as.map fun a => cntF l a.2.2).sum + (cntF l nd + 0) : Nat) : Int)
          push_cast; omega
        · have := u2 h; rw [v2 (by omega)]; exact this
        · rcases Int.lt_or_le 0 yy with h' | h'
          · exact v3 h'
          · rw [v2 h']; exact u3 h
        · rw [set_get l7, List.map_append]; rfl
        · by_cases hj : j < as.length
          · rw [List.getElem?_append_left hj] at hb
            exact hga j b hb
          · have hj2 : j = as.length := by
              have := (List.getElem?_eq_some_iff.mp hb).1
              simp at this; omega
            subst hj2
            rw [List.getElem?_append_right (Nat.le_refl _)] at hb
            simp at hb
            subst hb
            exact ⟨⟨rest, by rw [hasl], hr1, hr2⟩, hwl, hch2, gn⟩
        · rw [List.map_append, hws, List.range_succ, List.map_append]; rfl
    · rintro ρ S5 ⟨b5, k5, l5, ⟨y1, y2, y3, y4, rfl⟩, as, ⟨yy, f5, u1, u2, u3⟩, g5, hasl, hga, hws⟩
      have hasl : as.length = m := by simpa using hasl
      have b5 : Bag (c + 1 + w * (m + 2) + m * (1 + cN l)) S5 := by simpa using b5
      have hmm : m * (1 + cN l) ≤ 3 * (1 + cN l) := Nat.mul_le_mul_right _ hm3
      try simp only [does_body, do_seq, do_ret, do_retN, do_if, do_asg, do_par, do_expr, do_skip, do_tg, does_ret, does_bind, does_noX, does_call, startD, mOp, mB, mAnd, mOr, mNot, mIte, mChain, mC, mVar, lCons, lNil, mTup, mLst, mCl, mIsi, mSl, oSome, oNo, mNeg, mYes, mIt, gNm, gTp, gsCons, gsNil, tyNm, List.map_cons, List.map_nil, List.length_cons, List.length_nil, List.replicate, List.cons_append, List.nil_append, List.append_nil, List.getElem?_cons_zero, List.getElem?_cons_succ, List.set_cons_zero, List.set_cons_succ, Option.bind_some, if_true, Nat.reduceSub, Nat.reduceAdd, Nat.reduceEqDiff, if_pos, lenD, ordD, wipeD, Nat.sub_self, Nat.add_one_sub_one, reduceIte, Option.bind]
      refine Does.of (tuple_r g5) ⟨⟨as, rfl, by omega, by omega, hga, fun j p hj => ?_⟩, b5.mono (by omega), k5, yy, f5, ?_, fun h => ?_, fun h => ?_⟩
      have e2 : (as.map fun a => a.2.1.getD j (0, 1)) = (List.range m).map fun k => (wts ah rows k).getD j (0, 1) := by
        have hws : as.map (fun a => a.2.1) = (List.range m).map (wts ah rows) := by simpa using hws
        have := congrArg (List.map fun (ps : List (Int × Int)) => ps.getD j (0, 1)) hws
        rw [List.map_map, List.map_map] at this
        exact this
      rw [e2]
      exact wts_sum (by omega) hrs hch hj
      · have hs : ∀ as : List An, (((as.map ansD).map fun a => 1 + cntF l (at_ 2 a)).sum : Nat) = as.length + (as.map fun a => cntF l a.2.2).sum := fun as => by
          induction as with
          | nil => rfl
          | cons a as ih =>
            simp only [List.map_cons, List.sum_cons, List.length_cons, ih]
            show 1 + cntF l a.2.2 + _ = _
            omega
        show yy = x - ((((as.map ansD).map fun a => 1 + cntF l (at_ 2 a)).sum : Nat) : Int)
        rw [hs, u1, hasl]; push_cast; omega
      · have := u2 (by omega); omega
      · rcases Int.lt_or_le 0 (x - m) with h' | h'
        · have := u3 h'; omega
        · have := u2 h'; omega
def ones (w : Nat) : List (Int × Int) := List.replicate w (1, 1)
theorem ones_D (w : Nat) : (List.replicate w [fr (1, 1)]).flatten = (ones w).map fr := by
  unfold ones
  induction w with
  | zero => rfl
  | succ n ih => simp [List.replicate_succ, ih]
theorem v_mulT {ds : List D} {k : Nat} {S : Store} (hk : k ≤ 1000) (hl : ds.length ≤ 1000) : Vl (mulD (.tup ds) (.int k)) S (.tup (List.replicate k ds).flatten) := by
  show (if (-1000 : Int) ≤ (k : Int) ∧ (k : Int) ≤ 1000 ∧ ds.length ≤ 1000 then M.ret (D.tup (List.replicate (k : Int).toNat ds).flatten) else M.stuck) S = _
  rw [if_pos (by omega)]; rfl
theorem v_new {fs : Evs} {ρ : Tl.Env} {S : Store} {ds : List D} (h : Vl (fs ρ) S ds) (hl : ds.length ≤ 1000000) : mNew fs ρ S = some (.ok (.ref S.length), S ++ [.lst ds]) := by
  unfold mNew M.bind
  rw [h]
  dsimp only
  rw [if_pos hl]
def IsTree (f : Fnd) : Prop := ∀ (c w l z : Nat) S, Bag c S → 1 ≤ w → w ≤ 5 → l ≤ 8 → 0 < z → c + cN (l + 1) ≤ LIM → Does (f [.ref 1, .int w, .int (l + 1 : Nat), .int z]) S fun v S' => (∃ qs, v = .tup qs ∧ 1 ≤ qs.length) ∧ GN w (l + 1) 0 (ones w) v ∧ cntF (l + 1) v ≤ z + 5 * (l + 1) ∧ Bag (c + cN (l + 1)) S' ∧ Kp [0, 1] S S'
theorem tree_ok {p q : Fnd} (hp : IsPick p) (hq : ∀ l, l ≤ 8 → IsQuest l q) : IsTree (B_l_tree p q) := by
  intro c w l z S hb hw1 hw3 hl hz hc
  have hc : c + (1 + 2 * (30 + 3 * cN l)) ≤ LIM := hc
  unfold B_l_tree
  rw [does_body]
  simp only [startD, List.map_cons, List.map_nil, List.length_cons, List.length_nil, List.replicate, List.cons_append, List.nil_append, Nat.reduceAdd, Nat.reduceSub]
  rw [do_seq, do_asg]
  unfold mTup
  rw [does_bind, does_cons]
  have h1 : Vl (mOp mulD (fun ρ => ((lCons (fun ρ => ((lCons (mC (.int 1)) (lCons (mC (.int 1)) lNil)) ρ).bind fun ds => if ds.length ≤ 1000000 then M.ret (.tup ds) else M.stuck) lNil) ρ).bind fun ds => if ds.length ≤ 1000000 then M.ret (.tup ds) else M.stuck) (mVar 1) [some (.ref 1), some (.int w), some (.int (l + 1 : Nat)), some (.int z), none, none, none, none]) S (.tup ((ones w).map fr)) := by
    refine v_op (v_tup (v_cons (x := fr (1, 1)) (v_tup (v_cons v_c (v_cons v_c v_nil)) (by decide)) v_nil) (by simp)) v_var (Vl.to (v_mulT (by omega) (by simp)) ?_)
    rw [ones_D]
  refine Does.of h1 ?_
  rw [does_cons]
  refine Does.of (v_new (v_cons v_var v_nil) (by simp)) ?_
  refine Does.of (v_nil (ρ := [])) ?_
  rw [if_pos (by simp), does_ret]
  have l2 := hb.two
  have b1 := hb.keep (Kp.push (xs := []) (o := SO.lst [.int z])) (by simp) (by simp)
  have k1 : Kp [0, 1] S (S ++ [SO.lst [D.int z]]) := Kp.push
  have f1 : Lv S.length z (S ++ [SO.lst [D.int z]]) := by show (S ++ [SO.lst [D.int z]])[S.length]? = _; simp
  have s1 : S.length < (S ++ [SO.lst [D.int z]]).length := by simp
  generalize S ++ [SO.lst [D.int z]] = S1 at *
  generalize hpt : S.length = t at *
  refine Does.of (a := [some (.ref 1), some (.int w), some (.int (l + 1 : Nat)), some (.int z), some (.tup ((ones w).map fr)), some (.ref t), none, none]) (S' := S1) rfl ?_
  dsimp only
  rw [do_seq, do_asg]
  refine does_lc (does_rg ?_)
  simp only [does_body, do_seq, do_ret, do_retN, do_if, do_asg, do_par, do_expr, do_skip, do_tg, does_ret, does_bind, does_noX, does_call, startD, mOp, mB, mAnd, mOr, mNot, mIte, mChain, mC, mVar, lCons, lNil, mTup, mLst, mCl, mIsi, mSl, oSome, oNo, mNeg, mYes, mIt, gNm, gTp, gsCons, gsNil, tyNm, List.map_cons, List.map_nil, List.length_cons, List.length_nil, List.replicate, List.cons_append, List.nil_append, List.append_nil, List.getElem?_cons_zero, List.getElem?_cons_succ, List.set_cons_zero, List.set_cons_succ, Option.bind_some, if_true, Nat.reduceSub, Nat.reduceAdd, Nat.reduceEqDiff, if_pos, lenD, ordD, wipeD, Nat.sub_self, Nat.add_one_sub_one, reduceIte, Option.bind]
  refine (hp c 2 S1 b1 (by omega) (by decide) (by decide)).imp fun v S2 ⟨⟨i, e1, i0, i1⟩, b2, k2, _⟩ => ?_
  subst e1
  refine add_ok ?_
  obtain ⟨m, hm⟩ : ∃ m : Nat, 1 + i = m := ⟨(1 + i).toNat, by omega⟩
  rw [hm]
  have f2 : Lv t z S2 := k2.get f1 (not01 (by omega))
  refine ⟨m, rfl, by omega, _, fun i acc S' => Bag (c + 1 + i * (30 + 3 * cN l)) S' ∧ Kp [0, 1, t] S1 S' ∧ (∃ y, Lv t y S' ∧ y = z - ((acc.map (cntQ l)).sum : Nat) ∧ (1 ≤ i ∨ 0 < y) ∧ (2 ≤ i ∨ -(5 * (l : Int) + 2) ≤ y) ∧ -(5 * (l : Int) + 5) ≤ y) ∧ acc.length = i ∧ ∀ q ∈ acc, GQ w 0 (GN w l 1) (ones w) q, ⟨by simpa using b2, k2.more (by simp), ⟨z, f2, by simp, Or.inr (by omega), Or.inr (by omega), by omega⟩, rfl, by simp⟩, fun _ _ _ _ => reads_rg, ?_, ?_⟩
  · rintro i d acc S3 hd ⟨b3, k3, ⟨y, f3, y1, y2, y3, y4⟩, hl3, hg3⟩
    have hi : i < m := by
      have := (List.getElem?_eq_some_iff.mp hd).1
      simpa using this
    have hmul : (i + 1) * (30 + 3 * cN l) = i * (30 + 3 * cN l) + (30 + 3 * cN l) := Nat.succ_mul _ _
    have hm2 : (i + 1) * (30 + 3 * cN l) ≤ 2 * (30 + 3 * cN l) := Nat.mul_le_mul_right _ (by omega)
    refine (hq l hl (c + 1 + i * (30 + 3 * cN l)) w 0 (ones w) t y S3 b3 f3 (by omega) (by simp [ones]) hw1 hw3 (fun p hp => ?_) (by omega) (by omega)).imp fun v S4 ⟨g4, b4, k4, y', f4, z1, z2, z3⟩ => ?_
    · rw [List.eq_of_mem_replicate hp]
      exact ⟨by decide, by decide, by decide, by decide, by decide⟩
    refine ⟨by omega, b4.mono (by omega), k3.trans k4, ⟨y', f4, ?_, Or.inl (by omega), ?_, ?_⟩, by simp [hl3], fun q hq' => ?_⟩
    · rw [List.map_append, List.sum_append]; simp; omega
    · rcases Nat.eq_zero_or_pos i with h0 | h0
      · exact Or.inr (z3 (by omega))
      · exact Or.inl (by omega)
    · rcases Int.lt_or_le 0 y with h | h
      · have := z3 h; omega
      · have h1 := z2 h
        omega
    rcases List.mem_append.mp hq' with h | h
    · exact hg3 q h
    · rw [show q = v by simpa using h]; exact g4
  · rintro acc S3 ⟨b3, k3, ⟨y, f3, y1, y2, y3, y4⟩, hl3, hg3⟩
    have hl3 : acc.length = m := by simpa using hl3
    have b3 : Bag (c + 1 + m * (30 + 3 * cN l)) S3 := by simpa using b3
    have hm2 : m * (30 + 3 * cN l) ≤ 2 * (30 + 3 * cN l) := Nat.mul_le_mul_right _ (by omega)
    refine Does.of tuple_l ⟨⟨acc, rfl, by omega⟩, ⟨acc, rfl, by omega, hg3⟩, ?_, b3.mono ?_, ?_, fun j hj nj => ?_⟩
    · show (acc.map (cntQ l)).sum ≤ _
      omega
    · show c + 1 + m * (30 + 3 * cN l) ≤ c + (1 + 2 * (30 + 3 * cN l))
      omega
    · have := k1.1; have := k3.1; omega
    · have h3 := k3.2 j (by have := k1.1; omega) (by
        simp only [List.mem_cons, List.not_mem_nil, or_false] at nj ⊢; omega)
      rw [h3]
      exact k1.2 j (by omega) nj
/-! ### data of tuples and ints -/
mutual
def TI : D → Prop
  | .int i => i.natAbs < 2 ^ 400
  | .tup ds => TIs ds
  | _ => False
def TIs : List D → Prop
  | [] => True
  | d :: ds => TI d ∧ TIs ds
end
mutual
def pd : D → PyData
  | .int i => .int i
  | .tup ds => .tuple (pds ds)
  | _ => .none
def pds : List D → List PyData
  | [] => []
  | d :: ds => pd d :: pds ds
end
theorem tis_iff : ∀ {ds : List D}, TIs ds ↔ ∀ d ∈ ds, TI d
  | [] => by simp [TIs]
  | d :: ds => by simp [TIs, tis_iff (ds := ds)]
mutual
def sz : D → Nat
  | .tup ds => 1 + szs ds
  | _ => 1
def szs : List D → Nat
  | [] => 0
  | d :: ds => sz d + szs ds
end
mutual
def dep : D → Nat
  | .tup ds => 1 + deps ds
  | _ => 0
def deps : List D → Nat
  | [] => 0
  | d :: ds => max (dep d) (deps ds)
end
mutual
theorem ti_toP : ∀ (d : D), TI d → toP d = some (pd d)
  | .int i, _ => by simp [toP, pd]
  | .tup ds, h => by simp only [toP, pd, tis_toP ds h, Option.map_some]
  | .non, h | .bl _, h | .str _, h | .lst _, h | .scr _, h | .dct, h | .ref _, h | .fn _, h | .thk _ _ _ _ _, h => by simp [TI] at h
theorem tis_toP : ∀ (ds : List D), TIs ds → toPs ds = some (pds ds)
  | [], _ => by simp [toPs, pds]
  | d :: ds, h => by simp only [toPs, pds, ti_toP d h.1, tis_toP ds h.2, Option.bind_some, Option.map_some]
end
mutual
theorem ti_lay : ∀ (d : D), TI d → PyData.canLay0 (pd d) = true
  | .int i, _ => by simp [pd, PyData.canLay0]
  | .tup ds, h => by simp only [pd, PyData.canLay0]; exact tis_lay ds h
  | .non, h | .bl _, h | .str _, h | .lst _, h | .scr _, h | .dct, h | .ref _, h | .fn _, h | .thk _ _ _ _ _, h => by simp [TI] at h
theorem tis_lay : ∀ (ds : List D), TIs ds → PyData.canLayAll0 (pds ds) = true
  | [], _ => by simp [pds, PyData.canLayAll0]
  | d :: ds, h => by simp only [pds, PyData.canLayAll0, ti_lay d h.1, tis_lay ds h.2, Bool.and_self]
end
mutual
theorem ti_show : ∀ (d : D), TI d → (pd d).showable = true
  | .int i, h => by
    have h : i.natAbs < 2 ^ 400 := h
    simp only [pd, PyData.showable, decide_eq_true_eq]
    exact Nat.lt_of_lt_of_le (log2_lt' h (by decide)) (by decide)
  | .tup ds, h => by simp only [pd, PyData.showable]; exact tis_show ds h
  | .non, h | .bl _, h | .str _, h | .lst _, h | .scr _, h | .dct, h | .ref _, h | .fn _, h | .thk _ _ _ _ _, h => by simp [TI] at h
theorem tis_show : ∀ (ds : List D), TIs ds → PyData.showableAll (pds ds) = true
  | [], _ => by simp [pds, PyData.showableAll]
  | d :: ds, h => by simp only [pds, PyData.showableAll, ti_show d h.1, tis_show ds h.2, Bool.and_self]
end
mutual
theorem ti_depth : ∀ (d : D), TI d → (pd d).depth = dep d
  | .int i, h => by simp [pd, PyData.depth, dep]
  | .tup ds, h => by simp only [pd, PyData.depth, dep, tis_depth ds h]; omega
  | .non, h | .bl _, h | .str _, h | .lst _, h | .scr _, h | .dct, h | .ref _, h | .fn _, h | .thk _ _ _ _ _, h => by simp [TI] at h
theorem tis_depth : ∀ (ds : List D), TIs ds → PyData.depthAll (pds ds) = deps ds
  | [], _ => by simp [pds, PyData.depthAll, deps]
  | d :: ds, h => by simp only [pds, PyData.depthAll, deps, ti_depth d h.1, tis_depth ds h.2]
end
mutual
theorem ti_len : ∀ (d : D), TI d → (pd d).shown.length + 2 ≤ 130 * sz d
  | .int i, h => by
    have h : i.natAbs < 2 ^ 400 := h
    have e : (2 : Nat) ^ 400 ≤ 10 ^ 121 := by decide
    have := int_text_length_le10 (a := i) (k := 121) (by decide) (Nat.lt_of_lt_of_le h e)
    simp only [pd, PyData.shown, sz]
    show (Str.ofString (toString i)).length + 2 ≤ _
    rw [ofString_length]; omega
  | .tup ds, h => by
    have h1 := tis_len ds h
    have h2 := tupleText_len_le (PyData.shownAll (pds ds))
    simp only [pd, PyData.shown, sz]
    omega
  | .non, h | .bl _, h | .str _, h | .lst _, h | .scr _, h | .dct, h | .ref _, h | .fn _, h | .thk _ _ _ _ _, h => by simp [TI] at h
theorem tis_len : ∀ (ds : List D), TIs ds → ((PyData.shownAll (pds ds)).map (·.length)).sum + 2 * (PyData.shownAll (pds ds)).length ≤ 130 * szs ds
  | [], _ => by simp [pds, PyData.shownAll, szs]
  | d :: ds, h => by
    have h1 := ti_len d h.1
    have h2 := tis_len ds h.2
    simp only [pds, PyData.shownAll, szs, List.map_cons, List.sum_cons, List.length_cons]; omega
end
/-- shown, compared -/
theorem v_repr {d : D} {S : Store} (h : TI d) (ht : isT d = true) (hd : dep d ≤ 60) (hz : sz d ≤ 100000) : Vl (reprD [d]) S (.str (pd d).shown) := by
  obtain ⟨ds, rfl⟩ := isT_of ht
  have hw := ti_len _ h
  have e : reprD [.tup ds] = (match toP (.tup ds) with
    | some p => if Shows p then M.ret (.str p.shown) else M.stuck
    | none => M.stuck) := by unfold reprD; rfl
  rw [e, ti_toP _ h]
  dsimp only
  rw [if_pos ⟨ti_show _ h, by rw [ti_depth _ h]; exact hd, by omega⟩]
  rfl
theorem v_eqT {d e : D} {S : Store} (h1 : TI d) (h2 : TI e) (d1 : dep d ≤ 64) (d2 : dep e ≤ 64) : Vl (eqD d e) S (.bl (PyData.eqv (pd d) (pd e))) := by
  unfold eqD cmpP
  rw [ti_toP _ h1, ti_toP _ h2]
  dsimp only
  rw [if_pos ⟨by simp [SeqAt.shaped, ti_lay _ h1, ti_depth _ h1, d1], by simp [SeqAt.shaped, ti_lay _ h2, ti_depth _ h2, d2]⟩]
  rfl
theorem v_eqSelf {d : D} {S : Store} (h1 : TI d) (d1 : dep d ≤ 64) : Vl (eqD d d) S (.bl true) := by
  refine Vl.to (v_eqT h1 h1 d1 d1) ?_
  rw [SeqAt.eqv_refl _ (ti_lay _ h1)]
/-! ### helpers -/
def isWord (d : D) : Bool := sizedD 0 8 d && (items d).all (within 0 99)
def IsWord (f : Fnd) : Prop := ∀ d S, Fine d → Vl (f [d]) S (.bl (isWord d))
theorem is_word_ok {p q : Fnd} (hp : IsWithin p) (hq : IsSized q) : IsWord (B_is_word p q) := by
  intro d S hd
  unfold B_is_word
  refine s_body (s_ret (v_and (v_call3 v_var v_c v_c (hq d 0 8 S hd)) fun h => ?_))
  obtain ⟨ds, rfl, _, _⟩ := sized_of h
  obtain ⟨hl, hf⟩ := fine_tup hd
  exact v_all (within 0 99) (v_itT v_var) reads_d (big20 hl) fun x hx => ⟨_, v_nm, v_call3 v_var v_c v_c (hp x 0 99 S (hf x hx))⟩
def isAns (w : Int) (d : D) : Bool := !(!lenIs 3 d || (!isWord (at_ 0 d) || !sizedD w w (at_ 1 d))) && (items (at_ 1 d)).all isCh
def IsAns (f : Fnd) : Prop := ∀ (w : Int) d S, Fine d → Vl (f [.int w, d]) S (.bl (isAns w d))
theorem is_answer_ok {p q r s : Fnd} (hp : IsSized p) (hq : IsTriple q) (hr : IsChance r) (hs : IsWord s) : IsAns (B_is_answer p q r s) := by
  intro w d S hd
  unfold B_is_answer
  refine s_body (s_guard (k := (!lenIs 3 d || (!isWord (at_ 0 d) || !sizedD w w (at_ 1 d)))) (v := (items (at_ 1 d)).all isCh) ?_ fun z => ?_)
  · refine v_or (v_not (v_B (v_call1 v_var (hq d S hd)))) fun z => ?_
    simp only [Bool.not_eq_eq_eq_not, Bool.not_false] at z
    obtain ⟨ds, rfl, hl⟩ := lenIs_of z
    obtain ⟨a, b, c, rfl⟩ := len3 hl
    have hf := (fine_tup hd).2
    exact v_or (v_not (v_B (v_call1 (v_idx v_var v_c rfl) (hs a S (hf a (by simp)))))) fun _ => v_not (v_B (v_call3 (v_idx v_var v_c rfl) v_var v_var (hp b w w S (hf b (by simp)))))
  · simp only [Bool.or_eq_false_iff, Bool.not_eq_eq_eq_not, Bool.not_false] at z
    obtain ⟨z1, z2, z3⟩ := z
    obtain ⟨ds, rfl, hl⟩ := lenIs_of z1
    obtain ⟨a, b, c, rfl⟩ := len3 hl
    have hf := (fine_tup hd).2
    obtain ⟨xs, rfl, _, _⟩ := sized_of (d := b) z3
    obtain ⟨hxl, hxf⟩ := fine_tup (hf (.tup xs) (by simp))
    exact s_ret (v_all isCh (v_itT (v_idx v_var v_c rfl)) reads_d (big20 hxl) fun x hx => ⟨_, v_nm, v_call1 v_var (hr x S (hxf x hx))⟩)
theorem cut1 {ds : List D} : cutL ds (some 1) none = ds.drop 1 := by
  unfold cutL
  cases ds with
  | nil => rfl
  | cons a l =>
    have e : HT.sIx (a :: l).length 0 (some 1) = 1 := by
      show min 1 _ = 1
      simp
    rw [e]
    show List.take ((a :: l).length - 1) (List.drop 1 (a :: l)) = _
    simp
theorem v_sl1 {f : Ev} {ρ : Tl.Env} {S : Store} {ds : List D} (h : Vl (f ρ) S (.lst ds)) : Vl (mSl f (oSome (mC (.int 1))) oNo ρ) S (.lst (ds.drop 1)) := by
  refine v_bind h (v_bind (a := some 1) rfl (v_bind (a := none) rfl ?_))
  rw [← cut1]; rfl
theorem v_en {f : Ev} {ρ : Tl.Env} {S : Store} {ds : List D} (h : Vl (f ρ) S (.tup ds)) : Vl (mEn f ρ) S (srcEn (srcD ds)) := v_bind h (v_bind (a := srcD ds) rfl rfl)
theorem s_skip {c : Ev} {x rest : Sm} {ρ : Tl.Env} {S : Store} {r : Fl} (hc : Vl (c ρ) S (.bl false)) (hr : Sl rest ρ S r) : Sl (sSeq (sIf c x sSkip) rest) ρ S r := by
  unfold Sl sSeq sIf sBnd
  rw [hc]
  exact hr
theorem s_skip1 {c : Ev} {x : Sm} {ρ : Tl.Env} {S : Store} (hc : Vl (c ρ) S (.bl false)) : Sl (sIf c x sSkip) ρ S (.nx ρ) := by
  unfold Sl sIf sBnd
  rw [hc]; rfl
theorem s_asg {f : Ev} {g : Tg} {ρ ρ' : Tl.Env} {S : Store} {d : D} (h : Vl (f ρ) S d) (h2 : Vl (g d ρ) S ρ') : Sl (sAsg f g) ρ S (.nx ρ') := by
  unfold Sl sAsg sBnd
  rw [h]
  simp only [sTg, h2]
theorem v_add1 {f : Ev} {ρ : Tl.Env} {S : Store} {pl : List D} {g : Ev} {i : D} (h : Vl (f ρ) S (.tup pl)) (h2 : Vl (g ρ) S i) (hl : pl.length ≤ 100) : Vl (mOp addD f (mTup (lCons g lNil)) ρ) S (.tup (pl ++ [i])) := v_op h (v_tup (v_cons h2 v_nil) (by simp)) (by
  show (if pl.length + [i].length ≤ 1000000 then M.ret (D.tup (pl ++ [i])) else M.stuck) S = _
  rw [if_pos (by simp; omega)]; rfl)
theorem mem_en {ds : List D} {p : D} (h : p ∈ ds.zipIdx.map fun p => D.tup [.int p.2, p.1]) : ∃ (i : Nat) (d : D), p = .tup [.int i, d] ∧ ds[i]? = some d := by
  obtain ⟨⟨d, i⟩, hm, rfl⟩ := List.mem_map.mp h
  exact ⟨i, d, rfl, by have := List.mem_zipIdx_iff_getElem?.mp hm; simpa using this⟩
theorem v_lcIn {s : Src} {ds : List D} {tg : Tg} {te : Ev} {ρ : Tl.Env} {S : Store} (k : D → D) (hr : Reads s ds S) (hs : ∀ d ∈ ds, ∃ ρ2, Vl (tg d ρ) S ρ2 ∧ Vl (te ρ2) S (k d)) : ∀ (m i : Nat) (acc : List D), i + m = ds.length → acc.length + ds.length ≤ 100000 + i → Vl (lcIn s tg mYes te ρ m i acc) S (acc ++ (ds.drop i).map k)
  | 0, i, acc, e, _ => by
    have e : i = ds.length := by omega
    subst e
    show (if s.fin S = true then some ((Rs.ok acc : Rs (List D)), S) else none) = _
    rw [if_pos hr.2.2]; simp
  | m + 1, i, acc, e, hl => by
    have hi : i < ds.length := by omega
    have hr1 : s.rd S i = some ds[i] := by rw [hr.2.1 i hi]; exact List.getElem?_eq_getElem hi
    obtain ⟨ρ2, h1, h2⟩ := hs ds[i] (List.getElem_mem hi)
    have ih := v_lcIn k hr hs m (i + 1) (acc ++ [k ds[i]]) (by omega) (by simp; omega)
    have hd : ds.drop i = ds[i] :: ds.drop (i + 1) := List.drop_eq_getElem_cons hi
    rw [hd, List.map_cons]
    have : Vl (lcIn s tg mYes te ρ (m + 1) i acc) S (acc ++ [k ds[i]] ++ (ds.drop (i + 1)).map k) := by
      show (match s.rd S i with
        | none => none
        | some d => ((noX (tg d ρ)).bind fun ρ2 => (noX (mYes ρ2)).bind fun b => match b with
          | .bl true => (noX (te ρ2)).bind fun y => if acc.length < 1000000 then lcIn s tg mYes te ρ m (i + 1) (acc ++ [y]) else M.stuck
          | .bl false => lcIn s tg mYes te ρ m (i + 1) acc
          | _ => M.stuck) S) = _
      rw [hr1]
      have n1 : Vl (noX (tg ds[i] ρ)) S ρ2 := by unfold Vl noX; rw [h1]
      have n2 : Vl (noX (te ρ2)) S (k ds[i]) := by unfold Vl noX; rw [h2]
      have n0 : Vl (noX (mYes ρ2)) S (.bl true) := rfl
      refine v_bind n1 (v_bind n0 (v_bind (m := noX (te ρ2)) n2 ?_))
      rw [if_pos (by omega)]; exact ih
    simpa using this
theorem v_lc2 {it it1 : Tl.Env → M Src} {tg tg1 : Tg} {te : Ev} {vs vs1 : List Nat} {s : Src} {ds : List D} {ρ : Tl.Env} {S : Store} (es : D → List D) (k : D → D → D) (hi : Vl (it ρ) S s) (hr : Reads s ds S) (hl : ∀ d ∈ ds, (es d).length ≤ 20) (hl2 : ds.length ≤ 20)
    (hs : ∀ d ∈ ds, ∃ ρ2 s1, Vl (tg d (wipeD ρ vs)) S ρ2 ∧ Vl (it1 ρ2) S s1 ∧ Reads s1 (es d) S ∧ ∀ x ∈ es d, ∃ ρ3, Vl (tg1 x (wipeD ρ2 vs1)) S ρ3 ∧ Vl (te ρ3) S (k d x)) : Vl (mLc2 it tg mYes it1 tg1 mYes te vs vs1 ρ) S (.lst (ds.flatMap fun d => (es d).map (k d))) := by
  have go : ∀ (m i : Nat) (acc : List D), i + m = ds.length → acc.length ≤ 20 * i → Vl (lc2Go s tg mYes it1 tg1 mYes te vs1 (wipeD ρ vs) m i acc) S (.lst (acc ++ (ds.drop i).flatMap fun d => (es d).map (k d))) := by
    intro m
    induction m with
    | zero =>
      intro i acc e _
      have e : i = ds.length := by omega
      subst e
      show (if s.fin S = true then some ((Rs.ok (.lst acc) : Rs D), S) else none) = _
      rw [if_pos hr.2.2]; simp
    | succ m ih =>
      intro i acc e hla
      have hi : i < ds.length := by omega
      have hr1 : s.rd S i = some ds[i] := by rw [hr.2.1 i hi]; exact List.getElem?_eq_getElem hi
      obtain ⟨ρ2, s1, h1, h2, h3, h4⟩ := hs ds[i] (List.getElem_mem hi)
      have hle := hl ds[i] (List.getElem_mem hi)
      have h5 := v_lcIn (acc := acc) (k ds[i]) h3 h4 s1.n 0 (by rw [h3.1]; omega) (by omega)
      rw [List.drop_zero] at h5
      have ih := ih (i + 1) (acc ++ (es ds[i]).map (k ds[i])) (by omega) (by simp; omega)
      have hd : ds.drop i = ds[i] :: ds.drop (i + 1) := List.drop_eq_getElem_cons hi
      rw [hd, List.flatMap_cons, ← List.append_assoc]
      show (match s.rd S i with
        | none => none
        | some d => ((noX (tg d (wipeD ρ vs))).bind fun ρ2 => (noX (mYes ρ2)).bind fun b => match b with
          | .bl true => (noX (it1 ρ2)).bind fun s1 => (noX (lcIn s1 tg1 mYes te (wipeD ρ2 vs1) s1.n 0 acc)).bind fun acc' => lc2Go s tg mYes it1 tg1 mYes te vs1 (wipeD ρ vs) m (i + 1) acc'
          | .bl false => lc2Go s tg mYes it1 tg1 mYes te vs1 (wipeD ρ vs) m (i + 1) acc
          | _ => M.stuck) S) = _
      rw [hr1]
      have n1 : Vl (noX (tg ds[i] (wipeD ρ vs))) S ρ2 := by unfold Vl noX; rw [h1]
      have n2 : Vl (noX (it1 ρ2)) S s1 := by unfold Vl noX; rw [h2]
      have n3 : Vl (noX (lcIn s1 tg1 mYes te (wipeD ρ2 vs1) s1.n 0 acc)) S (acc ++ (es ds[i]).map (k ds[i])) := by unfold Vl noX; rw [h5]
      have n0 : Vl (noX (mYes ρ2)) S (.bl true) := rfl
      exact v_bind n1 (v_bind n0 (v_bind (m := noX (it1 ρ2)) n2 (v_bind n3 ih)))
  unfold mLc2
  refine v_bind hi ?_
  have := go s.n 0 [] (by rw [hr.1]; omega) (by simp)
  simpa using this
theorem sum_lst {ns : List Int} {S : Store} : Vl (sumD [.lst (ns.map D.int)]) S (.int ns.sum) := by
  show ((asInts (ns.map D.int)).map fun (ms : List Int) => D.int ms.sum).map (fun d => ((Rs.ok d : Rs D), S)) = _
  rw [asInts_map]; rfl
theorem sum_nat : ∀ ns : List Nat, (ns.map fun (n : Nat) => (n : Int)).sum = (ns.sum : Nat)
  | [] => rfl
  | n :: ns => by simp [sum_nat ns]
theorem do_fld {c : Nat} {nm : Str} {fo fe : Ev} {ρ : Tl.Env} {S : Store} {P : Fl → Store → Prop} {n : Nat} {fs : List (Str × D)} {d : D} (h1 : Vl (fe ρ) S d) (h2 : Vl (fo ρ) S (.ref n)) (h3 : S[n]? = some (.ins c fs)) (hl : fs.length < 900) (p : P (.nx ρ) (S.set n (.ins c (putD nm d fs)))) : DoS (sFldS c nm fo fe) ρ S P := by
  unfold sFldS
  rw [do_bnd]
  refine Does.of h1 ?_
  rw [do_bnd]
  refine Does.of h2 ⟨.nx ρ, _, ?_, trivial, p⟩
  show (match S[n]? with
    | some (.ins c' fs) => if c' = c ∧ fs.length < 900 then some (Fl.nx ρ, S.set n (.ins c (putD nm d fs))) else none
    | _ => none) = _
  rw [h3]
  dsimp only
  rw [if_pos ⟨rfl, hl⟩]
theorem call_ok {g : Fnd} {n : Nat} {fs : Evs} {ds : List D} {ρ : Tl.Env} {S : Store} {P : D → Store → Prop} (h : Vl (fs ρ) S ds) (h2 : Does (g ds) S P) (hn : ds.length = n := by rfl) : Does (mCall g n fs ρ) S P := by
  rw [does_call]
  refine Does.of h ?_
  rw [if_pos hn]
  exact h2
theorem do_ifR {c f : Ev} {rest : Sm} {ρ : Tl.Env} {S : Store} {P : Fl → Store → Prop} {k : Bool} (hc : Vl (c ρ) S (.bl k)) (h1 : k = true → Does (f ρ) S fun d S1 => P (.rt d) S1) (h2 : k = false → DoS rest ρ S P) : DoS (sSeq (sIf c (sRet f) sSkip) rest) ρ S P := by
  rw [do_seq, do_if]
  refine Does.of hc ?_
  cases k with
  | true =>
    dsimp only
    rw [do_ret]
    exact h1 rfl
  | false =>
    dsimp only
    rw [do_skip]
    exact h2 rfl
theorem do_ifM {c f : Ev} {j : Nat} {d0 : D} {rest : Sm} {ρ : Tl.Env} {S : Store} {P : Fl → Store → Prop} {k : Bool} (Q : D → Store → Prop) (hc : Vl (c ρ) S (.bl k)) (h0 : ρ[j]? = some (some d0)) (h1 : k = true → Does (f ρ) S Q) (h2 : k = false → Q d0 S)
    (h3 : ∀ d S1, Q d S1 → DoS rest (ρ.set j (some d)) S1 P) : DoS (sSeq (sIf c (sAsg f (gNm j)) sSkip) rest) ρ S P := by
  rw [do_seq, do_if]
  refine Does.of hc ?_
  cases k with
  | true =>
    dsimp only
    rw [do_asg]
    exact (h1 rfl).imp fun d S1 q => Does.of v_nm (h3 d S1 q)
  | false =>
    dsimp only
    rw [do_skip]
    have e : ρ.set j (some d0) = ρ := by
      obtain ⟨hj, e⟩ := List.getElem?_eq_some_iff.mp h0
      rw [← e]; exact List.set_getElem_self hj
    have := h3 d0 S (h2 rfl)
    rw [e] at this
    exact this
theorem do_asgM {f : Ev} {j : Nat} {rest : Sm} {ρ : Tl.Env} {S : Store} {P : Fl → Store → Prop} (h1 : Does (f ρ) S fun d S1 => DoS rest (ρ.set j (some d)) S1 P) : DoS (sSeq (sAsg f (gNm j)) rest) ρ S P := by
  rw [do_seq, do_asg]
  exact h1.imp fun d S1 q => Does.of v_nm q
theorem does_ite {c f g : Ev} {ρ : Tl.Env} {S : Store} {P : D → Store → Prop} {k : Bool} (hc : Vl (c ρ) S (.bl k)) (h1 : k = true → Does (f ρ) S P) (h2 : k = false → Does (g ρ) S P) : Does (mIte c f g ρ) S P := by
  unfold mIte
  rw [does_bind]
  refine Does.of hc ?_
  cases k with
  | true => exact h1 rfl
  | false => exact h2 rfl
theorem does_op {o : D → D → M D} {f g : Ev} {ρ : Tl.Env} {S : Store} {P : D → Store → Prop} : Does (mOp o f g ρ) S P ↔ Does (f ρ) S fun x S1 => Does (g ρ) S1 fun y S2 => Does (o x y) S2 P := by
  simp only [mOp, does_bind]
theorem do_skipI {c : Ev} {x rest : Sm} {ρ : Tl.Env} {S : Store} {P : Fl → Store → Prop} (hc : Vl (c ρ) S (.bl false)) (hr : DoS rest ρ S P) : DoS (sSeq (sIf c x sSkip) rest) ρ S P := by
  rw [do_seq, do_if]
  refine Does.of hc ?_
  show DoS sSkip _ S _
  rw [do_skip]
  exact hr
theorem do_skip1 {c : Ev} {x : Sm} {ρ : Tl.Env} {S : Store} {P : Fl → Store → Prop} (hc : Vl (c ρ) S (.bl false)) (hr : P (.nx ρ) S) : DoS (sIf c x sSkip) ρ S P := by
  rw [do_if]
  refine Does.of hc ?_
  show DoS sSkip _ S _
  rw [do_skip]
  exact hr
theorem some_call {sm : Fnd} (hs : IsSome sm) {c : Nat} {ds : List D} {e : Ev} {ρ : Tl.Env} {S : Store} {P : D → Store → Prop} (hb : Bag c S) (hc : c < LIM) (h0 : ρ[0]? = some (some (.ref 1))) (he : Vl (e ρ) S (.lst ds)) (hl : 0 < ds.length) (hl2 : ds.length < 1000000)
    (hp : ∀ v S', v ∈ ds → Bag (c + 1) S' → Kp [0, 1] S S' → P v S') : Does (mCall sm 2 (lCons (mVar 0) (lCons e lNil)) ρ) S P := by
  rw [does_call]
  refine Does.of (v_cons (v_var h0) (v_cons he v_nil)) ?_
  rw [if_pos (show [D.ref 1, D.lst ds].length = 2 from rfl)]
  exact (hs c ds S hb hc hl hl2).imp fun v S' h => hp v S' h.1 h.2.1 h.2.2
theorem pick_call {pk : Fnd} (hs : IsPick pk) {c n : Nat} {e : Ev} {ρ : Tl.Env} {S : Store} {P : D → Store → Prop} (hb : Bag c S) (hc : c < LIM) (h0 : ρ[0]? = some (some (.ref 1))) (he : Vl (e ρ) S (.int n)) (hl : 0 < n) (hl2 : n < 1000000)
    (hp : ∀ (i : Nat) S', i < n → Bag (c + 1) S' → Kp [0, 1] S S' → P (.int i) S') : Does (mCall pk 2 (lCons (mVar 0) (lCons e lNil)) ρ) S P := by
  rw [does_call]
  refine Does.of (v_cons (v_var h0) (v_cons he v_nil)) ?_
  rw [if_pos (show [D.ref 1, D.int n].length = 2 from rfl)]
  refine (hs c n S hb hc (by omega) (by omega)).imp fun v S' ⟨⟨i, e1, i0, i1⟩, b, k, _⟩ => ?_
  subst e1
  obtain ⟨j, rfl⟩ : ∃ j : Nat, i = j := ⟨i.toNat, by omega⟩
  exact hp j S' (by omega) b k
theorem v_addT {as bs : List D} {S : Store} (h : as.length + bs.length ≤ 1000000) : Vl (addD (.tup as) (.tup bs)) S (.tup (as ++ bs)) := by
  show (if as.length + bs.length ≤ 1000000 then M.ret (D.tup (as ++ bs)) else M.stuck) S = _
  rw [if_pos h]; rfl
theorem v_addL {as bs : List D} {S : Store} (h : as.length + bs.length ≤ 1000000) : Vl (addD (.lst as) (.lst bs)) S (.lst (as ++ bs)) := by
  show (if as.length + bs.length ≤ 1000000 then M.ret (D.lst (as ++ bs)) else M.stuck) S = _
  rw [if_pos h]; rfl

/-! ### right trees -/
theorem Ch.mono {j k : Nat} {p : Int × Int} (h : Ch j p) (hk : j ≤ k) : Ch k p :=
  ⟨h.n0, h.nd, h.d0, Int.le_trans h.dk (by exact_mod_cast Nat.pow_le_pow_right (n := 400) (by decide) hk), h.red⟩
structure HA (w : Nat) (G : List (Int × Int) → D → Prop) (a : An) : Prop where
  wl : a.1.length ≤ 8
  wr : ∀ x ∈ a.1, 0 ≤ x ∧ x ≤ 99
  ww : a.2.1.length = w
  ch : ∀ p ∈ a.2.1, Ch 10 p
  nd : G a.2.1 a.2.2
structure HQ (w : Nat) (G : List (Int × Int) → D → Prop) (ah : List (Int × Int)) (q : D) : Prop where
  ex : ∃ as : List An, q = .tup (as.map ansD) ∧ 1 ≤ as.length ∧ as.length ≤ 12 ∧ (∀ a ∈ as, HA w G a) ∧ as.Pairwise (fun x y => HT.lexLt x.1 y.1 = true) ∧ ∀ j p, ah[j]? = some p → tot (as.map fun a => a.2.1.getD j (0, 1)) = p
def HTr (w : Nat) : Nat → List (Int × Int) → D → Prop
  | 0, _, d => d = .tup []
  | l + 1, ah, d => ∃ qs, d = .tup qs ∧ qs.length ≤ 5 ∧ ∀ q ∈ qs, HQ w (HTr w l) ah q
theorem lex_head {i j : Int} {r s : List Int} (h : i < j) : HT.lexLt (i :: r) (j :: s) = true := by
  show (if i = j then HT.lexLt r s else decide (i < j)) = true
  rw [if_neg (by omega)]; exact decide_eq_true h
theorem gq_pair {w e : Nat} {G : List (Int × Int) → D → Prop} {as : List An} (ha : ∀ i a, as[i]? = some a → GA w e G i a) : as.Pairwise (fun x y => HT.lexLt x.1 y.1 = true) := by
  rw [List.pairwise_iff_getElem]
  intro i j hi hj hij
  obtain ⟨r1, e1, _⟩ := (ha i as[i] (List.getElem?_eq_getElem hi)).wd
  obtain ⟨r2, e2, _⟩ := (ha j as[j] (List.getElem?_eq_getElem hj)).wd
  rw [e1, e2]
  exact lex_head (by omega)
theorem gn_ht {w : Nat} : ∀ (l e : Nat) (ah : List (Int × Int)) (d : D), e + l ≤ 10 → GN w l e ah d → HTr w l ah d
  | 0, e, ah, d, _, h => h
  | l + 1, e, ah, d, he, h => by
    obtain ⟨qs, rfl, hl, hq⟩ := h
    refine ⟨qs, rfl, by omega, fun q hm => ?_⟩
    obtain ⟨as, rfl, h1, h3, ha, hs⟩ := (hq q hm).ex
    refine ⟨as, rfl, h1, by omega, fun a hm => ?_, gq_pair ha, hs⟩
    obtain ⟨i, hi, ei⟩ := List.getElem_of_mem hm
    have g := ha i a (by rw [List.getElem?_eq_getElem hi, ei])
    obtain ⟨r, e1, hr1, hr2⟩ := g.wd
    refine ⟨by rw [e1]; simp; omega, fun x hx => ?_, g.wl, fun p hp => (g.ch p hp).mono (by omega), gn_ht l (e + 1) _ _ (by omega) g.nd⟩
    rw [e1] at hx
    rcases List.mem_cons.mp hx with h | h
    · omega
    · exact hr2 x h
theorem ha_fine {w : Nat} {G : List (Int × Int) → D → Prop} {a : An} (hw : w ≤ 5) (h : HA w G a) (hG : ∀ ah d, G ah d → Fine d) : Fine (ansD a) := by
  have := h.wl
  refine ⟨by simp, ⟨by rw [List.length_map]; omega, fines_iff.mpr fun d hd => ?_⟩, ⟨by rw [List.length_map, h.ww]; omega, fines_iff.mpr fun d hd => ?_⟩, hG _ _ h.nd, trivial⟩
  · obtain ⟨x, hx, rfl⟩ := List.mem_map.mp hd
    have := h.wr x hx
    show x.natAbs < 2 ^ 100
    omega
  · obtain ⟨p, hp, rfl⟩ := List.mem_map.mp hd
    exact (h.ch p hp).fine (by decide)
theorem ht_fine {w : Nat} (hw : w ≤ 5) : ∀ (l : Nat) (ah : List (Int × Int)) (d : D), HTr w l ah d → Fine d
  | 0, ah, d, h => by
    have h : d = .tup [] := h
    subst h; exact ⟨by simp, trivial⟩
  | l + 1, ah, d, h => by
    obtain ⟨qs, rfl, hl, hq⟩ := h
    refine ⟨by omega, fines_iff.mpr fun q hm => ?_⟩
    obtain ⟨as, rfl, h1, h3, ha, _⟩ := (hq q hm).ex
    refine ⟨by rw [List.length_map]; omega, fines_iff.mpr fun d hd => ?_⟩
    obtain ⟨a, hm, rfl⟩ := List.mem_map.mp hd
    exact ha_fine hw (ha a hm) (ht_fine hw l)
/-! tuples of ints -/
theorem ti_tup {ds : List D} : TI (.tup ds) ↔ ∀ d ∈ ds, TI d := by
  show TIs ds ↔ _
  exact tis_iff
theorem ti_ints {xs : List Int} (h : ∀ x ∈ xs, x.natAbs < 2 ^ 400) : TI (.tup (xs.map .int)) := ti_tup.mpr fun d hd => by
  obtain ⟨x, hx, rfl⟩ := List.mem_map.mp hd
  exact h x hx
theorem pow400 {n : Nat} (h : n < 2 ^ 100) : n < 2 ^ 400 := Nat.lt_of_lt_of_le h (Nat.pow_le_pow_right (by decide) (by decide))
theorem ti_fr {p : Int × Int} (h : Bd 100 p) : TI (fr p) := ti_tup.mpr fun d hd => by
  simp only [List.mem_cons, List.not_mem_nil, or_false] at hd
  rcases hd with rfl | rfl
  · exact pow400 h.1
  · exact pow400 h.2.1
theorem ti_frs {ps : List (Int × Int)} (h : ∀ p ∈ ps, Bd 100 p) : TI (.tup (ps.map fr)) := ti_tup.mpr fun d hd => by
  obtain ⟨p, hp, rfl⟩ := List.mem_map.mp hd
  exact ti_fr (h p hp)
theorem ha_ti {w : Nat} {G : List (Int × Int) → D → Prop} {a : An} (h : HA w G a) (hG : TI a.2.2) : TI (ansD a) := ti_tup.mpr fun d hd => by
  simp only [List.mem_cons, List.not_mem_nil, or_false] at hd
  rcases hd with rfl | rfl | rfl
  · refine ti_ints fun x hx => ?_
    have := h.wr x hx
    exact pow400 (by omega)
  · exact ti_frs fun p hp => (h.ch p hp).bd (by decide)
  · exact hG
theorem ht_ti {w : Nat} : ∀ (l : Nat) (ah : List (Int × Int)) (d : D), HTr w l ah d → TI d
  | 0, ah, d, h => by
    have h : d = .tup [] := h
    subst h; exact ti_tup.mpr (by simp)
  | l + 1, ah, d, h => by
    obtain ⟨qs, rfl, hl, hq⟩ := h
    refine ti_tup.mpr fun q hm => ?_
    obtain ⟨as, rfl, h1, h3, ha, _⟩ := (hq q hm).ex
    refine ti_tup.mpr fun d hd => ?_
    obtain ⟨a, hm, rfl⟩ := List.mem_map.mp hd
    exact ha_ti (ha a hm) (ht_ti l _ _ (ha a hm).nd)
theorem szs_le {k : Nat} : ∀ {ds : List D}, (∀ d ∈ ds, sz d ≤ k) → szs ds ≤ ds.length * k
  | [], _ => by simp [szs]
  | d :: ds, h => by
    have h1 := h d List.mem_cons_self
    have h2 := szs_le (ds := ds) fun x hx => h x (List.mem_cons_of_mem _ hx)
    unfold szs
    rw [List.length_cons, Nat.succ_mul]; omega
theorem szs_sum : ∀ (ds : List D), szs ds = (ds.map sz).sum
  | [] => rfl
  | d :: ds => by simp [szs, szs_sum ds]
theorem deps_le {k : Nat} : ∀ {ds : List D}, (∀ d ∈ ds, dep d ≤ k) → deps ds ≤ k
  | [], _ => by simp [deps]
  | d :: ds, h => by
    have h1 := h d List.mem_cons_self
    have h2 := deps_le (ds := ds) fun x hx => h x (List.mem_cons_of_mem _ hx)
    unfold deps; omega
theorem sz_fr (p : Int × Int) : sz (fr p) = 3 := by simp [fr, sz, szs]
theorem dep_fr (p : Int × Int) : dep (fr p) = 1 := by simp [fr, dep, deps]
theorem sz_frs (ps : List (Int × Int)) : sz (.tup (ps.map fr)) = 1 + 3 * ps.length := by
  have : ∀ ps : List (Int × Int), szs (ps.map fr) = 3 * ps.length := fun ps => by
    induction ps with
    | nil => simp [szs]
    | cons p ps ih => simp only [List.map_cons, szs, sz_fr, ih, List.length_cons]; omega
  unfold sz; rw [this]
theorem sz_ints (xs : List Int) : sz (.tup (xs.map .int)) = 1 + xs.length := by
  have : ∀ xs : List Int, szs (xs.map .int) = xs.length := fun xs => by
    induction xs with
    | nil => simp [szs]
    | cons p ps ih => simp only [List.map_cons, szs, sz, ih, List.length_cons]; omega
  unfold sz; rw [this]
theorem dep_frs (ps : List (Int × Int)) : dep (.tup (ps.map fr)) ≤ 2 := by
  unfold dep
  have := deps_le (k := 1) (ds := ps.map fr) fun d hd => by
    obtain ⟨p, _, rfl⟩ := List.mem_map.mp hd
    rw [dep_fr]; exact Nat.le_refl _
  omega
theorem dep_ints (xs : List Int) : dep (.tup (xs.map .int)) ≤ 1 := by
  unfold dep
  have := deps_le (k := 0) (ds := xs.map .int) fun d hd => by
    obtain ⟨p, _, rfl⟩ := List.mem_map.mp hd
    exact Nat.le_refl _
  omega
theorem ht_dep {w : Nat} : ∀ (l : Nat) (ah : List (Int × Int)) (d : D), HTr w l ah d → dep d ≤ 3 * l + 2
  | 0, ah, d, h => by
    have h : d = .tup [] := h
    subst h; simp [dep, deps]
  | l + 1, ah, d, h => by
    obtain ⟨qs, rfl, hl, hq⟩ := h
    have := deps_le (k := 3 * l + 4) (ds := qs) fun q hm => by
      obtain ⟨as, rfl, h1, h3, ha, _⟩ := (hq q hm).ex
      have := deps_le (k := 3 * l + 3) (ds := as.map ansD) fun d hd => by
        obtain ⟨a, hm, rfl⟩ := List.mem_map.mp hd
        have h4 := dep_ints a.1
        have h5 := dep_frs a.2.1
        have h6 := ht_dep l _ _ (ha a hm).nd
        show 1 + max (dep (.tup (a.1.map .int))) (max (dep (.tup (a.2.1.map fr))) (max (dep a.2.2) 0)) ≤ _
        omega
      show 1 + deps _ ≤ _
      omega
    show 1 + deps _ ≤ _
    omega
theorem sum_le_sum {α : Type} {f g : α → Nat} : ∀ {l : List α}, (∀ a ∈ l, f a ≤ g a) → (l.map f).sum ≤ (l.map g).sum
  | [], _ => by simp
  | a :: l, h => by
    have h1 := h a List.mem_cons_self
    have h2 := sum_le_sum (l := l) fun x hx => h x (List.mem_cons_of_mem _ hx)
    simp only [List.map_cons, List.sum_cons]; omega
theorem sum_mul {α : Type} (k : Nat) (f : α → Nat) : ∀ (l : List α), (l.map fun a => k * f a).sum = k * (l.map f).sum
  | [] => by simp
  | a :: l => by simp only [List.map_cons, List.sum_cons, sum_mul k f l, Nat.mul_add]
theorem sum_add1 {α : Type} (f : α → Nat) : ∀ (l : List α), (l.map fun a => 1 + f a).sum = l.length + (l.map f).sum
  | [] => by simp
  | a :: l => by simp only [List.map_cons, List.sum_cons, sum_add1 f l, List.length_cons]; omega
theorem ht_sz {w : Nat} (hw : w ≤ 5) : ∀ (l : Nat) (ah : List (Int × Int)) (d : D), HTr w l ah d → sz d ≤ 1 + 30 * cntF l d
  | 0, ah, d, h => by
    have h : d = .tup [] := h
    subst h; simp [sz, szs]
  | l + 1, ah, d, h => by
    obtain ⟨qs, rfl, hl, hq⟩ := h
    have hqz : ∀ q ∈ qs, sz q ≤ 30 * ((items q).map fun a => 1 + cntF l (at_ 2 a)).sum := fun q hm => by
      obtain ⟨as, rfl, h1, h3, ha, _⟩ := (hq q hm).ex
      have haz : ∀ d ∈ as.map ansD, sz d ≤ 29 * (1 + cntF l (at_ 2 d)) + cntF l (at_ 2 d) := fun d hd => by
        obtain ⟨a, hm, rfl⟩ := List.mem_map.mp hd
        have h4 := sz_ints a.1
        have h5 := sz_frs a.2.1
        have h6 := ht_sz hw l _ _ (ha a hm).nd
        have h7 := (ha a hm).wl
        have h8 := (ha a hm).ww
        show 1 + (sz (.tup (a.1.map .int)) + (sz (.tup (a.2.1.map fr)) + (sz a.2.2 + 0))) ≤ 29 * (1 + cntF l a.2.2) + cntF l a.2.2
        omega
      have e := sum_le_sum haz
      rw [← szs_sum] at e
      have e2 : ∀ ds : List D, (ds.map fun d => 29 * (1 + cntF l (at_ 2 d)) + cntF l (at_ 2 d)).sum + ds.length = 30 * (ds.map fun d => 1 + cntF l (at_ 2 d)).sum := fun ds => by
        induction ds with
        | nil => simp
        | cons a ds ih => simp only [List.map_cons, List.sum_cons, List.length_cons]; omega
      have e3 := e2 (as.map ansD)
      rw [List.length_map] at e3
      show 1 + szs (as.map ansD) ≤ 30 * ((as.map ansD).map fun a => 1 + cntF l (at_ 2 a)).sum
      omega
    have e := sum_le_sum hqz
    rw [← szs_sum, sum_mul] at e
    show 1 + szs qs ≤ 1 + 30 * (qs.map fun q => ((items q).map fun a => 1 + cntF l (at_ 2 a)).sum).sum
    omega
theorem rising_ok {as : List An} (ha : as.Pairwise (fun x y => HT.lexLt x.1 y.1 = true)) (hl : as.length ≤ 12) (S : Store) : Vl (B_are_rising [.lst (as.map fun a => .tup (a.1.map D.int))]) S (.bl true) := by
  unfold B_are_rising
  refine s_body (s_ret (Vl.to (v_all (fun _ => true) (v_zipL v_var (v_sl1 v_var)) (reads_zip reads_d reads_d) (by simp; omega) fun d hd => ?_) (by simp)))
  obtain ⟨⟨x, y⟩, hm, rfl⟩ := List.mem_map.mp hd
  obtain ⟨i, hi, e⟩ := List.getElem_of_mem hm
  have hi : i < min as.length (as.length - 1) := by simpa using hi
  simp only [List.getElem_zip, List.getElem_map, List.getElem_drop, Prod.mk.injEq] at e
  obtain ⟨e1, e2⟩ := e
  have hlt := List.pairwise_iff_getElem.mp ha i (1 + i) (by omega) (by omega) (by omega)
  subst e1 e2
  refine ⟨_, v_g2, v_op v_var v_var ?_⟩
  show (match asInts (as[i].1.map D.int), asInts (as[1 + i].1.map D.int) with
    | some x, some y => M.ret (D.bl (HT.lexLt x y))
    | _, _ => M.stuck) S = _
  rw [asInts_map, asInts_map]
  dsimp only
  rw [hlt]; rfl
theorem added_ok {p : Fnd} (hp : IsTotal p) {w : Nat} {G : List (Int × Int) → D → Prop} {ah : List (Int × Int)} {as : List An} (hw : w ≤ 5) (hal : ah.length = w) (hl : as.length ≤ 12) (ha : ∀ a ∈ as, HA w G a) (hs : ∀ j q, ah[j]? = some q → tot (as.map fun a => a.2.1.getD j (0, 1)) = q) (S : Store) :
    Vl (B_added_weights p [.int w, .tup (as.map ansD)]) S (.tup (ah.map fr)) := by
  unfold B_added_weights
  refine s_body (s_ret (v_cl1 (x := .lst (((List.range w).map fun (i : Nat) => D.int (0 + i)).map fun d => match d with
    | .int j => fr (ah.getD j.toNat (0, 1))
    | _ => .non)) (v_map _ (s := srcRg 0 w) ?_ reads_rg (by simp; omega) fun d hd => ?_) ?_))
  · unfold mRg1
    refine v_bind v_var ?_
    show (if (-1000000 : Int) ≤ (w : Int) ∧ (w : Int) ≤ 1000000 then M.ret (srcRg 0 (w : Int).toNat) else M.stuck) S = _
    rw [if_pos (by omega)]; rfl
  · obtain ⟨j, hj, rfl⟩ := List.mem_map.mp hd
    have hj : j < w := by simpa using hj
    rw [show (0 + (j : Int)) = ((j : Nat) : Int) by omega]
    have hq : ah[j]? = some ah[j] := List.getElem?_eq_getElem (by omega)
    have gx : ∀ a ∈ as, a.2.1[j]? = some (a.2.1.getD j (0, 1)) ∧ Bd 101 (a.2.1.getD j (0, 1)) := fun a hm => by
      have g := ha a hm
      have hjl : j < a.2.1.length := by rw [g.ww]; exact hj
      have : a.2.1.getD j (0, 1) = a.2.1[j] := by simp [List.getD, hjl]
      rw [this]
      exact ⟨List.getElem?_eq_getElem hjl, ((g.ch _ (List.getElem_mem hjl)).bd (by decide)).mono (by decide)⟩
    refine ⟨_, v_nm, v_call1 (x := .lst ((as.map fun a => a.2.1.getD j (0, 1)).map fr)) ?_ ?_⟩
    · refine Vl.to (v_map (fun d => at_ j (at_ 1 d)) (v_itT v_var) reads_d (by rw [List.length_map]; omega) fun d hd => ?_) ?_
      · obtain ⟨a, hm, rfl⟩ := List.mem_map.mp hd
        refine ⟨_, v_nm, v_idx (v_idx v_var v_c rfl) v_var (getAt_v ?_)⟩
        rw [List.getElem?_map, (gx a hm).1]
        show some (fr _) = some (((a.2.1.map fr)).getD j .non)
        rw [List.getD_eq_getElem?_getD, List.getD_eq_getElem?_getD, List.getElem?_map, (gx a hm).1]; rfl
      · rw [List.map_map, List.map_map]
        refine congrArg D.lst (List.map_congr_left fun a hm => ?_)
        show (a.2.1.map fr).getD j .non = fr (a.2.1.getD j (0, 1))
        rw [List.getD_eq_getElem?_getD, List.getElem?_map, (gx a hm).1]; rfl
    · have := hp (as.map fun a => a.2.1.getD j (0, 1)) S _ (.inl rfl) (by rw [List.length_map]; omega) fun q hq' => by
        obtain ⟨a, hm, rfl⟩ := List.mem_map.mp hq'
        exact (gx a hm).2
      rw [hs j _ hq] at this
      show Vl _ S (fr (ah.getD ((j : Nat) : Int).toNat (0, 1)))
      rw [Int.toNat_natCast]
      have e2 : ah.getD j (0, 1) = ah[j] := by simp [List.getD, hq]
      rw [e2]; exact this
  · rw [List.map_map]
    refine congrArg (fun l => some ((Rs.ok (D.tup l) : Rs D), S)) ?_
    refine List.ext_getElem (by simp [hal]) fun j h1 h2 => ?_
    have hj : j < w := by simpa using h1
    simp only [List.getElem_map, List.getElem_range, Function.comp]
    show fr (ah.getD (0 + (j : Int)).toNat (0, 1)) = _
    rw [show (0 + (j : Int)).toNat = j by omega]
    simp [List.getD, show j < ah.length by omega]
def IsWN (l : Nat) (f : Fnd) : Prop := ∀ (w : Nat) ah d pl S, w ≤ 5 → ah.length = w → pl.length + 2 * l ≤ 15 → HTr w l ah d → Vl (f [.int w, d, .tup (ah.map fr), .tup pl]) S .non
def IsWQ (l : Nat) (f : Fnd) : Prop := ∀ (w : Nat) ah d pl S, w ≤ 5 → ah.length = w → pl.length + 2 * l + 1 ≤ 15 → HQ w (HTr w l) ah d → Vl (f [.int w, d, .tup (ah.map fr), .tup pl]) S .non
theorem ha_ans {w : Nat} {G : List (Int × Int) → D → Prop} {a : An} (h : HA w G a) : isAns w (ansD a) = true := by
  have h8 := h.wl
  have e2 : isWord (.tup (a.1.map D.int)) = true := by
    unfold isWord sizedD items
    simp only [List.length_map, Bool.and_eq_true, decide_eq_true_eq]
    refine ⟨⟨by omega, by omega⟩, List.all_eq_true.mpr fun d hd => ?_⟩
    obtain ⟨x, hx, rfl⟩ := List.mem_map.mp hd
    have := h.wr x hx
    simp [within]; omega
  have e3 : sizedD w w (.tup (a.2.1.map fr)) = true := by
    unfold sizedD
    simp [h.ww]
  have e4 : (a.2.1.map fr).all isCh = true := List.all_eq_true.mpr fun d hd => by
    obtain ⟨p, hp, rfl⟩ := List.mem_map.mp hd
    exact (h.ch p hp).isCh
  show (!(!lenIs 3 (ansD a) || (!isWord (.tup (a.1.map D.int)) || !sizedD w w (.tup (a.2.1.map fr)))) && (a.2.1.map fr).all isCh) = true
  rw [e2, e3, e4]
  rfl
theorem wrong_node_ok {p q : Fnd} (hp : IsSized p) {l : Nat} (hq : ∀ l', l = l' + 1 → IsWQ l' q) : IsWN l (B_wrong_in_node p q) := by
  intro w ah d pl S hw hal hpl hg
  have hfine := ht_fine hw l ah d hg
  obtain ⟨qs, rfl, hl, hqs⟩ : ∃ qs, d = .tup qs ∧ qs.length ≤ 5 ∧ ∀ q ∈ qs, ∃ l', l = l' + 1 ∧ HQ w (HTr w l') ah q := by
    cases l with
    | zero =>
      have hg : d = .tup [] := hg
      exact ⟨[], hg, by simp, by simp⟩
    | succ l =>
      obtain ⟨qs, h1, h2, h3⟩ := hg
      exact ⟨qs, h1, h2, fun q hm => ⟨l, rfl, h3 q hm⟩⟩
  unfold B_wrong_in_node
  refine s_body (s_skip ?_ ?_)
  · refine Vl.to (v_or (a := false) (b := false) (Vl.to (v_not (v_B (v_call3 v_var v_c v_c (hp _ 0 5 S hfine)))) ?_) fun _ => Vl.to (v_and (a := false) (b := false) (Vl.to (v_B (v_op (v_len v_var) (v_op v_c v_c (v_mul (by decide) (by decide))) v_eqi)) ?_) fun z => nomatch z) rfl) rfl
    · simp [sizedD]; omega
    · congr 1; simp; omega
  · have loop := s_for (S := S) (ρ := startD 7 [.int w, .tup qs, .tup (ah.map fr), .tup pl]) (it := mEn (mVar 1)) (tg := gTp 2 (gsCons (gNm 4) (gsCons (gNm 5) gsNil)))
      (b := sSeq (sAsg (mCall q 4 (lCons (mVar 0) (lCons (mVar 5) (lCons (mVar 2) (lCons (mOp addD (mVar 3) (mTup (lCons (mVar 4) lNil))) lNil))))) (gNm 6)) (sIf (mB (mOp (isD true) (mVar 6) (mC .non))) (sRet (mVar 6)) sSkip))
      (fun ρ => ∃ a b c, ρ = [some (.int w), some (.tup qs), some (.tup (ah.map fr)), some (.tup pl), a, b, c]) (fun _ => true) (v_en v_var) (reads_en reads_d) ⟨_, _, _, rfl⟩ (by
        rintro x hx ρ ⟨a, b, c, rfl⟩
        obtain ⟨i, d, rfl, hd⟩ := mem_en hx
        obtain ⟨l', rfl, hg'⟩ := hqs d (List.mem_of_getElem? hd)
        refine ⟨fun _ => ⟨_, s_tg v_g2 (s_then (s_asg (v_call (v_cons v_var (v_cons v_var (v_cons v_var (v_cons (v_add1 v_var v_var (by omega)) v_nil)))) rfl (hq l' rfl w ah d (pl ++ [.int i]) S hw hal (by simp; omega) hg')) v_nm) (s_skip1 (v_B (v_op v_var v_c rfl)))), _, _, _, rfl⟩, fun z => nomatch z⟩)
    obtain ⟨ρ', h1, _⟩ := loop.1 (by simp)
    exact s_then h1 (s_ret v_c)
theorem wrong_ques_ok {p q : Fnd} {p4 p5 : Fnd} (hp : IsSized p) (hq : IsAns q) (h4 : IsTotal p4) {l : Nat} (h5 : IsWN l p5) : IsWQ l (B_wrong_in_question p B_are_rising q (B_added_weights p4) p5) := by
  intro w ah d pl S hw hal hpl hg
  obtain ⟨as, rfl, h1, h3, ha, hr, hs⟩ := hg.ex
  have hfine : Fine (.tup (as.map ansD)) := ⟨by rw [List.length_map]; omega, fines_iff.mpr fun d hd => by
    obtain ⟨a, hm, rfl⟩ := List.mem_map.mp hd
    exact ha_fine hw (ha a hm) (ht_fine hw l)⟩
  obtain ⟨_, hff⟩ := fine_tup hfine
  unfold B_wrong_in_question
  refine s_body (s_skip ?_ ?_)
  · refine Vl.to (v_not (v_B (v_call3 v_var v_c v_c (hp _ 1 12 S hfine)))) ?_
    simp [sizedD]; omega
  · have loop := s_for (S := S) (ρ := startD 7 [.int w, .tup (as.map ansD), .tup (ah.map fr), .tup pl]) (it := mEn (mVar 1)) (tg := gTp 2 (gsCons (gNm 4) (gsCons (gNm 5) gsNil)))
      (b := sIf (mNot (mB (mCall q 2 (lCons (mVar 0) (lCons (mVar 5) lNil))))) (sRet (mOp addD (mVar 3) (mTup (lCons (mVar 4) lNil)))) sSkip)
      (fun ρ => ∃ a b c, ρ = [some (.int w), some (.tup (as.map ansD)), some (.tup (ah.map fr)), some (.tup pl), a, b, c]) (fun _ => true) (v_en v_var) (reads_en reads_d) ⟨_, _, _, rfl⟩ (by
        rintro x hx ρ ⟨a, b, c, rfl⟩
        obtain ⟨i, d, rfl, hd⟩ := mem_en hx
        have hfd := hff d (List.mem_of_getElem? hd)
        rw [List.getElem?_map] at hd
        cases hai : as[i]? with
        | none => rw [hai] at hd; cases hd
        | some an =>
          rw [hai] at hd; cases hd
          have hi := (List.getElem?_eq_some_iff.mp hai).1
          refine ⟨fun _ => ⟨_, s_tg v_g2 (s_skip1 (Vl.to (v_not (v_B (v_call2 v_var v_var (hq w (ansD an) S hfd)))) ?_)), _, _, _, rfl⟩, fun z => nomatch z⟩
          rw [ha_ans (ha an (List.mem_of_getElem? hai))]; rfl)
    obtain ⟨ρ', l1, a, b, c, rfl⟩ := loop.1 (by simp)
    refine s_then l1 (s_skip ?_ ?_)
    · have hr := rising_ok (as := as) hr h3 S
      have hm : Vl (mLc (mIt (mVar 1)) (gNm 5) mYes (mOp idxD (mVar 5) (mC (.int 0))) [5] [some (.int w), some (.tup (as.map ansD)), some (.tup (ah.map fr)), some (.tup pl), a, b, c]) S (.lst (as.map fun a => .tup (a.1.map D.int))) := by
        refine Vl.to (v_map (at_ 0) (v_itT v_var) reads_d (by rw [List.length_map]; omega) fun d hd => ?_) ?_
        · obtain ⟨an, hm, rfl⟩ := List.mem_map.mp hd
          exact ⟨_, v_nm, v_idx v_var v_c rfl⟩
        · rw [List.map_map]; rfl
      refine Vl.to (v_or (a := false) (b := false) (Vl.to (v_not (v_B (v_call1 hm hr))) rfl) fun _ => Vl.to (v_B (v_op (v_call2 v_var v_var (added_ok h4 hw hal h3 ha hs S)) v_var (show Vl (neD (.tup (ah.map fr)) (.tup (ah.map fr))) S (.bl (!(ah == ah))) by rw [ne_frs]; rfl))) (by simp)) rfl
    · have loop2 := s_for (S := S) (ρ := [some (.int w), some (.tup (as.map ansD)), some (.tup (ah.map fr)), some (.tup pl), a, b, c]) (it := mEn (mVar 1)) (tg := gTp 2 (gsCons (gNm 4) (gsCons (gNm 5) gsNil)))
        (b := sSeq (sAsg (mCall p5 4 (lCons (mVar 0) (lCons (mOp idxD (mVar 5) (mC (.int 2))) (lCons (mOp idxD (mVar 5) (mC (.int 1))) (lCons (mOp addD (mVar 3) (mTup (lCons (mVar 4) lNil))) lNil))))) (gNm 6)) (sIf (mB (mOp (isD true) (mVar 6) (mC .non))) (sRet (mVar 6)) sSkip))
        (fun ρ => ∃ a b c, ρ = [some (.int w), some (.tup (as.map ansD)), some (.tup (ah.map fr)), some (.tup pl), a, b, c]) (fun _ => true) (v_en v_var) (reads_en reads_d) ⟨_, _, _, rfl⟩ (by
          rintro x hx ρ ⟨a, b, c, rfl⟩
          obtain ⟨i, d, rfl, hd⟩ := mem_en hx
          rw [List.getElem?_map] at hd
          cases hai : as[i]? with
          | none => rw [hai] at hd; cases hd
          | some an =>
            rw [hai] at hd; cases hd
            have g := ha an (List.mem_of_getElem? hai)
            refine ⟨fun _ => ⟨_, s_tg v_g2 (s_then (s_asg (v_call (v_cons v_var (v_cons (v_idx v_var v_c rfl) (v_cons (v_idx v_var v_c rfl) (v_cons (v_add1 v_var v_var (by omega)) v_nil)))) rfl (h5 w an.2.1 an.2.2 (pl ++ [.int i]) S hw g.ww (by simp; omega) g.nd)) v_nm) (s_skip1 (v_B (v_op v_var v_c rfl)))), _, _, _, rfl⟩, fun z => nomatch z⟩)
      obtain ⟨ρ', l2, _⟩ := loop2.1 (by simp)
      exact s_then l2 (s_ret v_c)
def IsCnt (l : Nat) (f : Fnd) : Prop := ∀ (w : Nat) ah d S, HTr w l ah d → Vl (f [d]) S (.int (cntF l d))
theorem flat_sum (f : D → Nat) : ∀ qs : List D, (qs.flatMap fun q => (items q).map f).sum = (qs.map fun q => ((items q).map f).sum).sum
  | [] => rfl
  | q :: qs => by simp only [List.flatMap_cons, List.sum_append, List.map_cons, List.sum_cons, flat_sum f qs]
theorem count_ok {f : Fnd} {l : Nat} (hf : ∀ l', l = l' + 1 → IsCnt l' f) : IsCnt l (B_count_answers f) := by
  intro w ah d S hg
  unfold B_count_answers
  obtain ⟨qs, rfl, hl, hqs⟩ : ∃ qs, d = .tup qs ∧ qs.length ≤ 5 ∧ ∀ q ∈ qs, ∃ l', l = l' + 1 ∧ HQ w (HTr w l') ah q := by
    cases l with
    | zero =>
      have hg : d = .tup [] := hg
      exact ⟨[], hg, by simp, by simp⟩
    | succ l =>
      obtain ⟨qs, h1, h2, h3⟩ := hg
      exact ⟨qs, h1, h2, fun q hm => ⟨l, rfl, h3 q hm⟩⟩
  refine s_body (s_ret (v_cl1 (x := .lst (qs.flatMap fun q => (items q).map fun a => .int (1 + (cntF (l - 1) (at_ 2 a) : Int)))) (v_lc2 (s := srcD qs) items (fun q a => .int (1 + (cntF (l - 1) (at_ 2 a) : Int))) (v_itT v_var) reads_d (fun q hm => ?_) (by omega) fun q hm => ?_) ?_))
  · obtain ⟨l', rfl, hg'⟩ := hqs q hm
    obtain ⟨as, rfl, h1, h3, ha, _⟩ := hg'.ex
    show (as.map ansD).length ≤ 20
    rw [List.length_map]; omega
  · obtain ⟨l', rfl, hg'⟩ := hqs q hm
    obtain ⟨as, rfl, h1, h3, ha, _⟩ := hg'.ex
    refine ⟨_, _, v_nm, v_itT v_var, reads_d, fun x hx => ?_⟩
    have hx : x ∈ as.map ansD := hx
    obtain ⟨an, hma, rfl⟩ := List.mem_map.mp hx
    exact ⟨_, v_nm, v_op v_c (v_call1 (v_idx v_var v_c rfl) (hf l' rfl w _ _ S (ha an hma).nd)) rfl⟩
  · have e1 : (qs.flatMap fun q => (items q).map fun a => D.int (1 + (cntF (l - 1) (at_ 2 a) : Int))) = ((qs.flatMap fun q => (items q).map fun a => 1 + cntF (l - 1) (at_ 2 a)).map fun (n : Nat) => (n : Int)).map D.int := by
      rw [List.map_map, List.map_flatMap]
      simp only [List.map_map]
      rfl
    rw [e1]
    refine Vl.to sum_lst ?_
    rw [sum_nat]
    cases l with
    | zero =>
      have hg : D.tup qs = .tup [] := hg
      cases hg
      rfl
    | succ l => rw [flat_sum]; rfl
def house (w : Int) (tree : D) : SO := .ins 0 [("worlds", .int w), ("tree", tree)]
def IsHouse (f : Fnd) : Prop := ∀ (w l : Nat) tree S n, S[n]? = some (.ins 0 []) → 1 ≤ w → w ≤ 5 → l ≤ 7 → HTr w l (ones w) tree → cntF l tree ≤ 1500 → Does (f [.ref n, .int w, tree]) S fun v S' => v = .non ∧ S' = S.set n (house w tree)
theorem house_ok {p q r : Fnd} (hp : IsWithin p) (hq : ∀ l, l ≤ 7 → IsWN l q) (hr : ∀ l, l ≤ 7 → IsCnt l r) : IsHouse (B_House p q r) := by
  intro w l tree S n hn hw1 hw3 hl hg hb
  unfold B_House
  rw [does_body]
  simp only [startD, List.map_cons, List.map_nil, List.length_cons, List.length_nil, List.replicate, List.cons_append, List.nil_append, Nat.reduceAdd, Nat.reduceSub]
  have sk : ∀ {c : Ev} {x rest : Sm} {ρ : Tl.Env} {P : Fl → Store → Prop}, Vl (c ρ) S (.bl false) → DoS rest ρ S P → DoS (sSeq (sIf c x sSkip) rest) ρ S P := fun hc hr => by
    rw [do_seq, do_if]
    refine Does.of hc ?_
    show DoS sSkip _ S _
    rw [do_skip]
    exact hr
  refine sk (Vl.to (v_not (v_B (v_call3 v_var v_c v_c (hp (.int w) 1 5 S (by show ((w : Int)).natAbs < 2 ^ 100; omega))))) ?_) ?_
  · simp [within]; omega
  rw [do_seq, do_asg]
  have h1 : Vl (mOp mulD (mTup (lCons (mC (.tup [(.int 1), (.int 1)])) lNil)) (mVar 1) [some (.ref n), some (.int w), some tree, none]) S (.tup ((ones w).map fr)) := by
    refine v_op (v_tup (v_cons (x := fr (1, 1)) v_c v_nil) (by simp)) v_var (Vl.to (v_mulT (by omega) (by simp)) ?_)
    rw [ones_D]
  refine Does.of (v_call (v_cons v_var (v_cons v_var (v_cons h1 (v_cons (v_tup v_nil (by simp)) v_nil)))) rfl (hq l hl w (ones w) tree [] S hw3 (by simp [ones]) (by simp; omega) hg)) ?_
  refine Does.of v_nm ?_
  simp only [List.set_cons_zero, List.set_cons_succ]
  refine sk (v_B (v_op v_var v_c rfl)) ?_
  refine sk (Vl.to (v_B (v_op (v_call1 v_var (hr l hl w (ones w) tree S hg)) v_c v_ord)) ?_) ?_
  · congr 1
    exact decide_eq_false (by omega)
  rw [do_seq]
  refine do_fld (n := n) v_var v_var hn (by simp) ?_
  have hl := (List.getElem?_eq_some_iff.mp hn).1
  refine do_fld (n := n) (fs := [("worlds", .int w)]) v_var v_var (set_get hl) (by simp) ?_
  refine ⟨trivial, ?_⟩
  rw [List.set_set]
  have : ¬ (("worlds" : Str) = "tree") := by decide +kernel
  have e : SO.ins 0 (putD "tree" tree [("worlds", .int w)]) = house w tree := by
    unfold putD house
    rw [if_neg this]
    rfl
  exact congrArg (S.set n) e
/-! ### rounds, and houses that are known to be right -/
def mrF : Nat → D → Int
  | 0, _ => 0
  | l + 1, d => ((items d).flatMap fun q => (items q).map fun a => 1 + mrF l (at_ 2 a)).foldl max 0
theorem fold_max {xs : List Int} {k : Int} (hk : 0 ≤ k) (h : ∀ x ∈ xs, x ≤ k) : ∀ a, 0 ≤ a → a ≤ k → 0 ≤ xs.foldl max a ∧ xs.foldl max a ≤ k := by
  induction xs with
  | nil => exact fun a h1 h2 => ⟨h1, h2⟩
  | cons x xs ih =>
    intro a h1 h2
    have := h x List.mem_cons_self
    exact ih (fun y hy => h y (List.mem_cons_of_mem _ hy)) (max a x) (by omega) (by omega)
theorem mr_bd : ∀ (l : Nat) (d : D), 0 ≤ mrF l d ∧ mrF l d ≤ l
  | 0, d => by simp [mrF]
  | l + 1, d => by
    unfold mrF
    refine fold_max (by omega) (fun x hx => ?_) 0 (by omega) (by omega)
    obtain ⟨q, _, hx⟩ := List.mem_flatMap.mp hx
    obtain ⟨a, _, rfl⟩ := List.mem_map.mp hx
    have := (mr_bd l (at_ 2 a)).2
    push_cast; omega
def IsMost (l : Nat) (f : Fnd) : Prop := ∀ (w : Nat) ah d S, HTr w l ah d → Vl (f [d]) S (.int (mrF l d))
def raw (w : Int) (tree : D) : SO := .ins 1 [("worlds", .int w), ("tree", tree)]
def IsRaw (f : Fnd) : Prop := ∀ (w : Int) tree S n, S[n]? = some (.ins 1 []) → Does (f [.ref n, .int w, tree]) S fun v S' => v = .non ∧ S' = S.set n (raw w tree)
theorem mk_ins {g : Fnd} {c : Nat} {o : SO} {fs : Evs} {ρ : Tl.Env} {S : Store} {ds : List D} {P : D → Store → Prop} {k : Nat} (h : Vl (fs ρ) S ds) (hk : ds.length + 1 = k) (hg : ∀ (S : Store) n, S[n]? = some (.ins c []) → Does (g (.ref n :: ds)) S fun v S' => v = .non ∧ S' = S.set n o) (hp : P (.ref S.length) (S ++ [o])) : Does (mMake c g k fs ρ) S P := by
  unfold mMake
  rw [does_bind]
  refine Does.of h ?_
  rw [if_pos hk]
  have e := Does.eq (a := .non) (S' := (S ++ [SO.ins c []]).set S.length o) ((hg (S ++ [.ins c []]) S.length (by simp)).imp fun a S' h => h)
  refine ⟨.ref S.length, S ++ [o], ?_, hp⟩
  show (match g (D.ref S.length :: ds) (S ++ [SO.ins c []]) with
    | some (Rs.ok D.non, S') => some (Rs.ok (D.ref S.length), S')
    | some (Rs.exc c fs, S') => some (Rs.exc c fs, S')
    | x => none) = _
  rw [e]
  simp
def IsMade (f : Fnd) : Prop := ∀ (w l : Nat) ah tree S, HTr w l ah tree → l ≤ 12 → cntF l tree ≤ 3000 → Does (f [.int w, tree]) S fun v S' => v = .ref S.length ∧ S' = S ++ [raw w tree]
theorem mk_house {g : Fnd} (hH : IsHouse g) {fs : Evs} {ρ : Tl.Env} {S : Store} {w l : Nat} {tree : D} {P : D → Store → Prop} (h : Vl (fs ρ) S [.int w, tree]) (hw1 : 1 ≤ w) (hw3 : w ≤ 5) (hl : l ≤ 7) (hg : HTr w l (ones w) tree) (hc : cntF l tree ≤ 1500) (hp : P (.ref S.length) (S ++ [house w tree])) : Does (mMake 0 g 3 fs ρ) S P :=
  mk_ins (ds := [.int w, tree]) h rfl (fun S n hn => hH w l tree S n hn hw1 hw3 hl hg hc) hp
end Lw
set_option Elab.async false
set_option linter.all false
set_option maxRecDepth 100000
set_option maxHeartbeats 4000000
set_option autoImplicit false
namespace Lw
open PySem L2 Tl
/-! ### plain things, graded -/
mutual
def FG (b n : Nat) : D → Prop
  | .int i => i.natAbs < 2 ^ b
  | .tup ds => ds.length ≤ n ∧ FGs b n ds
  | .lst ds => ds.length ≤ n ∧ FGs b n ds
  | .str s => s.length ≤ 100 ∧ PyData.canLay0 (.str s) = true
  | .non => True
  | .bl _ => True
  | .dct => True
  | .scr _ => False
  | .ref _ => False
  | .fn _ => False
  | .thk _ _ _ _ _ => False
def FGs (b n : Nat) : List D → Prop
  | [] => True
  | d :: ds => FG b n d ∧ FGs b n ds
end
theorem fgs_iff {b n : Nat} : ∀ {ds : List D}, FGs b n ds ↔ ∀ d ∈ ds, FG b n d
  | [] => by simp [FGs]
  | d :: ds => by simp [FGs, fgs_iff (ds := ds)]
mutual
theorem FG.mono {b n b' n' : Nat} (hb : b ≤ b') (hn : n ≤ n') : ∀ {d : D}, FG b n d → FG b' n' d
  | .int i, h => Nat.lt_of_lt_of_le (show i.natAbs < 2 ^ b from h) (Nat.pow_le_pow_right (by decide) hb)
  | .tup ds, h => ⟨Nat.le_trans h.1 hn, FGs.mono hb hn h.2⟩
  | .lst ds, h => ⟨Nat.le_trans h.1 hn, FGs.mono hb hn h.2⟩
  | .str s, h => h
  | .non, _ => trivial
  | .bl _, _ => trivial
  | .dct, _ => trivial
  | .scr _, h => h
  | .ref _, h => h
  | .fn _, h => h
  | .thk _ _ _ _ _, h => h
theorem FGs.mono {b n b' n' : Nat} (hb : b ≤ b') (hn : n ≤ n') : ∀ {ds : List D}, FGs b n ds → FGs b' n' ds
  | [], _ => trivial
  | d :: ds, h => ⟨FG.mono hb hn h.1, FGs.mono hb hn h.2⟩
end
mutual
theorem FG.fine : ∀ {d : D}, FG 100 20 d → Fine d
  | .int i, h => h
  | .tup ds, h => ⟨h.1, FGs.fine h.2⟩
  | .lst ds, h => ⟨h.1, FGs.fine h.2⟩
  | .str s, h => h
  | .non, _ => trivial
  | .bl _, _ => trivial
  | .dct, _ => trivial
  | .scr _, h => h
  | .ref _, h => h
  | .fn _, h => h
  | .thk _ _ _ _ _, h => h
theorem FGs.fine : ∀ {ds : List D}, FGs 100 20 ds → Fines ds
  | [], _ => trivial
  | d :: ds, h => ⟨FG.fine h.1, FGs.fine h.2⟩
end
theorem fg_tup {b n : Nat} {ds : List D} : FG b n (.tup ds) ↔ ds.length ≤ n ∧ ∀ d ∈ ds, FG b n d := by
  show _ ∧ _ ↔ _
  rw [fgs_iff]
theorem fg_lst {b n : Nat} {ds : List D} : FG b n (.lst ds) ↔ ds.length ≤ n ∧ ∀ d ∈ ds, FG b n d := by
  show _ ∧ _ ↔ _
  rw [fgs_iff]
/-! ### the deep thing -/
theorem l_deep_ok (S : Store) : Does (B_l_deep []) S fun v S' => FG 1 1 v ∧ S' = S := by
  unfold B_l_deep
  simp only [does_body, do_seq, do_ret, do_retN, do_if, do_asg, do_par, do_expr, do_skip, do_tg, does_ret, does_bind, does_noX, does_call, startD, mOp, mB, mAnd, mOr, mNot, mIte, mChain, mC, mVar, lCons, lNil, mTup, mLst, mCl, mIsi, mSl, oSome, oNo, mNeg, mYes, mIt, gNm, gTp, gsCons, gsNil, tyNm, List.map_cons, List.map_nil, List.length_cons, List.length_nil, List.replicate, List.cons_append, List.nil_append, List.append_nil, List.getElem?_cons_zero, List.getElem?_cons_succ, List.set_cons_zero, List.set_cons_succ, Option.bind_some, if_true, Nat.reduceSub, Nat.reduceAdd, Nat.reduceEqDiff, if_pos, lenD, ordD, wipeD, Nat.sub_self, Nat.add_one_sub_one, reduceIte, Option.bind]
  rw [if_pos (by simp)]
  rw [does_ret]
  refine do_for (does_rg ?_)
  simp only [does_body, do_seq, do_ret, do_retN, do_if, do_asg, do_par, do_expr, do_skip, do_tg, does_ret, does_bind, does_noX, does_call, startD, mOp, mB, mAnd, mOr, mNot, mIte, mChain, mC, mVar, lCons, lNil, mTup, mLst, mCl, mIsi, mSl, oSome, oNo, mNeg, mYes, mIt, gNm, gTp, gsCons, gsNil, tyNm, List.map_cons, List.map_nil, List.length_cons, List.length_nil, List.replicate, List.cons_append, List.nil_append, List.append_nil, List.getElem?_cons_zero, List.getElem?_cons_succ, List.set_cons_zero, List.set_cons_succ, Option.bind_some, if_true, Nat.reduceSub, Nat.reduceAdd, Nat.reduceEqDiff, if_pos, lenD, ordD, wipeD, Nat.sub_self, Nat.add_one_sub_one, reduceIte, Option.bind]
  refine ⟨35, rfl, by decide, _, fun i ρ S' => S' = S ∧ ∃ d x, ρ = [some d, x] ∧ FG 1 1 d, ⟨rfl, _, _, rfl, by simp [FG, FGs]⟩, fun _ _ _ _ => reads_rg, ?_, ?_⟩
  · rintro i d ρ S' hd ⟨rfl, x, y, rfl, hx⟩
    have hi : i < 35 := by
      have := (List.getElem?_eq_some_iff.mp hd).1
      simpa using this
    rw [List.getElem?_map, List.getElem?_range (by simpa using hi)] at hd
    cases hd
    simp only [does_body, do_seq, do_ret, do_retN, do_if, do_asg, do_par, do_expr, do_skip, do_tg, does_ret, does_bind, does_noX, does_call, startD, mOp, mB, mAnd, mOr, mNot, mIte, mChain, mC, mVar, lCons, lNil, mTup, mLst, mCl, mIsi, mSl, oSome, oNo, mNeg, mYes, mIt, gNm, gTp, gsCons, gsNil, tyNm, List.map_cons, List.map_nil, List.length_cons, List.length_nil, List.replicate, List.cons_append, List.nil_append, List.append_nil, List.getElem?_cons_zero, List.getElem?_cons_succ, List.set_cons_zero, List.set_cons_succ, Option.bind_some, if_true, Nat.reduceSub, Nat.reduceAdd, Nat.reduceEqDiff, if_pos, lenD, ordD, wipeD, Nat.sub_self, Nat.add_one_sub_one, reduceIte, Option.bind]
    refine mod_ok (by decide) ?_
    rw [eq_int, does_ret]
    cases ((0 + (i : Int)) % 2 == 0) with
    | true =>
      simp only [does_body, do_seq, do_ret, do_retN, do_if, do_asg, do_par, do_expr, do_skip, do_tg, does_ret, does_bind, does_noX, does_call, startD, mOp, mB, mAnd, mOr, mNot, mIte, mChain, mC, mVar, lCons, lNil, mTup, mLst, mCl, mIsi, mSl, oSome, oNo, mNeg, mYes, mIt, gNm, gTp, gsCons, gsNil, tyNm, List.map_cons, List.map_nil, List.length_cons, List.length_nil, List.replicate, List.cons_append, List.nil_append, List.append_nil, List.getElem?_cons_zero, List.getElem?_cons_succ, List.set_cons_zero, List.set_cons_succ, Option.bind_some, if_true, Nat.reduceSub, Nat.reduceAdd, Nat.reduceEqDiff, if_pos, lenD, ordD, wipeD, Nat.sub_self, Nat.add_one_sub_one, reduceIte, Option.bind]
      rw [if_pos (by simp), does_ret]
      exact ⟨rfl, _, _, rfl, by simp [FG, FGs, hx]⟩
    | false =>
      simp only [does_body, do_seq, do_ret, do_retN, do_if, do_asg, do_par, do_expr, do_skip, do_tg, does_ret, does_bind, does_noX, does_call, startD, mOp, mB, mAnd, mOr, mNot, mIte, mChain, mC, mVar, lCons, lNil, mTup, mLst, mCl, mIsi, mSl, oSome, oNo, mNeg, mYes, mIt, gNm, gTp, gsCons, gsNil, tyNm, List.map_cons, List.map_nil, List.length_cons, List.length_nil, List.replicate, List.cons_append, List.nil_append, List.append_nil, List.getElem?_cons_zero, List.getElem?_cons_succ, List.set_cons_zero, List.set_cons_succ, Option.bind_some, if_true, Nat.reduceSub, Nat.reduceAdd, Nat.reduceEqDiff, if_pos, lenD, ordD, wipeD, Nat.sub_self, Nat.add_one_sub_one, reduceIte, Option.bind]
      rw [if_pos (by simp), does_ret]
      exact ⟨rfl, _, _, rfl, by simp [FG, FGs, hx]⟩
  · rintro ρ S' ⟨rfl, x, y, rfl, hx⟩
    simp only [does_body, do_seq, do_ret, do_retN, do_if, do_asg, do_par, do_expr, do_skip, do_tg, does_ret, does_bind, does_noX, does_call, startD, mOp, mB, mAnd, mOr, mNot, mIte, mChain, mC, mVar, lCons, lNil, mTup, mLst, mCl, mIsi, mSl, oSome, oNo, mNeg, mYes, mIt, gNm, gTp, gsCons, gsNil, tyNm, List.map_cons, List.map_nil, List.length_cons, List.length_nil, List.replicate, List.cons_append, List.nil_append, List.append_nil, List.getElem?_cons_zero, List.getElem?_cons_succ, List.set_cons_zero, List.set_cons_succ, Option.bind_some, if_true, Nat.reduceSub, Nat.reduceAdd, Nat.reduceEqDiff, if_pos, lenD, ordD, wipeD, Nat.sub_self, Nat.add_one_sub_one, reduceIte, Option.bind]
    exact ⟨hx, trivial⟩
def odd1 : List D := [.non, .bl true, .bl false, .int 0, .int 1, .int (-1), .int 12, .int (10 ^ 29), .str "", .str "tell", .str "ask", .tup [], .lst [], .dct, .tup [.tup []], .tup [.int 0], .tup [.int 0, .int 1], .tup [.int 1, .int 1]]
def odd2 (d : D) : List D := [.tup [.int 2, .int 2], .lst [.int 1, .int 1], .tup [.int 1, .int 2], .tup [.int (-1), .int 2], .tup [.int 3, .int 2], .tup [.bl true, .int 1], .tup [.tup [.int 0, .int 1]], .dct, .tup [.non, .non], d]
theorem odd1_fg : ∀ d ∈ odd1, FG 98 2 d := by
  intro d hd
  have : FGs 98 2 odd1 := by
    unfold odd1
    simp only [FGs, FG, List.length_cons, List.length_nil]
    decide +kernel
  exact fgs_iff.mp this d hd
theorem odd2_fg {x : D} (hx : FG 98 2 x) : ∀ d ∈ odd2 x, FG 98 2 d := by
  intro d hd
  have : FGs 98 2 (odd2 x) := by
    unfold odd2
    simp only [FGs, FG, List.length_cons, List.length_nil]
    refine ⟨by decide, by decide, by decide, by decide, by decide, by decide, by decide, trivial, by decide, hx, trivial⟩
  exact fgs_iff.mp this d hd
def IsOdd (f : Fnd) : Prop := ∀ (c : Nat) S, Bag c S → c < LIM → Does (f [.ref 1]) S fun v S' => FG 98 2 v ∧ Bag (c + 1) S' ∧ Kp [0, 1] S S'
theorem l_odd_ok {p q : Fnd} (hp : IsSome p) (hq : ∀ S, Does (q []) S fun v S' => FG 1 1 v ∧ S' = S) : IsOdd (B_l_odd p q) := by
  intro c S hb hc
  obtain ⟨x, S', eq, hx, e⟩ := hq S
  subst e
  unfold B_l_odd
  rw [does_body]
  simp only [startD, List.map_cons, List.map_nil, List.length_cons, List.length_nil, List.replicate, List.cons_append, List.nil_append, Nat.reduceAdd, Nat.reduceSub]
  rw [do_seq, do_asg]
  refine Does.of (show Vl _ S' (.lst odd1) from rfl) ?_
  refine Does.of v_nm ?_
  simp only [List.set_cons_zero, List.set_cons_succ]
  rw [do_seq, do_asg]
  have hn : Vl (noX (q [])) S' x := by unfold Vl noX; rw [eq]
  have h2 : Vl (mOp addD (mVar 1) (mLst (lCons (mTup (lCons (mC (.int 2)) (lCons (mC (.int 2)) lNil))) (lCons (mLst (lCons (mC (.int 1)) (lCons (mC (.int 1)) lNil))) (lCons (mTup (lCons (mC (.int 1)) (lCons (mC (.int 2)) lNil))) (lCons (mTup (lCons (mNeg (mC (.int 1))) (lCons (mC (.int 2)) lNil))) (lCons (mTup (lCons (mC (.int 3)) (lCons (mC (.int 2)) lNil))) (lCons (mTup (lCons (mC (.bl true)) (lCons (mC (.int 1)) lNil))) (lCons (mTup (lCons (mTup (lCons (mC (.int 0)) (lCons (mC (.int 1)) lNil))) lNil)) (lCons (mC .dct) (lCons (mTup (lCons (mC .non) (lCons (mC .non) lNil))) (lCons (fun _ => noX (q [])) lNil))))))))))) [some (.ref 1), some (.lst odd1)]) S' (.lst (odd1 ++ odd2 x)) := by
    refine v_op (y := .lst (odd2 x)) v_var (v_lst (ds := odd2 x) (v_cons rfl (v_cons rfl (v_cons rfl (v_cons rfl (v_cons rfl (v_cons rfl (v_cons rfl (v_cons rfl (v_cons rfl (v_cons hn v_nil)))))))))) (by show 10 ≤ 1000000; decide)) ?_
    show (if odd1.length + (odd2 x).length ≤ 1000000 then M.ret (D.lst (odd1 ++ odd2 x)) else M.stuck) S' = _
    rw [if_pos (by show 18 + 10 ≤ 1000000; decide)]; rfl
  refine Does.of h2 ?_
  refine Does.of v_nm ?_
  simp only [List.set_cons_zero, List.set_cons_succ]
  rw [do_ret, does_call]
  refine Does.of (v_cons v_var (v_cons v_var v_nil)) ?_
  rw [if_pos (show [D.ref 1, D.lst (odd1 ++ odd2 x)].length = 2 from rfl)]
  refine (hp c _ S' hb hc (by simp [odd1]) (by show (odd1 ++ odd2 x).length < 1000000; rw [List.length_append]; show 18 + 10 < 1000000; decide)).imp fun v S1 ⟨hv, b, k⟩ => ⟨?_, b, k⟩
  rcases List.mem_append.mp hv with h | h
  · exact odd1_fg v h
  · exact odd2_fg (hx.mono (by decide) (by decide)) v h
/-! ### calls out of the bag -/
/-! ### slices -/
theorem cutL_mem {ds : List D} {lo hi : Option Int} {d : D} (h : d ∈ cutL ds lo hi) : d ∈ ds := List.mem_of_mem_drop (List.mem_of_mem_take h)
theorem cutL_le {ds : List D} {lo hi : Option Int} : (cutL ds lo hi).length ≤ ds.length := by
  unfold cutL; rw [List.length_take, List.length_drop]; omega
theorem cutL_hi {ds : List D} {i : Nat} : cutL ds none (some (i : Int)) = ds.take i := by
  unfold cutL
  rw [HT.sIx_none, HT.sIx_nat, List.drop_zero, Nat.sub_zero]
  rcases Nat.le_total i ds.length with h | h
  · rw [Nat.min_eq_left h]
  · rw [Nat.min_eq_right h, List.take_of_length_le (Nat.le_refl _), List.take_of_length_le h]
theorem cutL_lo {ds : List D} {i : Nat} : cutL ds (some (i : Int)) none = ds.drop i := by
  unfold cutL
  rw [HT.sIx_none, HT.sIx_nat]
  rcases Nat.le_total i ds.length with h | h
  · rw [Nat.min_eq_left h, List.take_of_length_le (by rw [List.length_drop]; omega)]
  · rw [Nat.min_eq_right h, List.drop_of_length_le (Nat.le_refl _), List.drop_of_length_le h]; simp
theorem cutL_last {ds : List D} : (cutL ds (some (-1)) none).length ≤ 1 := by
  unfold cutL
  rw [List.length_take, List.length_drop]
  have : HT.sIx ds.length 0 (some (-1)) = ds.length - 1 := by
    show (if (-1 : Int) < 0 then ((-1 : Int) + (ds.length : Int)).toNat else min (-1 : Int).toNat ds.length) = _
    rw [if_pos (by decide)]; omega
  rw [this]; omega
theorem v_slT {f : Ev} {l h : Tl.Env → M (Option Int)} {lo hi : Option Int} {ρ : Tl.Env} {S : Store} {ds : List D} (h1 : Vl (f ρ) S (.tup ds)) (h2 : Vl (l ρ) S lo) (h3 : Vl (h ρ) S hi) : Vl (mSl f l h ρ) S (.tup (cutL ds lo hi)) := v_bind h1 (v_bind h2 (v_bind h3 rfl))
theorem v_oNo {ρ : Tl.Env} {S : Store} : Vl (oNo ρ) S none := rfl
theorem v_oSome {f : Ev} {ρ : Tl.Env} {S : Store} {i : Int} (h : Vl (f ρ) S (.int i)) : Vl (oSome f ρ) S (some i) := v_bind h rfl
theorem v_neg {f : Ev} {ρ : Tl.Env} {S : Store} {i : Int} (h : Vl (f ρ) S (.int i)) : Vl (mNeg f ρ) S (.int (-i)) := v_bind h rfl
theorem v_listT {f : Ev} {ρ : Tl.Env} {S : Store} {ds : List D} (h : Vl (f ρ) S (.tup ds)) : Vl (mCl listD (lCons f lNil) ρ) S (.lst ds) := v_cl1 h rfl
theorem v_revT {f : Ev} {ρ : Tl.Env} {S : Store} {ds : List D} (h : Vl (f ρ) S (.tup ds)) : Vl (mRevT f ρ) S (.tup ds.reverse) := v_bind h rfl
/-! ### graded things -/
section
variable {b n : Nat}
theorem fg_int {i : Int} (h : i.natAbs < 2 ^ b) : FG b n (.int i) := h
theorem fg_fr {p : Int × Int} (h : Bd b p) (hn : 2 ≤ n) : FG b n (fr p) := ⟨hn, h.1, h.2.1, trivial⟩
theorem fg_cut {ds : List D} {lo hi : Option Int} (h : FG b n (.tup ds)) : FG b n (.tup (cutL ds lo hi)) :=
  fg_tup.mpr ⟨Nat.le_trans cutL_le (fg_tup.mp h).1, fun d hd => (fg_tup.mp h).2 d (cutL_mem hd)⟩
theorem fg_lst_of {ds : List D} (h : FG b n (.tup ds)) : FG b n (.lst ds) := fg_lst.mpr (fg_tup.mp h)
theorem fg_rev {ds : List D} (h : FG b n (.tup ds)) : FG b n (.tup ds.reverse) := by
  rw [fg_tup] at h ⊢
  exact ⟨by rw [List.length_reverse]; exact h.1, fun d hd => h.2 d (List.mem_reverse.mp hd)⟩
theorem fg_app {xs ys : List D} (hl : xs.length + ys.length ≤ n) (h1 : ∀ d ∈ xs, FG b n d) (h2 : ∀ d ∈ ys, FG b n d) : FG b n (.tup (xs ++ ys)) := by
  rw [fg_tup]
  refine ⟨by rw [List.length_append]; exact hl, fun d hd => ?_⟩
  rcases List.mem_append.mp hd with h | h
  · exact h1 d h
  · exact h2 d h
end
/-! ### size and depth -/
theorem dep_mem : ∀ {ds : List D} {d : D}, d ∈ ds → dep d ≤ deps ds
  | x :: ds, d, h => by
    unfold deps
    rcases List.mem_cons.mp h with e | e
    · subst e; omega
    · have := dep_mem e; omega
theorem sz_pos : ∀ d : D, 1 ≤ sz d
  | .tup ds => by unfold sz; omega
  | .non | .bl _ | .int _ | .str _ | .lst _ | .scr _ | .dct | .ref _ | .fn _ | .thk _ _ _ _ _ => by unfold sz; omega
theorem szs_app : ∀ {xs ys : List D}, szs (xs ++ ys) = szs xs + szs ys
  | [], ys => by simp [szs]
  | x :: xs, ys => by simp only [List.cons_append, szs, szs_app (xs := xs)]; omega
theorem szs_take {ds : List D} {i : Nat} : szs (ds.take i) ≤ szs ds := by
  have := szs_app (xs := ds.take i) (ys := ds.drop i)
  rw [List.take_append_drop] at this; omega
theorem szs_mem : ∀ {ds : List D} {d : D}, d ∈ ds → sz d ≤ szs ds
  | x :: ds, d, h => by
    unfold szs
    rcases List.mem_cons.mp h with e | e
    · subst e; omega
    · have := szs_mem e; omega
/-! ### the parts of a thing -/
def natT (pl : List Nat) : D := .tup (pl.map fun (k : Nat) => .int (k : Int))
def getP : D → List Nat → Option D
  | d, [] => some d
  | .tup ds, i :: is => match ds[i]? with
    | some d => getP d is
    | none => none
  | _, _ :: _ => none
def putP : D → List Nat → D → D
  | _, [], o => o
  | .tup ds, i :: is, o => .tup (ds.take i ++ [putP (ds.getD i .non) is o] ++ ds.drop (i + 1))
  | d, _ :: _, _ => d
mutual
def partsF : D → List (List Nat × D)
  | .tup ds => ([], .tup ds) :: partsFs 0 ds
  | .non => [([], .non)]
  | .bl b => [([], .bl b)]
  | .int i => [([], .int i)]
  | .str s => [([], .str s)]
  | .lst ds => [([], .lst ds)]
  | .scr ns => [([], .scr ns)]
  | .dct => [([], .dct)]
  | .ref n => [([], .ref n)]
  | .fn n => [([], .fn n)]
  | .thk f c q vs ds => [([], .thk f c q vs ds)]
def partsFs (i : Nat) : List D → List (List Nat × D)
  | [] => []
  | d :: ds => (partsF d).map (fun r => (i :: r.1, r.2)) ++ partsFs (i + 1) ds
end
theorem partsF_at {d : D} (h : isT d = false) : partsF d = [([], d)] := by
  cases d <;> first | rfl | (simp [isT] at h; done) | (unfold partsF; rfl)
theorem partsFs_snoc (d : D) : ∀ (ds : List D) (i : Nat), partsFs i (ds ++ [d]) = partsFs i ds ++ (partsF d).map (fun r => ((i + ds.length) :: r.1, r.2))
  | [], i => by simp [partsFs]
  | x :: ds, i => by
    simp only [List.cons_append, partsFs, partsFs_snoc d ds (i + 1), List.append_assoc, List.length_cons]
    congr 4
    funext r
    rw [show i + 1 + ds.length = i + (ds.length + 1) by omega]
mutual
theorem partsF_len : ∀ d : D, (partsF d).length = sz d
  | .tup ds => by unfold partsF sz; rw [List.length_cons, partsFs_len ds 0]; omega
  | .non | .bl _ | .int _ | .str _ | .lst _ | .scr _ | .dct | .ref _ | .fn _ | .thk _ _ _ _ _ => by unfold partsF sz; rfl
theorem partsFs_len : ∀ (ds : List D) (i : Nat), (partsFs i ds).length = szs ds
  | [], i => by unfold partsFs szs; rfl
  | d :: ds, i => by unfold partsFs szs; rw [List.length_append, List.length_map, partsF_len d, partsFs_len ds (i + 1)]
end
mutual
theorem partsF_get : ∀ (d : D) (r : List Nat × D), r ∈ partsF d → getP d r.1 = some r.2 ∧ r.1.length ≤ dep d
  | .tup ds, r, h => by
    unfold partsF at h
    rcases List.mem_cons.mp h with e | e
    · subst e; exact ⟨rfl, by simp⟩
    · obtain ⟨k, is, e1, d, e2, e3, e4⟩ := partsFs_get ds 0 r e
      rw [e1]
      refine ⟨?_, ?_⟩
      · rw [Nat.zero_add]
        show (match ds[k]? with
          | some d => getP d is
          | none => none) = _
        rw [e2]; exact e3
      · unfold dep
        have := dep_mem (List.mem_of_getElem? e2)
        rw [List.length_cons]; omega
  | .non, r, h | .bl _, r, h | .int _, r, h | .str _, r, h | .lst _, r, h | .scr _, r, h | .dct, r, h | .ref _, r, h | .fn _, r, h | .thk _ _ _ _ _, r, h => by
    unfold partsF at h
    have e := List.mem_singleton.mp h
    subst e; exact ⟨rfl, by simp⟩
theorem partsFs_get : ∀ (ds : List D) (i : Nat) (r : List Nat × D), r ∈ partsFs i ds → ∃ (k : Nat) (is : List Nat), r.1 = (i + k) :: is ∧ ∃ d, ds[k]? = some d ∧ getP d is = some r.2 ∧ is.length ≤ dep d
  | [], i, r, h => by unfold partsFs at h; cases h
  | d :: ds, i, r, h => by
    unfold partsFs at h
    rcases List.mem_append.mp h with e | e
    · obtain ⟨q, hq, rfl⟩ := List.mem_map.mp e
      obtain ⟨h1, h2⟩ := partsF_get d q hq
      exact ⟨0, q.1, rfl, d, rfl, h1, h2⟩
    · obtain ⟨k, is, e1, d', e2, e3, e4⟩ := partsFs_get ds (i + 1) r e
      exact ⟨k + 1, is, by rw [e1]; congr 1; omega, d', by simpa using e2, e3, e4⟩
end
theorem getP_fg {b n : Nat} : ∀ {pl : List Nat} {d x : D}, FG b n d → getP d pl = some x → FG b n x
  | [], d, x, h, e => by
    unfold getP at e; cases e; exact h
  | i :: is, .tup ds, x, h, e => by
    have e : (match ds[i]? with
      | some d => getP d is
      | none => none) = some x := e
    cases q : ds[i]? with
    | none => rw [q] at e; cases e
    | some d =>
      rw [q] at e
      exact getP_fg ((fg_tup.mp h).2 d (List.mem_of_getElem? q)) e
  | i :: is, .non, x, h, e | i :: is, .bl _, x, h, e | i :: is, .int _, x, h, e | i :: is, .str _, x, h, e | i :: is, .lst _, x, h, e | i :: is, .scr _, x, h, e | i :: is, .dct, x, h, e | i :: is, .ref _, x, h, e | i :: is, .fn _, x, h, e | i :: is, .thk _ _ _ _ _, x, h, e => by
    unfold getP at e; cases e
theorem putP_fg {b n : Nat} {o : D} (ho : FG b n o) : ∀ {pl : List Nat} {d : D}, FG b n d → getP d pl ≠ none → FG b n (putP d pl o)
  | [], d, h, e => by unfold putP; exact ho
  | i :: is, .tup ds, h, e => by
    obtain ⟨h1, h2⟩ := fg_tup.mp h
    have e : (match ds[i]? with
      | some d => getP d is
      | none => none) ≠ none := e
    cases q : ds[i]? with
    | none => rw [q] at e; exact (e rfl).elim
    | some d =>
      rw [q] at e
      have hi := (List.getElem?_eq_some_iff.mp q).1
      have hd := h2 d (List.mem_of_getElem? q)
      unfold putP
      rw [show ds.getD i .non = d by simp [List.getD, q]]
      rw [fg_tup]
      refine ⟨?_, fun x hx => ?_⟩
      · simp; omega
      · rcases List.mem_append.mp hx with hx | hx
        · rcases List.mem_append.mp hx with hx | hx
          · exact h2 x (List.mem_of_mem_take hx)
          · rw [List.mem_singleton.mp hx]; exact putP_fg ho hd e
        · exact h2 x (List.mem_of_mem_drop hx)
  | i :: is, .non, h, e | i :: is, .bl _, h, e | i :: is, .int _, h, e | i :: is, .str _, h, e | i :: is, .lst _, h, e | i :: is, .scr _, h, e | i :: is, .dct, h, e | i :: is, .ref _, h, e | i :: is, .fn _, h, e | i :: is, .thk _ _ _ _ _, h, e => by
    unfold getP at e; exact (e rfl).elim
def pD (pl : List Nat) (r : List Nat × D) : D := .tup [natT (pl ++ r.1), r.2]
def IsParts (m : Nat) (f : Fnd) : Prop := ∀ (d : D) (pl : List Nat) S, Fine d → dep d ≤ m → sz d ≤ 400000 → pl.length + dep d ≤ 100 → Vl (f [d, natT pl]) S (.lst ((partsF d).map (pD pl)))
theorem parts_ok {m : Nat} {p : Fnd} (hp : ∀ m', m = m' + 1 → IsParts m' p) : IsParts m (B_l_parts p) := by
  intro d pl S hd hm hs hpl
  refine Does.eq ?_
  unfold B_l_parts
  rw [does_body]
  simp only [startD, List.map_cons, List.map_nil, List.length_cons, List.length_nil, List.replicate, List.cons_append, List.nil_append, Nat.reduceAdd, Nat.reduceSub]
  rw [do_seq, do_asg]
  refine Does.of (v_lst (ds := [pD pl ([], d)]) (v_cons (v_tup (ds := [natT pl, d]) (v_cons v_var (v_cons v_var v_nil)) (by simp)) v_nil |> fun h => Vl.to h (by simp [pD])) (by simp)) ?_
  refine Does.of v_nm ?_
  simp only [List.set_cons_zero, List.set_cons_succ]
  rw [do_seq, do_if]
  refine Does.of (v_B (v_isT v_var hd)) ?_
  cases ht : isT d with
  | false =>
    dsimp only
    rw [do_skip]
    dsimp only
    rw [do_ret]
    refine Does.of v_var ?_
    rw [partsF_at ht]
    exact ⟨rfl, rfl⟩
  | true =>
    obtain ⟨ds, rfl⟩ := isT_of ht
    obtain ⟨hl, hf⟩ := fine_tup hd
    have hdep : 1 + deps ds ≤ m := by unfold dep at hm; exact hm
    have hsz : 1 + szs ds ≤ 400000 := by unfold sz at hs; exact hs
    obtain ⟨m', rfl⟩ : ∃ m', m = m' + 1 := ⟨m - 1, by omega⟩
    have hpl : pl.length + (1 + deps ds) ≤ 100 := by unfold dep at hpl; exact hpl
    dsimp only
    refine do_for (Does.of (v_en v_var) ⟨_, fun i ρ S' => S' = S ∧ ∃ y3 y4, ρ = [some (.tup ds), some (natT pl), some (.lst (pD pl ([], .tup ds) :: (partsFs 0 (ds.take i)).map (pD pl))), y3, y4], ⟨rfl, _, _, rfl⟩, fun _ _ _ _ => reads_en reads_d, ?_, ?_⟩)
    · rintro i e ρ S1 he ⟨rfl, y3, y4, rfl⟩
      obtain ⟨i', x, rfl, hx⟩ := mem_en (List.mem_of_getElem? he)
      have hi' : i' = i := by
        rw [List.getElem?_map, List.getElem?_zipIdx] at he
        cases h : ds[i]? with
        | none => rw [h] at he; cases he
        | some q' => rw [h] at he; simp at he; omega
      subst hi'
      have hxm := List.mem_of_getElem? hx
      have hi := (List.getElem?_eq_some_iff.mp hx).1
      rw [do_seq, do_tg]
      refine Does.of v_g2 ?_
      simp only [List.set_cons_zero, List.set_cons_succ]
      rw [do_asg]
      have hq := hp m' rfl x (pl ++ [i']) S1 (hf x hxm) (by have := dep_mem hxm; omega) (by have := szs_mem hxm; omega) (by have := dep_mem hxm; rw [List.length_append, List.length_singleton]; omega)
      have e1 : addD (natT pl) (.tup [.int (i' : Int)]) S1 = some (.ok (natT (pl ++ [i'])), S1) := by
        refine Vl.to (v_addT (as := pl.map fun (k : Nat) => .int (k : Int)) ?_) ?_
        · rw [List.length_map]; simp; omega
        · simp [natT]
      have e2 := partsFs_snoc x (ds.take i') 0
      have e3 : ds.take (i' + 1) = ds.take i' ++ [x] := by rw [List.take_add_one, hx]; rfl
      have hz1 : szs (ds.take i') ≤ szs ds := szs_take
      have hz2 := szs_mem hxm
      refine Does.of (v_op v_var (v_call2 v_var (v_op v_var (v_tup (v_cons v_var v_nil) (by simp)) e1) hq) (v_addL (as := pD pl ([], .tup ds) :: (partsFs 0 (ds.take i')).map (pD pl)) ?_)) ?_
      · rw [List.length_cons, List.length_map, List.length_map, partsF_len, partsFs_len]; omega
      refine Does.of v_nm ?_
      simp only [List.set_cons_zero, List.set_cons_succ]
      refine ⟨trivial, some (.int (i' : Int)), some x, ?_⟩
      rw [e3, e2]
      simp only [List.map_append, List.map_map, List.length_take, Nat.zero_add, List.cons_append]
      have e4 : (List.map (pD (pl ++ [i'])) (partsF x)) = List.map ((pD pl) ∘ fun r => (min i' ds.length :: r.1, r.2)) (partsF x) := by
        refine List.map_congr_left fun r _ => ?_
        rw [Nat.min_eq_left (by omega)]
        simp [pD]
      rw [e4]
    · rintro ρ S1 ⟨rfl, y3, y4, rfl⟩
      dsimp only
      rw [do_ret]
      refine Does.of v_var ?_
      rw [List.take_of_length_le (by simp)]
      refine ⟨?_, rfl⟩
      simp [partsF]
/-! ### put -/
theorem lay_nats : ∀ pl : List Nat, PyData.canLayAll0 (pl.map fun (k : Nat) => PyData.int (k : Int)) = true
  | [] => by simp [PyData.canLayAll0]
  | p :: ps => by simp [PyData.canLayAll0, PyData.canLay0, lay_nats ps]
theorem depth_nats : ∀ pl : List Nat, PyData.depthAll (pl.map fun (k : Nat) => PyData.int (k : Int)) = 0
  | [] => by simp [PyData.depthAll]
  | p :: ps => by simp [PyData.depthAll, PyData.depth, depth_nats ps]
theorem toPs_nats : ∀ pl : List Nat, toPs (pl.map fun (k : Nat) => D.int (k : Int)) = some (pl.map fun (k : Nat) => PyData.int (k : Int))
  | [] => by simp [toPs]
  | p :: ps => by simp [toPs, toP, toPs_nats ps]
theorem eq_nat0 {pl : List Nat} {S : Store} : Vl (eqD (natT pl) (.tup [])) S (.bl pl.isEmpty) := by
  have h : ∀ ps : List Nat, SeqAt.shaped (.tuple (ps.map fun (k : Nat) => PyData.int (k : Int))) = true := fun ps => by
    simp [SeqAt.shaped, PyData.canLay0, lay_nats, PyData.depth, depth_nats]
  unfold eqD cmpP natT
  simp only [toP, toPs_nats, toPs, Option.map_some]
  rw [if_pos ⟨h pl, h []⟩]
  cases pl with
  | nil => simp [PyData.eqv, PyData.eqvAll]; rfl
  | cons a l => simp [PyData.eqv, PyData.eqvAll]; rfl
def IsPut (m : Nat) (f : Fnd) : Prop := ∀ (d : D) (pl : List Nat) (o : D) S, Fine d → pl.length ≤ m → getP d pl ≠ none → Vl (f [d, natT pl, o]) S (putP d pl o)
theorem put_ok {m : Nat} {p : Fnd} (hp : ∀ m', m = m' + 1 → IsPut m' p) : IsPut m (B_l_put p) := by
  intro d pl o S hd hm hg
  unfold B_l_put
  refine s_body ?_
  simp only [startD, List.map_cons, List.map_nil, List.length_cons, List.length_nil, List.replicate, List.cons_append, List.nil_append, Nat.reduceAdd, Nat.reduceSub, Nat.sub_self, List.append_nil]
  cases pl with
  | nil =>
    refine s_out (Sl.to (r := .rt o) ?_ (by unfold putP; rfl))
    unfold Sl sIf sBnd
    rw [show Vl (mB (mOp eqD (mVar 1) (mTup lNil)) [some d, some (natT []), some o]) S (.bl true) from v_B (v_op v_var (v_tup v_nil (by simp)) eq_nat0)]
    rfl
  | cons i is =>
    obtain ⟨m', rfl⟩ : ∃ m', m = m' + 1 := ⟨m - 1, by simp at hm; omega⟩
    refine s_skip (v_B (v_op v_var (v_tup v_nil (by simp)) eq_nat0)) ?_
    have hT : ∃ ds, d = .tup ds := by
      cases d <;> first | exact ⟨_, rfl⟩ | (unfold getP at hg; exact (hg rfl).elim)
    obtain ⟨ds, rfl⟩ := hT
    obtain ⟨hl, hf⟩ := fine_tup hd
    have hg : (match ds[i]? with
      | some d => getP d is
      | none => none) ≠ none := hg
    cases q : ds[i]? with
    | none => rw [q] at hg; exact (hg rfl).elim
    | some x =>
      rw [q] at hg
      have hi := (List.getElem?_eq_some_iff.mp q).1
      have hpx := hp m' rfl x is o S (hf x (List.mem_of_getElem? q)) (by simp at hm; omega) hg
      have p0 : Vl (mOp idxD (mVar 1) (mC (.int 0)) [some (.tup ds), some (natT (i :: is)), some o]) S (.int (i : Int)) := v_idx (ds := (i :: is).map fun (k : Nat) => .int (k : Int)) v_var v_c (getAt_v (i := 0) rfl)
      refine s_ret (Vl.to (v_op (x := .tup (ds.take i ++ [putP x is o])) (y := .tup (ds.drop (i + 1))) (v_op (x := .tup (ds.take i)) (y := .tup [putP x is o]) (Vl.to (v_slT v_var v_oNo (v_oSome p0)) (by rw [cutL_hi])) (v_tup (v_cons (v_call3 (x := x) (y := natT is) (v_idx v_var p0 (getAt_v q)) (Vl.to (v_slT v_var (v_oSome v_c) v_oNo) ?_) v_var hpx) v_nil) (by simp)) (v_addT ?_)) (Vl.to (v_slT v_var (v_oSome (v_op p0 v_c rfl)) v_oNo) ?_) (v_addT ?_)) ?_)
      · rw [cut1]; simp [natT]
      · simp; omega
      · rw [show ((i : Int) + 1) = ((i + 1 : Nat) : Int) by omega, cutL_lo]
      · simp; omega
      · rw [show putP (.tup ds) (i :: is) o = .tup (ds.take i ++ [putP (ds.getD i .non) is o] ++ ds.drop (i + 1)) from rfl, show ds.getD i .non = x by simp [List.getD, q]]
/-! ### spoilt -/
def IsSpoilt (m : Nat) (f : Fnd) : Prop := ∀ (c : Nat) (t : D) S, Bag c S → c + 3 ≤ LIM → FG 90 5 t → dep t ≤ m → sz t ≤ 400000 → Does (f [.ref 1, t]) S fun v S' => FG 98 6 v ∧ Bag (c + 3) S' ∧ Kp [0, 1] S S'
theorem spoilt_ok {p1 p2 p3 p4 p5 : Fnd} {m : Nat} (h1 : IsPick p1) (h2 : IsSome p2) (h3 : IsOdd p3) (h4 : IsParts m p4) (h5 : IsPut m p5) (hm : m ≤ 50) : IsSpoilt m (B_l_spoilt p1 p2 p3 p4 p5) := by
  intro c t S hb hc hg hd hs
  have hfine : Fine t := (hg.mono (by decide) (by decide) : FG 100 20 t).fine
  have hg2 : FG 98 6 t := hg.mono (by decide) (by decide)
  unfold B_l_spoilt
  rw [does_body]
  simp only [startD, List.map_cons, List.map_nil, List.length_cons, List.length_nil, List.replicate, List.cons_append, List.nil_append, Nat.reduceAdd, Nat.reduceSub]
  rw [do_seq, do_asg]
  have hp := h4 t [] S hfine hd hs (by simp; omega)
  refine some_call h2 hb (by omega) rfl (v_call2 v_var (Vl.to (v_tup v_nil (by simp)) (by simp [natT])) hp) (by rw [List.length_map, partsF_len]; exact sz_pos t) (by rw [List.length_map, partsF_len]; omega) fun v S1 hv b1 k1 => ?_
  obtain ⟨⟨pl, x⟩, hr, rfl⟩ := List.mem_map.mp hv
  obtain ⟨hget, hlen⟩ := partsF_get t _ hr
  have hget : getP t pl = some x := hget
  have hlen : pl.length ≤ dep t := hlen
  have hx : FG 90 5 x := getP_fg hg hget
  have hxf : Fine x := (hx.mono (by decide) (by decide) : FG 100 20 x).fine
  refine Does.of (show Vl (gTp 2 (gsCons (gNm 2) (gsCons (gNm 3) gsNil)) (pD [] (pl, x)) [some (.ref 1), some t, none, none, none]) S1 [some (.ref 1), some t, some (natT pl), some x, none] from v_g2) ?_
  dsimp only
  rw [do_seq, do_asg]
  refine pick_call h1 (n := 6) b1 (by omega) rfl v_c (by decide) (by decide) fun i S2 hi b2 k2 => ?_
  refine Does.of v_nm ?_
  simp only [List.set_cons_zero, List.set_cons_succ]
  have k12 := k1.trans k2
  -- putting a plain thing there
  have put : ∀ {o : D} {S : Store}, FG 98 6 o → Vl (p5 [t, natT pl, o]) S (putP t pl o) ∧ FG 98 6 (putP t pl o) := fun ho =>
    ⟨h5 t pl _ _ hfine (by omega) (by rw [hget]; simp), putP_fg ho hg2 (by rw [hget]; simp)⟩
  have fin : ∀ {e : Ev} {o : D}, FG 98 6 o → Vl (e [some (.ref 1), some t, some (natT pl), some x, some (.int (i : Int))]) S2 o → Does (mCall p5 3 (lCons (mVar 1) (lCons (mVar 2) (lCons e lNil))) [some (.ref 1), some t, some (natT pl), some x, some (.int (i : Int))]) S2 fun v S' => FG 98 6 v ∧ Bag (c + 3) S' ∧ Kp [0, 1] S S' := fun ho he =>
    Does.of (v_call3 v_var v_var he (put ho).1) ⟨(put (S := S2) ho).2, b2.mono (by omega), k12⟩
  refine do_ifR (v_and (v_B (v_op v_var v_c v_eqi)) fun _ => v_B (v_isT v_var hxf)) (fun z => ?_) fun z => ?_
  · simp only [Bool.and_eq_true] at z
    obtain ⟨ds, rfl⟩ := isT_of z.2
    exact fin (fg_lst_of (hx.mono (by decide) (by decide))) (v_listT v_var)
  clear z
  have isTn : ∀ (k : Int), Vl (mAnd (mB (mIsi "tuple" (mVar 3))) (mB (mOp (ordD fun i j => decide (j < i)) (mCl lenD (lCons (mVar 3) lNil)) (mC (.int k)))) [some (.ref 1), some t, some (natT pl), some x, some (.int (i : Int))]) S2 (.bl (isT x && decide (k < ((items x).length : Int)))) := fun k => by
    refine v_and (v_B (v_isT v_var hxf)) fun h => ?_
    obtain ⟨ds, rfl⟩ := isT_of h
    exact v_B (v_op (v_len v_var) v_c v_ord)
  refine do_ifR (v_and (v_B (v_op v_var v_c v_eqi)) fun _ => isTn 0) (fun z => ?_) fun z => ?_
  · simp only [Bool.and_eq_true] at z
    obtain ⟨ds, rfl⟩ := isT_of z.2.1
    exact fin (fg_cut (hx.mono (by decide) (by decide))) (v_slT v_var v_oNo (v_oSome (v_neg v_c)))
  clear z
  refine do_ifR (v_and (v_B (v_op v_var v_c v_eqi)) fun _ => isTn 0) (fun z => ?_) fun z => ?_
  · simp only [Bool.and_eq_true] at z
    obtain ⟨ds, rfl⟩ := isT_of z.2.1
    obtain ⟨g1, g2⟩ := fg_tup.mp hx
    have hl1 : (cutL ds (some (-1)) none).length ≤ 1 := cutL_last
    refine fin (fg_app (xs := ds) (ys := cutL ds (some (-1)) none) (by omega) (fun d hd => (g2 d hd).mono (by decide) (by decide)) fun d hd => (g2 d (cutL_mem hd)).mono (by decide) (by decide)) (v_op v_var (v_slT v_var (v_oSome (v_neg v_c)) v_oNo) (v_addT (by omega)))
  clear z
  refine do_ifR (v_and (v_B (v_op v_var v_c v_eqi)) fun _ => v_and (v_B (v_isInt v_var hxf)) fun _ => v_not (v_B (v_isB v_var hxf))) (fun z => ?_) fun z => ?_
  · simp only [Bool.and_eq_true] at z
    have hI : ∃ j : Int, x = .int j := by
      cases x <;> simp [isI, isB] at z ⊢
    obtain ⟨j, rfl⟩ := hI
    have hj : j.natAbs < 2 ^ 90 := hx
    rw [does_call]
    simp only [does_cons]
    refine Does.of v_var (Does.of v_var ?_)
    unfold mOp
    rw [does_bind]
    refine Does.of v_var ?_
    rw [does_bind]
    refine some_call h2 b2 (by omega) rfl (ds := [.int 1, .int (-1), .int 5]) (v_lst (v_cons v_c (v_cons (v_neg v_c) (v_cons v_c v_nil))) (by simp)) (by simp) (by simp) fun v S3 hv b3 k3 => ?_
    have hvi : ∃ y : Int, v = .int y ∧ y.natAbs ≤ 5 := by
      simp only [List.mem_cons, List.not_mem_nil, or_false] at hv
      rcases hv with rfl | rfl | rfl
      · exact ⟨_, rfl, by decide⟩
      · exact ⟨_, rfl, by decide⟩
      · exact ⟨_, rfl, by decide⟩
    obtain ⟨y, rfl, hy⟩ := hvi
    refine add_ok ?_
    refine Does.of (v_nil (ρ := [])) ?_
    rw [if_pos (show [t, natT pl, D.int (j + y)].length = 3 from rfl)]
    have ho : FG 98 6 (.int (j + y)) := by
      show (j + y).natAbs < 2 ^ 98
      omega
    exact Does.of (put (S := S3) ho).1 ⟨(put (S := S3) ho).2, b3.mono (by omega), k12.trans k3⟩
  clear z
  refine do_ifR (v_and (v_B (v_op v_var v_c v_eqi)) fun _ => isTn 1) (fun z => ?_) fun z => ?_
  · simp only [Bool.and_eq_true] at z
    obtain ⟨ds, rfl⟩ := isT_of z.2.1
    exact fin (fg_rev (hx.mono (by decide) (by decide))) (v_revT v_var)
  clear z
  rw [do_ret, does_call]
  simp only [does_cons]
  refine Does.of v_var (Does.of v_var ?_)
  rw [does_call]
  refine Does.of (v_cons v_var v_nil) ?_
  rw [if_pos (show [D.ref 1].length = 1 from rfl)]
  refine (h3 (c + 2) S2 b2 (by omega)).imp fun v S3 ⟨hv, b3, k3⟩ => ?_
  refine Does.of (v_nil (ρ := [])) ?_
  rw [if_pos (show [t, natT pl, v].length = 3 from rfl)]
  have ho : FG 98 6 v := hv.mono (by decide) (by decide)
  exact Does.of (put (S := S3) ho).1 ⟨(put (S := S3) ho).2, b3.mono (by omega), k12.trans k3⟩
/-! ### small rules -/
theorem ne_fr {p q : Int × Int} : neD (fr p) (fr q) = M.ret (.bl (!(p == q))) := by
  unfold neD cmpP
  rw [toP_fr, toP_fr]
  dsimp only
  rw [if_pos ⟨by simp [SeqAt.shaped, lay_fp, depth_fp], by simp [SeqAt.shaped, lay_fp, depth_fp]⟩, eqv_fp]
theorem v_any {it : Tl.Env → M Src} {tg : Tg} {te : Ev} {vs : List Nat} {s : Src} {ds : List D} {ρ : Tl.Env} {S : Store} (p : D → Bool) (hi : Vl (it ρ) S s) (hr : Reads s ds S) (hl : ds.length ≤ 1000000)
    (hs : ∀ d ∈ ds, ∃ ρ2, Vl (tg d (wipeD ρ vs)) S ρ2 ∧ Vl (te ρ2) S (.bl (p d))) : Vl (mCl anyD (lCons (mLc it tg mYes te vs) lNil) ρ) S (.bl (ds.any p)) := by
  refine v_cl1 (v_map (fun d => .bl (p d)) hi hr hl hs) ?_
  show (((asBools (ds.map fun d => D.bl (p d))).map fun bs => D.bl (bs.any id)).map fun d => (Rs.ok d, S)) = _
  rw [asBools_map]
  simp [List.any_map]
/-- a comprehension with a test -/
theorem v_fil {it : Tl.Env → M Src} {tg : Tg} {tt te : Ev} {vs : List Nat} {s : Src} {ds : List D} {ρ : Tl.Env} {S : Store} (p : D → Bool) (k : D → D) (hi : Vl (it ρ) S s) (hr : Reads s ds S) (hl : ds.length ≤ 1000000)
    (hs : ∀ d ∈ ds, ∃ ρ2, Vl (tg d (wipeD ρ vs)) S ρ2 ∧ Vl (tt ρ2) S (.bl (p d)) ∧ (p d = true → Vl (te ρ2) S (k d))) : Vl (mLc it tg tt te vs ρ) S (.lst ((ds.filter p).map k)) := by
  refine Does.eq (does_lc (Does.of hi ⟨ds, fun i acc S' => S' = S ∧ acc = ((ds.take i).filter p).map k, ⟨rfl, by simp⟩, fun i a S' h => by rw [h.1]; exact hr, fun i d acc S' hd ⟨h1, h2⟩ => ?_, fun acc S' ⟨h1, h2⟩ => ?_⟩))
  · subst h1
    obtain ⟨ρ2, q1, q2, q3⟩ := hs d (List.mem_of_getElem? hd)
    refine Does.of q1 (Does.of q2 ?_)
    have hi := (List.getElem?_eq_some_iff.mp hd).1
    cases hp : p d with
    | true =>
      dsimp only
      refine Does.of (q3 hp) ⟨?_, rfl, ?_⟩
      · have h3 := List.length_filter_le p (ds.take i)
        rw [List.length_take] at h3
        rw [h2, List.length_map]; omega
      · rw [h2, List.take_add_one, hd]; simp [hp]
    | false =>
      refine ⟨rfl, ?_⟩
      rw [h2, List.take_add_one, hd]; simp [hp]
  · rw [h2, List.take_length]; exact ⟨rfl, h1⟩
theorem v_fldN {N c : Nat} {nm : Str} {f : Ev} {ρ : Tl.Env} {S : Store} {n : Nat} {fs : List (Str × D)} {d : D} (h1 : Vl (f ρ) S (.ref n)) (h2 : S[n]? = some (.ins c fs)) (hc : c < N) (h3 : fs.lookup nm = some d) : Vl (mFldN N nm f ρ) S d := by
  refine v_bind h1 ?_
  show (match S[n]? with
    | some (.ins c' fs) => if c' < N then (match fs.lookup nm with
      | some d => some (Rs.ok d, S)
      | none => none) else none
    | _ => none) = _
  rw [h2]
  dsimp only
  rw [if_pos hc, h3]
/-- a house of either class -/
def Hou (S : Store) (n : Nat) (w : Int) (t : D) : Prop := ∃ c, c < 2 ∧ S[n]? = some (.ins c [("worlds", .int w), ("tree", t)])
theorem hou_house {S : Store} {n : Nat} {w : Int} {t : D} (h : S[n]? = some (house w t)) : Hou S n w t := ⟨0, by decide, h⟩
theorem hou_raw {S : Store} {n : Nat} {w : Int} {t : D} (h : S[n]? = some (raw w t)) : Hou S n w t := ⟨1, by decide, h⟩
theorem v_hw {f : Ev} {ρ : Tl.Env} {S : Store} {n : Nat} {w : Int} {t : D} (h1 : Vl (f ρ) S (.ref n)) (h : Hou S n w t) : Vl (mFldN 2 "worlds" f ρ) S (.int w) := let ⟨c, hc, e⟩ := h; v_fldN h1 e hc lk_w
theorem v_ht {f : Ev} {ρ : Tl.Env} {S : Store} {n : Nat} {w : Int} {t : D} (h1 : Vl (f ρ) S (.ref n)) (h : Hou S n w t) : Vl (mFldN 2 "tree" f ρ) S t := let ⟨c, hc, e⟩ := h; v_fldN h1 e hc lk_t
theorem Hou.keep {S S' : Store} {n : Nat} {w : Int} {t : D} {xs : List Nat} (h : Hou S n w t) (k : Kp xs S S') (hn : n ∉ xs) : Hou S' n w t := let ⟨c, hc, e⟩ := h; ⟨c, hc, k.get e hn⟩
theorem Hou.up {S S' : Store} {n : Nat} {w : Int} {t : D} (h : Hou S n w t) (k : Kp [] S S') : Hou S' n w t := h.keep k (by simp)
/-- a def that builds a tuple, item by item: found = []; for x in xs: ..; found.append(e); return tuple(found) -/
theorem does_build {n j : Nat} {it : Tl.Env → M Src} {tg : Tg} {b : Sm} {args qs : List D} {S : Store} (f : D → D) (E : Tl.Env → Nat → Prop) (hjn : j < (startD n args).length)
    (h0 : ∀ pf, E ((startD n args).set j (some (.ref pf))) pf) (hE : ∀ ρ pf, E ρ pf → ρ[j]? = some (some (.ref pf)))
    (hi : ∀ ρ pf S, E ρ pf → Vl (it ρ) S (srcD qs)) (hl : qs.length ≤ 1000)
    (hs : ∀ q ∈ qs, ∀ ρ pf S vs, E ρ pf → S[pf]? = some (.lst vs) → vs.length < 1000 → DoS (sSeq (sTg tg q) b) ρ S fun r S' => match r with
      | .nx ρ' => E ρ' pf ∧ S'[pf]? = some (.lst (vs ++ [f q])) ∧ Kp [pf] S S'
      | _ => False) :
    Does (bodyD n (sSeq (sAsg (mNew lNil) (gNm j)) (sSeq (sFor it tg b) (sRet (mCl tupleD (lCons (mVar j) lNil))))) args) S fun v S' => v = .tup (qs.map f) ∧ Kp [] S S' := by
  rw [does_body]
  refine do_asgM (Does.of (v_new v_nil (by simp)) ?_)
  have k1 : Kp [] S (S ++ [SO.lst []]) := Kp.push
  have g1 : (S ++ [SO.lst []])[S.length]? = some (.lst []) := by simp
  generalize S ++ [SO.lst []] = S1 at *
  generalize hpf : S.length = pf at *
  rw [do_seq]
  refine do_for (Does.of (hi _ pf _ (h0 pf)) ⟨qs, fun i ρ S' => E ρ pf ∧ S'[pf]? = some (.lst ((qs.take i).map f)) ∧ Kp [] S S', ⟨h0 pf, by simpa using g1, k1⟩, fun _ _ _ _ => reads_d, ?_, ?_⟩)
  · rintro i q ρ S2 hq ⟨e2, g2, k2⟩
    have hi := (List.getElem?_eq_some_iff.mp hq).1
    refine (hs q (List.mem_of_getElem? hq) ρ pf S2 _ e2 g2 (by rw [List.length_map, List.length_take]; omega)).imp fun r S' h => ?_
    cases r with
    | nx ρ' =>
      refine ⟨h.1, ?_, ?_⟩
      · rw [h.2.1, List.take_add_one, hq]; simp
      · refine ⟨Nat.le_trans k2.1 h.2.2.1, fun x hx _ => ?_⟩
        rw [h.2.2.2 x (Nat.lt_of_lt_of_le hx k2.1) (by simp; omega)]
        exact k2.2 x hx (by simp)
    | _ => exact h.elim
  · rintro ρ S2 ⟨e2, g2, k2⟩
    dsimp only
    rw [do_ret]
    rw [List.take_of_length_le (Nat.le_refl _)] at g2
    exact Does.of (v_cl1 (v_var (hE ρ pf e2)) (tuple_r g2)) ⟨rfl, k2⟩
/-- .. its last step -/
theorem do_app {j pf : Nat} {e : Ev} {ρ : Tl.Env} {S : Store} {vs : List D} {x : D} {P : Tl.Env → Prop} (hv : ρ[j]? = some (some (.ref pf))) (g : S[pf]? = some (.lst vs)) (hl : vs.length < 1000) (he : Does (e ρ) S fun d S' => d = x ∧ Kp [] S S') (hp : P ρ) :
    DoS (sExpr (mMt kApp (mVar j) e)) ρ S fun r S' => match r with
      | .nx ρ' => P ρ' ∧ S'[pf]? = some (.lst (vs ++ [x])) ∧ Kp [pf] S S'
      | _ => False := by
  rw [do_expr]
  refine does_mt (n := pf) (v_var hv) g (he.imp fun d S' ⟨e1, k⟩ => ?_)
  subst e1
  have g' := k.get g (by simp)
  have hp' : pf < S'.length := (List.getElem?_eq_some_iff.mp g').1
  refine ⟨.non, vs, vs ++ [d], g', ?_, hp, set_get hp', (k.more (by simp)).trans (Kp.set (by simp))⟩
  show (if vs.length < 1000000 then some (D.non, vs ++ [d]) else none) = _
  rw [if_pos (by omega)]
/-! ### hopeful -/
def hopB (d : D) : Bool := (items (at_ 1 d)).any fun c => !(frOf c == (0, 1))
def hopF : Nat → D → D
  | 0, _ => .tup []
  | l + 1, d => .tup ((items d).map fun q => .tup (((items q).filter hopB).map fun a => .tup [at_ 0 a, at_ 1 a, hopF l (at_ 2 a)]))
theorem items_tup' {ds : List D} : items (.tup ds) = ds := rfl
theorem hop_idem : ∀ (l : Nat) (d : D), hopF l (hopF l d) = hopF l d
  | 0, d => rfl
  | l + 1, d => by
    have hq : ∀ q : D, D.tup (((items (D.tup (((items q).filter hopB).map fun a => D.tup [at_ 0 a, at_ 1 a, hopF l (at_ 2 a)]))).filter hopB).map fun a => D.tup [at_ 0 a, at_ 1 a, hopF l (at_ 2 a)]) = D.tup (((items q).filter hopB).map fun a => D.tup [at_ 0 a, at_ 1 a, hopF l (at_ 2 a)]) := fun q => by
      have e : (((items q).filter hopB).map fun a => D.tup [at_ 0 a, at_ 1 a, hopF l (at_ 2 a)]).filter hopB = (((items q).filter hopB).map fun a => D.tup [at_ 0 a, at_ 1 a, hopF l (at_ 2 a)]) := by
        refine List.filter_eq_self.mpr fun x hx => ?_
        obtain ⟨a, ha, rfl⟩ := List.mem_map.mp hx
        exact (List.mem_filter.mp ha).2
      rw [items_tup', e, List.map_map]
      congr 1
      refine List.map_congr_left fun a _ => ?_
      show D.tup [at_ 0 a, at_ 1 a, hopF l (hopF l (at_ 2 a))] = _
      rw [hop_idem l]
    show D.tup ((items (D.tup ((items d).map fun q => D.tup (((items q).filter hopB).map fun a => D.tup [at_ 0 a, at_ 1 a, hopF l (at_ 2 a)])))).map fun q => D.tup (((items q).filter hopB).map fun a => D.tup [at_ 0 a, at_ 1 a, hopF l (at_ 2 a)])) = D.tup ((items d).map fun q => D.tup (((items q).filter hopB).map fun a => D.tup [at_ 0 a, at_ 1 a, hopF l (at_ 2 a)]))
    rw [items_tup', List.map_map]
    congr 1
    exact List.map_congr_left fun q _ => hq q
/-! ### numbers of the program -/
theorem v_lti {i j : Int} {S : Store} : Vl (ltD (.int i) (.int j)) S (.bl (decide (i < j))) := rfl
def ls (p q : Int × Int) : Int × Int := low (p.1 * q.2 - q.1 * p.2) (p.2 * q.2)
def IsLess (f : Fnd) : Prop := ∀ (p q : Int × Int) S, Bd 4000 p → Bd 4000 q → Vl (f [fr p, fr q]) S (fr (ls p q))
theorem s_body0 {n : Nat} {b : Sm} {ds : List D} {S : Store} {ρ : Tl.Env} (h : Sl b (startD n ds) S (.nx ρ)) : Vl (bodyD n b ds) S .non := by
  unfold Vl bodyD; rw [h]
/-! ### shares -/
def shB (d : D) : Bool := isFr d && (decide (0 < (frOf d).1) && decide ((frOf d).1 ≤ (frOf d).2))
def IsShare (f : Fnd) : Prop := ∀ d S, Fine d → Vl (f [d]) S (.bl (shB d))
/-- a share below one -/
def shlB (d : D) : Bool := shB d && !(frOf d == (1, 1))
/-- an error comes -/
def Ex {α : Type} (m : M α) (S : Store) (c : Nat) : Prop := m S = some (.exc c [], S)
def ExS (f : Sm) (ρ : Tl.Env) (S : Store) (c : Nat) (ρ' : Tl.Env) : Prop := f ρ S = some (.ex c [] ρ', S)
theorem ex_body {n c : Nat} {b : Sm} {ds : List D} {S : Store} {ρ' : Tl.Env} (h : ExS b (startD n ds) S c ρ') : Ex (bodyD n b ds) S c := by
  unfold Ex bodyD
  rw [h]
theorem exs_if {c : Ev} {f g : Sm} {ρ ρ' : Tl.Env} {S : Store} {k : Nat} (hc : Vl (c ρ) S (.bl true)) (h : ExS f ρ S k ρ') : ExS (sIf c f g) ρ S k ρ' := by
  unfold ExS sIf sBnd
  rw [hc]
  exact h
theorem exs_raise {ρ : Tl.Env} {S : Store} {k : Nat} : ExS (sRaise0 k) ρ S k ρ := rfl
theorem exs_seq1 {f g : Sm} {ρ ρ' : Tl.Env} {S : Store} {k : Nat} (h : ExS f ρ S k ρ') : ExS (sSeq f g) ρ S k ρ' := by
  unfold ExS sSeq
  rw [h]
theorem exs_seq2 {f g : Sm} {ρ ρ1 ρ' : Tl.Env} {S : Store} {k : Nat} (h : Sl f ρ S (.nx ρ1)) (h2 : ExS g ρ1 S k ρ') : ExS (sSeq f g) ρ S k ρ' := by
  unfold ExS sSeq
  rw [h]
  exact h2
theorem exs_expr {f : Ev} {ρ : Tl.Env} {S : Store} {k : Nat} (h : Ex (f ρ) S k) : ExS (sExpr f) ρ S k ρ := by
  unfold ExS sExpr sBnd
  rw [h]
theorem exs_asg {f : Ev} {g : Tg} {ρ : Tl.Env} {S : Store} {k : Nat} (h : Ex (f ρ) S k) : ExS (sAsg f g) ρ S k ρ := by
  unfold ExS sAsg sBnd
  rw [h]
theorem ex_call {g : Fnd} {n : Nat} {fs : Evs} {ds : List D} {ρ : Tl.Env} {S : Store} {k : Nat} (h : Vl (fs ρ) S ds) (h2 : Ex (g ds) S k) (hn : ds.length = n := by rfl) : Ex (mCall g n fs ρ) S k := by
  unfold Ex mCall M.bind
  rw [h]
  dsimp only
  rw [if_pos hn]
  exact h2
theorem s_expr {f : Ev} {ρ : Tl.Env} {S : Store} {d : D} (h : Vl (f ρ) S d) : Sl (sExpr f) ρ S (.nx ρ) := by
  unfold Sl sExpr sBnd
  rw [h]; rfl
def IsPart (f : Fnd) : Prop := ∀ d S, Fine d → (shlB d = true → Vl (f [d]) S .non) ∧ (shlB d = false → Ex (f [d]) S 4)
theorem part_test {p : Fnd} (hp : IsShare p) {d : D} {S : Store} (hd : Fine d) : Vl (mOr (mNot (mB (mCall p 1 (lCons (mVar 0) lNil)))) (mB (mOp eqD (mVar 0) (mC (.tup [(.int 1), (.int 1)])))) [some d]) S (.bl (!shlB d)) := by
  refine Vl.to (v_or (b := frOf d == (1, 1)) (v_not (v_B (v_call1 v_var (hp d S hd)))) fun h => ?_) ?_
  · simp only [Bool.not_eq_eq_eq_not, Bool.not_false] at h
    unfold shB at h
    simp only [Bool.and_eq_true] at h
    obtain ⟨e, _⟩ := isFr_of h.1 hd
    obtain ⟨q, hq⟩ : ∃ q, frOf d = q := ⟨_, rfl⟩
    rw [hq] at e ⊢
    subst e
    exact v_B (v_op v_var v_c (v_eqf (q := (1, 1))))
  · unfold shlB
    cases shB d <;> simp
def IsAlk (f : Fnd) : Prop := ∀ (n m : Nat) (w w' : Int) t t' S, Hou S n w t → Hou S m w' t' → (w = w' → Vl (f [.ref n, .ref m]) S .non) ∧ (w ≠ w' → Ex (f [.ref n, .ref m]) S 3)
theorem alike_ok : IsAlk B_check_alike := by
  intro n m w w' t t' S h1 h2
  unfold B_check_alike
  have c : Vl (mB (mOp neD (mFldN 2 "worlds" (mVar 0)) (mFldN 2 "worlds" (mVar 1))) [some (.ref n), some (.ref m)]) S (.bl (!(w == w'))) := v_B (v_op (v_hw v_var h1) (v_hw v_var h2) v_nei)
  refine ⟨fun h => s_body0 (s_skip1 (Vl.to c (by rw [h]; simp))), fun h => ex_body (exs_if (Vl.to c (by simp [h])) exs_raise)⟩
/-! ### the law's judge of shares -/
def IsLSh (f : Fnd) : Prop := ∀ d S, Fine d → Vl (f [d]) S (.bl (shlB d))
def intB (a b : Int) (d : D) : Bool := isI d && within a b d
def IsLInt (f : Fnd) : Prop := ∀ d a b S, Fine d → Vl (f [d, .int a, .int b]) S (.bl (within a b d))
end Lw
set_option Elab.async false
set_option linter.all false
set_option maxRecDepth 100000
set_option maxHeartbeats 4000000
set_option autoImplicit false
namespace Lw
open PySem L2 Tl

/-! ### texts compared -/
theorem shaped_str {x : Str} (h : PyData.canLay0 (.str x) = true) : SeqAt.shaped (.str x) = true := by
  unfold SeqAt.shaped
  rw [h]
  simp [PyData.depth]
theorem eqv_str {x y : Str} : PyData.eqv (.str x) (.str y) = decide (x = y) := by
  simp only [PyData.eqv]
  first | rfl | (exact Bool.eq_iff_iff.mpr (by simp))
theorem v_eqS {x y : Str} {S : Store} (h1 : PyData.canLay0 (.str x) = true) (h2 : PyData.canLay0 (.str y) = true) : Vl (eqD (.str x) (.str y)) S (.bl (decide (x = y))) := by
  unfold eqD cmpP
  simp only [toP]
  rw [if_pos ⟨shaped_str h1, shaped_str h2⟩, eqv_str]; rfl
theorem v_neS' {x y : Str} {S : Store} (h1 : PyData.canLay0 (.str x) = true) (h2 : PyData.canLay0 (.str y) = true) : Vl (neD (.str x) (.str y)) S (.bl (!decide (x = y))) := by
  unfold neD cmpP
  simp only [toP]
  rw [if_pos ⟨shaped_str h1, shaped_str h2⟩, eqv_str]; rfl
def isS : D → Bool
  | .str _ => true
  | _ => false
theorem isS_of {d : D} (h : isS d = true) : ∃ x, d = .str x := by
  cases d <;> simp [isS] at h
  exact ⟨_, rfl⟩
theorem v_isS {f : Ev} {ρ : Tl.Env} {S : Store} {x : D} (h1 : Vl (f ρ) S x) (hx : Fine x) : Vl (mIsi "str" f ρ) S (.bl (isS x)) := v_bind h1 (by
  cases x <;> first | rfl | (simp [Fine] at hx))
theorem isT_of' {d : D} (h : isT d = true) : ∃ ds, d = .tup ds := by
  cases d <;> simp [isT] at h
  exact ⟨_, rfl⟩
theorem len4 {ds : List D} (h : ds.length = 3) : ∃ a b c, ds = [a, b, c] := len3 h
/-! ### trees by their shape -/
def TS : Nat → D → Prop
  | 0, d => d = .tup []
  | l + 1, d => ∃ qs, d = .tup qs ∧ qs.length ≤ 20 ∧ ∀ q ∈ qs, ∃ as, q = .tup as ∧ as.length ≤ 20 ∧ ∀ a ∈ as, ∃ x y n, a = .tup [x, y, n] ∧ TS l n
def QS (l : Nat) (q : D) : Prop := ∃ as, q = .tup as ∧ as.length ≤ 20 ∧ ∀ a ∈ as, ∃ x y n, a = .tup [x, y, n] ∧ TS l n
theorem ht_ts {w : Nat} : ∀ (l : Nat) (ah : List (Int × Int)) (d : D), HTr w l ah d → TS l d
  | 0, _, _, h => h
  | l + 1, ah, d, h => by
    obtain ⟨qs, rfl, hl, hq⟩ := h
    refine ⟨qs, rfl, by omega, fun q hm => ?_⟩
    obtain ⟨as, rfl, _, h12, ha, _⟩ := (hq q hm).ex
    refine ⟨as.map ansD, rfl, by rw [List.length_map]; omega, fun a hm => ?_⟩
    obtain ⟨x, hx, rfl⟩ := List.mem_map.mp hm
    exact ⟨_, _, _, rfl, ht_ts l _ _ (ha x hx).nd⟩
theorem ts_tup {l : Nat} {d : D} (h : TS l d) : ∃ qs, d = .tup qs ∧ qs.length ≤ 20 := by
  cases l with
  | zero => exact ⟨[], h, by simp⟩
  | succ l => obtain ⟨qs, h1, h2, _⟩ := h; exact ⟨qs, h1, h2⟩
/-! ### the judge of plans -/
def nth (q d : D) : D := match d with
  | .int i => (items q).getD i.toNat .non
  | _ => .non
mutual
def waitB : Nat → D → D → D → Bool
  | 0, _, _, _ => false
  | k + 1, n, g, t => (isT t && ((items t).length == (items g).length)) && (zipT (items g) (items t)).all fun p => moveB k n (at_ 0 p) (at_ 1 p)
def moveB : Nat → D → D → D → Bool
  | 0, _, _, _ => false
  | k + 1, n, q, t => (lenIs 3 t && isS (at_ 0 t)) && (match at_ 0 t with
    | .str x => if x = "tell" then within 0 ((items q).length - 1) (at_ 1 t) && waitB k n (at_ 2 (nth q (at_ 1 t))) (at_ 2 t)
      else (decide (x = "ask") && within 0 ((items n).length - 1) (at_ 1 t)) && ((isT (at_ 2 t) && ((items (at_ 2 t)).length == (items (nth n (at_ 1 t))).length)) && (zipT (items (nth n (at_ 1 t))) (items (at_ 2 t))).all fun p => moveB k (at_ 2 (at_ 0 p)) q (at_ 1 p))
    | _ => false)
end
theorem waitB_s {k : Nat} {n g t : D} : waitB (k + 1) n g t = ((isT t && ((items t).length == (items g).length)) && (zipT (items g) (items t)).all fun p => moveB k n (at_ 0 p) (at_ 1 p)) := by rw [waitB]
theorem moveB_s {k : Nat} {n q t : D} : moveB (k + 1) n q t = ((lenIs 3 t && isS (at_ 0 t)) && (match at_ 0 t with
    | .str x => if x = "tell" then within 0 ((items q).length - 1) (at_ 1 t) && waitB k n (at_ 2 (nth q (at_ 1 t))) (at_ 2 t)
      else (decide (x = "ask") && within 0 ((items n).length - 1) (at_ 1 t)) && ((isT (at_ 2 t) && ((items (at_ 2 t)).length == (items (nth n (at_ 1 t))).length)) && (zipT (items (nth n (at_ 1 t))) (items (at_ 2 t))).all fun p => moveB k (at_ 2 (at_ 0 p)) q (at_ 1 p))
    | _ => false)) := by rw [moveB]
def IsWait (k : Nat) (f : Fnd) : Prop := ∀ i j n g t S, TS i n → TS j g → Fine t → 1 + j * (i + 2) ≤ k → Vl (f [n, g, t]) S (.bl (waitB k n g t))
def IsMove (k : Nat) (f : Fnd) : Prop := ∀ i j n q t S, TS i n → QS j q → Fine t → 2 + i + j * (i + 2) ≤ k → Vl (f [n, q, t]) S (.bl (moveB k n q t))
theorem cl_tell : PyData.canLay0 (.str ("tell" : Str)) = true := by decide +kernel
theorem cl_ask : PyData.canLay0 (.str ("ask" : Str)) = true := by decide +kernel
theorem ask_ne : ("ask" : Str) ≠ "tell" := by decide +kernel
theorem sized_eq' {n : Nat} {t : D} : sizedD n n t = (isT t && ((items t).length == n)) := by
  cases t <;> simp [sizedD, isT, items]
  exact Bool.eq_iff_iff.mpr (by simp; omega)
theorem fuel_w {i j k : Nat} (h : 1 + j * (i + 2) ≤ k + 1) (hj : 0 < j) : 2 + i + (j - 1) * (i + 2) ≤ k := by
  obtain ⟨j', rfl⟩ : ∃ j', j = j' + 1 := ⟨j - 1, by omega⟩
  have e := Nat.succ_mul j' (i + 2)
  rw [Nat.succ_eq_add_one] at e
  rw [e] at h
  rw [Nat.add_sub_cancel]
  omega
theorem fuel_t {i j k : Nat} (h : 2 + i + j * (i + 2) ≤ k + 1) : 1 + j * (i + 2) ≤ k := by omega
theorem fuel_a {i j k : Nat} (h : 2 + i + j * (i + 2) ≤ k + 1) (hi : 0 < i) : 2 + (i - 1) + j * ((i - 1) + 2) ≤ k := by
  have := Nat.mul_le_mul_left j (show (i - 1) + 2 ≤ i + 2 by omega)
  omega
theorem is_wait_ok {k : Nat} {p q : Fnd} (hp : IsSized p) (hq : IsMove k q) : IsWait (k + 1) (B_is_wait p q) := by
  intro i j n g t S hn hg ht hk
  obtain ⟨qs, rfl, hql⟩ := ts_tup hg
  unfold B_is_wait
  refine s_body (Sl.to (s_guard (k := !sizedD qs.length qs.length t) (v := (zipT qs (items t)).all fun p => moveB k n (at_ 0 p) (at_ 1 p)) ?_ fun z => ?_) ?_)
  · exact v_not (v_B (v_call3 v_var (v_len v_var) (v_len v_var) (hp t _ _ S ht)))
  · simp only [Bool.not_eq_eq_eq_not, Bool.not_false] at z
    obtain ⟨ts, rfl, _, _⟩ := sized_of z
    obtain ⟨hl, hf⟩ := fine_tup ht
    refine s_ret (v_all (fun p => moveB k n (at_ 0 p) (at_ 1 p)) (v_zipT v_var v_var) (reads_zip reads_d reads_d) (Nat.le_trans zipT_len (big20 hql)) fun x hx => ?_)
    obtain ⟨a, b, rfl, ma, mb⟩ := mem_zipT hx
    cases j with
    | zero => cases (show D.tup qs = .tup [] from hg); cases ma
    | succ j =>
      obtain ⟨qs', e, _, hqs⟩ := hg
      cases e
      exact ⟨_, v_g2, v_call3 v_var v_var v_var (hq i j n a b S hn (hqs a ma) (hf b mb) (fuel_w hk (by omega)))⟩
  · rw [waitB_s]
    simp only [items, sized_eq', Bool.not_not]
theorem nth_ok {ds : List D} {d : D} (h : within 0 ((ds.length : Int) - 1) d = true) (S : Store) : ∃ (i : Nat) (x : D), d = .int i ∧ ds[i]? = some x ∧ nth (.tup ds) d = x ∧ x ∈ ds := by
  cases d <;> simp [within] at h
  rename_i z
  obtain ⟨i, rfl⟩ : ∃ i : Nat, z = i := ⟨z.toNat, by omega⟩
  have hi : i < ds.length := by omega
  refine ⟨i, ds[i], rfl, List.getElem?_eq_getElem hi, ?_, List.getElem_mem hi⟩
  unfold nth items
  simp [List.getD, hi]
theorem v_g3 {i j l : Nat} {a b c : D} {ρ : Tl.Env} {S : Store} : Vl (gTp 3 (gsCons (gNm i) (gsCons (gNm j) (gsCons (gNm l) gsNil))) (.tup [a, b, c]) ρ) S (((ρ.set i (some a)).set j (some b)).set l (some c)) := rfl
theorem s_seqR {c f : Ev} {rest : Sm} {ρ : Tl.Env} {S : Store} {x y : D} {k : Bool} (hc : Vl (c ρ) S (.bl k)) (h1 : k = true → Vl (f ρ) S x) (h2 : k = false → Sl rest ρ S (.rt y)) : Sl (sSeq (sIf c (sRet f) sSkip) rest) ρ S (.rt (if k = true then x else y)) := by
  unfold Sl sSeq sIf sBnd
  rw [hc]
  cases k with
  | true =>
    have := h1 rfl
    unfold sRet sBnd
    dsimp only
    rw [this]; rfl
  | false => exact h2 rfl
theorem is_move_ok {k : Nat} {p1 p2 p3 p4 p5 : Fnd} (h1 : IsWithin p1) (h2 : IsSized p2) (h3 : IsTriple p3) (h4 : IsWait k p4) (h5 : IsMove k p5) : IsMove (k + 1) (B_is_move p1 p2 p3 p4 p5) := by
  intro i j n q t S hn hq ht hk
  obtain ⟨ns, rfl, hnl⟩ := ts_tup hn
  obtain ⟨as, rfl, hal, has⟩ := id hq
  unfold B_is_move
  refine s_body (Sl.to (s_guard (k := (!lenIs 3 t || !isS (at_ 0 t))) (v := (match at_ 0 t with
    | .str x => if x = "tell" then within 0 ((as.length : Int) - 1) (at_ 1 t) && waitB k (.tup ns) (at_ 2 (nth (.tup as) (at_ 1 t))) (at_ 2 t)
      else (decide (x = "ask") && within 0 ((ns.length : Int) - 1) (at_ 1 t)) && ((isT (at_ 2 t) && ((items (at_ 2 t)).length == (items (nth (.tup ns) (at_ 1 t))).length)) && (zipT (items (nth (.tup ns) (at_ 1 t))) (items (at_ 2 t))).all fun p => moveB k (at_ 2 (at_ 0 p)) (.tup as) (at_ 1 p))
    | _ => false)) ?_ fun z => ?_) ?_)
  · refine v_or (v_not (v_B (v_call1 v_var (h3 t S ht)))) fun z => ?_
    simp only [Bool.not_eq_eq_eq_not, Bool.not_false] at z
    obtain ⟨ds, rfl, hl⟩ := lenIs_of z
    obtain ⟨a, b, c, rfl⟩ := len3 hl
    have hf := (fine_tup ht).2
    exact v_not (v_B (v_isS (v_idx v_var v_c rfl) (hf a (by simp))))
  · simp only [Bool.or_eq_false_iff, Bool.not_eq_eq_eq_not, Bool.not_false] at z
    obtain ⟨z1, z2⟩ := z
    obtain ⟨ds, rfl, hl⟩ := lenIs_of z1
    obtain ⟨a, b, c, rfl⟩ := len3 hl
    have hf := (fine_tup ht).2
    obtain ⟨x, rfl⟩ := isS_of (d := a) z2
    have fa := hf (.str x) (by simp)
    have fb := hf b (by simp)
    have fc := hf c (by simp)
    have cx : PyData.canLay0 (.str x) = true := fa.2
    refine s_then (s_asg v_var v_g3) ?_
    refine Sl.to (s_seqR (k := decide (x = "tell")) (x := .bl (within 0 ((as.length : Int) - 1) b && waitB k (.tup ns) (at_ 2 (nth (.tup as) b)) c)) (y := .bl ((decide (x = "ask") && within 0 ((ns.length : Int) - 1) b) && ((isT c && ((items c).length == (items (nth (.tup ns) b)).length)) && (zipT (items (nth (.tup ns) b)) (items c)).all fun p => moveB k (at_ 2 (at_ 0 p)) (.tup as) (at_ 1 p)))) (v_B (v_op v_var v_c (v_eqS cx cl_tell))) (fun _ => ?_) fun _ => ?_) ?_
    · refine v_and (v_call3 v_var v_c (v_op (v_len v_var) v_c v_sub) (h1 b _ _ S fb)) fun hw => ?_
      obtain ⟨m, y, rfl, hy, e, hm⟩ := nth_ok hw S
      rw [e]
      obtain ⟨u, v, nn, rfl, hnn⟩ := has y hm
      exact v_call3 v_var (v_idx (v_op (x := .tup as) (y := .int (m : Int)) (z := .tup [u, v, nn]) v_var v_var (getAt_v hy)) v_c rfl) v_var (h4 i j (.tup ns) nn c S hn hnn fc (fuel_t hk))
    · refine Sl.to (s_guard (k := (!decide (x = "ask") || !within 0 ((ns.length : Int) - 1) b)) (v := ((isT c && ((items c).length == (items (nth (.tup ns) b)).length)) && (zipT (items (nth (.tup ns) b)) (items c)).all fun p => moveB k (at_ 2 (at_ 0 p)) (.tup as) (at_ 1 p))) ?_ fun z => ?_) ?_
      · exact v_or (v_B (v_op v_var v_c (v_neS' cx cl_ask))) fun _ => v_not (v_B (v_call3 v_var v_c (v_op (v_len v_var) v_c v_sub) (h1 b _ _ S fb)))
      · simp only [Bool.or_eq_false_iff, Bool.not_eq_eq_eq_not, Bool.not_false] at z
        obtain ⟨m, y, rfl, hy, e, hm⟩ := nth_ok z.2 S
        rw [e]
        cases i with
        | zero => cases (show D.tup ns = .tup [] from hn); cases hm
        | succ i =>
          obtain ⟨ns', e2, _, hns⟩ := id hn
          cases e2
          obtain ⟨bs, rfl, hbl, hbs⟩ := hns y hm
          have gy : Vl (mOp idxD (mVar 0) (mVar 4) [some (.tup ns), some (.tup as), some (.tup [.str x, .int m, c]), some (.str x), some (.int m), some c, none, none]) S (.tup bs) := v_op v_var v_var (show Vl (idxD (.tup ns) (.int (m : Int))) S _ from getAt_v hy)
          refine Sl.to (s_guard (k := !sizedD bs.length bs.length c) (v := (zipT bs (items c)).all fun p => moveB k (at_ 2 (at_ 0 p)) (.tup as) (at_ 1 p)) ?_ fun z => ?_) ?_
          · exact v_not (v_B (v_call3 v_var (v_len gy) (v_len gy) (h2 c _ _ S fc)))
          · simp only [Bool.not_eq_eq_eq_not, Bool.not_false] at z
            obtain ⟨ts, rfl, _, _⟩ := sized_of z
            obtain ⟨hl, hf2⟩ := fine_tup fc
            refine s_ret (v_all (fun p => moveB k (at_ 2 (at_ 0 p)) (.tup as) (at_ 1 p)) (v_zipT gy v_var) (reads_zip reads_d reads_d) (Nat.le_trans zipT_len (big20 hbl)) fun p hp => ?_)
            obtain ⟨a', b', rfl, ma, mb⟩ := mem_zipT hp
            obtain ⟨u, v, nn, rfl, hnn⟩ := hbs a' ma
            exact ⟨_, v_g2, v_call3 (v_idx v_var v_c rfl) v_var v_var (h5 i j nn (.tup as) b' S hnn hq (hf2 b' mb) (fuel_a hk (by omega)))⟩
          · simp only [items, sized_eq', Bool.not_not]
      · cases decide (x = "ask") <;> cases within 0 ((ns.length : Int) - 1) b <;> simp
    · simp only [at_, List.getD_cons_zero, List.getD_cons_succ]
      by_cases hx : x = "tell"
      · simp [hx]
      · simp [hx]
  · rw [moveB_s]
    simp only [show ∀ ds : List D, items (.tup ds) = ds from fun _ => rfl]
    cases lenIs 3 t <;> cases isS (at_ 0 t) <;> simp only [Bool.not_true, Bool.not_false, Bool.or_self, Bool.true_or, Bool.or_true, Bool.false_or, Bool.or_false, Bool.true_and, Bool.false_and, Bool.and_self, Bool.and_false]
end Lw
set_option Elab.async false
set_option linter.all false
set_option maxRecDepth 100000
set_option maxHeartbeats 4000000
set_option autoImplicit false
namespace Lw
open PySem L2 Tl

/-! ### the law's own judge -/
theorem l_is_int_ok : IsWithin B_l_is_int := by
  intro d lo hi S hd
  unfold B_l_is_int
  cases d with
  | int i => exact s_body (s_ret (Vl.to (v_and (v_isInt v_var hd) fun _ => v_and (v_not (v_isB v_var hd)) fun _ => v_chain v_var v_var v_ord (fun _ => v_var) fun _ => v_ord) (by simp [isI, isB, within])))
  | bl b => exact s_body (s_ret (Vl.to (v_and (v_isInt v_var hd) fun _ => v_and (b := false) (v_not (v_isB v_var hd)) fun h => (nomatch h)) rfl))
  | _ => exact s_body (s_ret (Vl.to (v_and (b := false) (v_isInt v_var hd) fun h => (nomatch h)) rfl))
theorem v_lenne' {f g : Ev} {ρ : Tl.Env} {S : Store} {a b : List D} (h : Vl (f ρ) S (.tup a)) (h2 : Vl (g ρ) S (.tup b)) : Vl (mB (mOp neD (mCl lenD (lCons f lNil)) (mCl lenD (lCons g lNil))) ρ) S (.bl (!(a.length == b.length))) := by
  refine Vl.to (v_B (v_op (v_len h) (v_len h2) v_nei)) ?_
  congr 2
  exact Bool.eq_iff_iff.mpr (by simp; omega)
theorem v_rgL {f : Ev} {ρ : Tl.Env} {S : Store} {a : List D} (h : Vl (f ρ) S (.tup a)) (hl : a.length ≤ 20) : Vl (mRg1 (mCl lenD (lCons f lNil)) ρ) S (srcRg 0 a.length) :=
  Does.eq (does_rg (Does.of (v_len h) ⟨a.length, rfl, by omega, rfl, rfl⟩))
/-- all numbers below n, item by item -/
theorem all_range {n : Nat} {ds es : List D} (h1 : ds.length = n) (h2 : es.length = n) (g : D → D → Bool) : (((List.range n).map fun (i : Nat) => D.int (0 + i)).all fun x => g (nth (.tup ds) x) (nth (.tup es) x)) = (zipT ds es).all fun p => g (at_ 0 p) (at_ 1 p) := by
  have e : (zipT ds es) = (List.range n).map fun i => D.tup [ds.getD i .non, es.getD i .non] := by
    unfold zipT
    apply List.ext_getElem
    · simp [h1, h2]
    · intro i hi hj
      have : i < n := by simpa using hj
      simp [List.getD, h1, h2, this]
  rw [e, List.all_map, List.all_map]
  congr 1
  funext i
  show g (nth (.tup ds) (.int (0 + (i : Int)))) (nth (.tup es) (.int (0 + (i : Int)))) = _
  rw [Int.zero_add]
  rfl
theorem nth_v {ds : List D} {x : D} (hx : x ∈ (List.range ds.length).map fun (i : Nat) => D.int (0 + i)) : ∃ (i : Nat) (y : D), x = .int i ∧ ds[i]? = some y ∧ nth (.tup ds) x = y ∧ y ∈ ds := by
  obtain ⟨i, hi, rfl⟩ := List.mem_map.mp hx
  have hi : i < ds.length := List.mem_range.mp hi
  refine ⟨i, ds[i], by rw [Int.zero_add], List.getElem?_eq_getElem hi, ?_, List.getElem_mem hi⟩
  rw [Int.zero_add]
  unfold nth items
  simp [List.getD, hi]
theorem nth_get {ds : List D} {i : Nat} {y : D} (h : ds[i]? = some y) : nth (.tup ds) (.int i) = y := by
  unfold nth items
  simp [List.getD, h]
theorem idx_v {ds : List D} {i : Nat} {d : D} {S : Store} (h : ds[i]? = some d) : Vl (idxD (.tup ds) (.int (i : Int))) S d := getAt_v h
theorem l_is_wait_ok {k : Nat} {q : Fnd} (hq : IsMove k q) : IsWait (k + 1) (B_l_is_wait q) := by
  intro i j n g t S hn hg ht hk
  obtain ⟨qs, rfl, hql⟩ := ts_tup hg
  unfold B_l_is_wait
  refine s_body (Sl.to (s_guard (k := (!isT t || !((items t).length == qs.length))) (v := (zipT qs (items t)).all fun p => moveB k n (at_ 0 p) (at_ 1 p)) ?_ fun z => ?_) ?_)
  · refine v_or (v_not (v_B (v_isT v_var ht))) fun z => ?_
    simp only [Bool.not_eq_eq_eq_not, Bool.not_false] at z
    obtain ⟨ts, rfl⟩ := isT_of z
    exact v_lenne' v_var v_var
  · simp only [Bool.or_eq_false_iff, Bool.not_eq_eq_eq_not, Bool.not_false, beq_iff_eq] at z
    obtain ⟨ts, rfl⟩ := isT_of z.1
    have hlen : ts.length = qs.length := z.2
    obtain ⟨hl, hf⟩ := fine_tup ht
    refine s_ret (Vl.to (v_all (fun x => moveB k n (nth (.tup qs) x) (nth (.tup ts) x)) (v_rgL v_var hql) reads_rg (by simp; omega) fun x hx => ?_) ?_)
    · obtain ⟨m, y, rfl, hy, e, hm⟩ := nth_v hx
      have hmlt := (List.getElem?_eq_some_iff.mp hy).1
      have hu : ts[m]? = some (ts[m]'(by omega)) := List.getElem?_eq_getElem (by omega)
      rw [e, nth_get hu]
      cases j with
      | zero => cases (show D.tup qs = .tup [] from hg); cases hm
      | succ j =>
        obtain ⟨qs', e2, _, hqs⟩ := hg
        cases e2
        exact ⟨_, v_nm, v_call3 v_var (v_op v_var v_var (idx_v hy)) (v_op v_var v_var (idx_v hu)) (hq i j n y _ S hn (hqs y hm) (hf _ (List.getElem_mem _)) (fuel_w hk (by omega)))⟩
    · rw [all_range rfl hlen (moveB k n)]; rfl
  · rw [waitB_s]
    simp only [show ∀ ds : List D, items (.tup ds) = ds from fun _ => rfl]
    cases isT t <;> cases ((items t).length == qs.length) <;> simp
theorem l_is_move_ok {k : Nat} {p1 p4 p5 : Fnd} (h1 : IsWithin p1) (h4 : IsWait k p4) (h5 : IsMove k p5) : IsMove (k + 1) (B_l_is_move p1 p4 p5) := by
  intro i j n q t S hn hq ht hk
  obtain ⟨ns, rfl, hnl⟩ := ts_tup hn
  obtain ⟨as, rfl, hal, has⟩ := id hq
  unfold B_l_is_move
  refine s_body (Sl.to (s_guard (k := (!isT t || (!((items t).length == 3) || !isS (at_ 0 t)))) (v := (match at_ 0 t with
    | .str x => if x = "tell" then within 0 ((as.length : Int) - 1) (at_ 1 t) && waitB k (.tup ns) (at_ 2 (nth (.tup as) (at_ 1 t))) (at_ 2 t)
      else (decide (x = "ask") && within 0 ((ns.length : Int) - 1) (at_ 1 t)) && ((isT (at_ 2 t) && ((items (at_ 2 t)).length == (items (nth (.tup ns) (at_ 1 t))).length)) && (zipT (items (nth (.tup ns) (at_ 1 t))) (items (at_ 2 t))).all fun p => moveB k (at_ 2 (at_ 0 p)) (.tup as) (at_ 1 p))
    | _ => false)) ?_ fun z => ?_) ?_)
  · refine v_or (v_not (v_B (v_isT v_var ht))) fun z => ?_
    simp only [Bool.not_eq_eq_eq_not, Bool.not_false] at z
    obtain ⟨ds, rfl⟩ := isT_of z
    refine v_or (v_lenne (n := 3) v_var v_c) fun z => ?_
    simp only [Bool.not_eq_eq_eq_not, Bool.not_false, beq_iff_eq] at z
    obtain ⟨a, b, c, rfl⟩ := len3 z
    have hf := (fine_tup ht).2
    exact v_not (v_B (v_isS (v_idx v_var v_c rfl) (hf a (by simp))))
  · simp only [Bool.or_eq_false_iff, Bool.not_eq_eq_eq_not, Bool.not_false, beq_iff_eq] at z
    obtain ⟨z1, z2, z3⟩ := z
    obtain ⟨ds, rfl⟩ := isT_of z1
    obtain ⟨a, b, c, rfl⟩ := len3 (ds := ds) z2
    have hf := (fine_tup ht).2
    obtain ⟨x, rfl⟩ := isS_of (d := a) z3
    have fa := hf (.str x) (by simp)
    have fb := hf b (by simp)
    have fc := hf c (by simp)
    have cx : PyData.canLay0 (.str x) = true := fa.2
    refine Sl.to (s_seqR (k := decide (x = "tell")) (x := .bl (within 0 ((as.length : Int) - 1) b && waitB k (.tup ns) (at_ 2 (nth (.tup as) b)) c)) (y := .bl ((decide (x = "ask") && within 0 ((ns.length : Int) - 1) b) && ((isT c && ((items c).length == (items (nth (.tup ns) b)).length)) && (zipT (items (nth (.tup ns) b)) (items c)).all fun p => moveB k (at_ 2 (at_ 0 p)) (.tup as) (at_ 1 p)))) (v_B (v_op (v_idx v_var v_c rfl) v_c (v_eqS cx cl_tell))) (fun _ => ?_) fun _ => ?_) ?_
    · refine v_and (v_call3 (v_idx v_var v_c rfl) v_c (v_op (v_len v_var) v_c v_sub) (h1 b _ _ S fb)) fun hw => ?_
      obtain ⟨m, y, rfl, hy, e, hm⟩ := nth_ok hw S
      rw [e]
      obtain ⟨u, v, nn, rfl, hnn⟩ := has y hm
      exact v_call3 v_var (v_idx (v_op (x := .tup as) (y := .int (m : Int)) (z := .tup [u, v, nn]) v_var (v_idx v_var v_c rfl) (idx_v hy)) v_c rfl) (v_idx v_var v_c rfl) (h4 i j (.tup ns) nn c S hn hnn fc (fuel_t hk))
    · refine Sl.to (s_guard (k := (!decide (x = "ask") || !within 0 ((ns.length : Int) - 1) b)) (v := ((isT c && ((items c).length == (items (nth (.tup ns) b)).length)) && (zipT (items (nth (.tup ns) b)) (items c)).all fun p => moveB k (at_ 2 (at_ 0 p)) (.tup as) (at_ 1 p))) ?_ fun z => ?_) ?_
      · exact v_or (v_B (v_op (v_idx v_var v_c rfl) v_c (v_neS' cx cl_ask))) fun _ => v_not (v_B (v_call3 (v_idx v_var v_c rfl) v_c (v_op (v_len v_var) v_c v_sub) (h1 b _ _ S fb)))
      · simp only [Bool.or_eq_false_iff, Bool.not_eq_eq_eq_not, Bool.not_false] at z
        obtain ⟨m, y, rfl, hy, e, hm⟩ := nth_ok z.2 S
        rw [e]
        cases i with
        | zero => cases (show D.tup ns = .tup [] from hn); cases hm
        | succ i =>
          obtain ⟨ns', e2, _, hns⟩ := id hn
          cases e2
          obtain ⟨bs, rfl, hbl, hbs⟩ := hns y hm
          refine s_then (s_asg (v_op (x := .tup ns) (y := .int (m : Int)) (z := .tup bs) v_var (v_idx v_var v_c rfl) (idx_v hy)) v_nm) ?_
          refine Sl.to (s_guard (k := (!isT c || !((items c).length == bs.length))) (v := (zipT bs (items c)).all fun p => moveB k (at_ 2 (at_ 0 p)) (.tup as) (at_ 1 p)) ?_ fun z => ?_) ?_
          · refine v_or (v_not (v_B (v_isT (v_idx v_var v_c rfl) fc))) fun z => ?_
            simp only [Bool.not_eq_eq_eq_not, Bool.not_false] at z
            obtain ⟨ts, rfl⟩ := isT_of z
            exact v_lenne' (v_idx v_var v_c rfl) v_var
          · simp only [Bool.or_eq_false_iff, Bool.not_eq_eq_eq_not, Bool.not_false, beq_iff_eq] at z
            obtain ⟨ts, rfl⟩ := isT_of z.1
            have hlen : ts.length = bs.length := z.2
            obtain ⟨hl, hf2⟩ := fine_tup fc
            refine s_ret (Vl.to (v_all (fun x => moveB k (at_ 2 (nth (.tup bs) x)) (.tup as) (nth (.tup ts) x)) (v_rgL v_var hbl) reads_rg (by simp; omega) fun p hp => ?_) ?_)
            · obtain ⟨m', y', rfl, hy', e', hm'⟩ := nth_v hp
              have hmlt := (List.getElem?_eq_some_iff.mp hy').1
              have hu : ts[m']? = some (ts[m']'(by omega)) := List.getElem?_eq_getElem (by omega)
              rw [e', nth_get hu]
              obtain ⟨u, v, nn, rfl, hnn⟩ := hbs y' hm'
              exact ⟨_, v_nm, v_call3 (v_idx (v_op (x := .tup bs) (y := .int (m' : Int)) (z := .tup [u, v, nn]) v_var v_var (idx_v hy')) v_c rfl) v_var (v_op (x := .tup ts) (y := .int (m' : Int)) (v_idx v_var v_c rfl) v_var (idx_v hu)) (h5 i j nn (.tup as) _ S hnn hq (hf2 _ (List.getElem_mem _)) (fuel_a hk (by omega)))⟩
            · rw [all_range rfl hlen (fun x y => moveB k (at_ 2 x) (.tup as) y)]; rfl
          · simp only [show ∀ ds : List D, items (.tup ds) = ds from fun _ => rfl]
            cases isT c <;> cases ((items c).length == bs.length) <;> simp
      · cases decide (x = "ask") <;> cases within 0 ((ns.length : Int) - 1) b <;> simp
    · simp only [at_, List.getD_cons_zero, List.getD_cons_succ]
      by_cases hx : x = "tell"
      · simp [hx]
      · simp [hx]
  · rw [moveB_s]
    simp only [show ∀ ds : List D, items (.tup ds) = ds from fun _ => rfl]
    have e : lenIs 3 t = (isT t && ((items t).length == 3)) := by cases t <;> simp [lenIs, isT, items]
    rw [e]
    cases isT t <;> cases ((items t).length == 3) <;> cases isS (at_ 0 t) <;> simp only [Bool.not_true, Bool.not_false, Bool.or_self, Bool.true_or, Bool.or_true, Bool.false_or, Bool.or_false, Bool.true_and, Bool.false_and, Bool.and_self, Bool.and_false, Bool.and_true]
    try rfl
end Lw
set_option Elab.async false
set_option linter.all false
set_option maxRecDepth 100000
set_option maxHeartbeats 4000000
set_option autoImplicit false
namespace Lw
open PySem L2 Tl

/-! ### small ways -/
theorem does_and {f g : Ev} {ρ : Tl.Env} {S : Store} {P : D → Store → Prop} (h : Does (f ρ) S fun d S1 => ∃ b, d = .bl b ∧ (b = true → Does (g ρ) S1 P) ∧ (b = false → P (.bl false) S1)) : Does (mAnd f g ρ) S P := by
  unfold mAnd
  rw [does_bind]
  refine h.imp fun d S1 ⟨b, e, h1, h2⟩ => ?_
  subst e
  cases b with
  | true => exact h1 rfl
  | false => exact does_ret.mpr (h2 rfl)
theorem does_B {f : Ev} {ρ : Tl.Env} {S : Store} {P : D → Store → Prop} (h : Does (f ρ) S fun d S1 => ∃ b, d = .bl b ∧ P (.bl b) S1) : Does (mB f ρ) S P := by
  unfold mB
  rw [does_bind]
  refine h.imp fun d S1 ⟨b, e, h1⟩ => ?_
  subst e
  exact does_ret.mpr h1
theorem do_ifB {c : Ev} {f g : Sm} {ρ : Tl.Env} {S : Store} {P : Fl → Store → Prop} (h : Does (c ρ) S fun d S1 => ∃ b, d = .bl b ∧ (b = true → DoS f ρ S1 P) ∧ (b = false → DoS g ρ S1 P)) : DoS (sIf c f g) ρ S P := by
  rw [do_if]
  refine h.imp fun d S1 ⟨b, e, h1, h2⟩ => ?_
  subst e
  cases b with
  | true => exact h1 rfl
  | false => exact h2 rfl
theorem does_cl1 {o : List D → M D} {f : Ev} {ρ : Tl.Env} {S : Store} {P : D → Store → Prop} (h : Does (f ρ) S fun d S1 => Does (o [d]) S1 P) : Does (mCl o (lCons f lNil) ρ) S P := by
  unfold mCl
  rw [does_bind, does_cons]
  refine h.imp fun d S1 h1 => ?_
  exact Does.of (v_nil (ρ := [])) h1
theorem does_tup1 {f : Ev} {ρ : Tl.Env} {S : Store} {P : D → Store → Prop} (h : Does (f ρ) S fun d S1 => ∃ ds, d = .lst ds ∧ P (.tup ds) S1) : Does (mCl tupleD (lCons f lNil) ρ) S P := by
  refine does_cl1 (h.imp fun d S1 ⟨ds, e, p⟩ => ?_)
  subst e
  exact Does.of tuple_l p
theorem pick_call' {pk : Fnd} (hs : IsPick pk) {c n : Nat} {e : Ev} {ρ : Tl.Env} {S : Store} {P : D → Store → Prop} (hb : Bag c S) (hc : c < LIM) (h0 : ρ[0]? = some (some (.ref 1))) (he : Vl (e ρ) S (.int n)) (hl : 0 < n) (hl2 : n < 1000000)
    (hp : ∀ (i : Nat) S', i < n → Bag (c + 1) S' → Kp [0, 1] S S' → S'.length = S.length → P (.int i) S') : Does (mCall pk 2 (lCons (mVar 0) (lCons e lNil)) ρ) S P := by
  rw [does_call]
  refine Does.of (v_cons (v_var h0) (v_cons he v_nil)) ?_
  rw [if_pos (show [D.ref 1, D.int n].length = 2 from rfl)]
  refine (hs c n S hb hc (by omega) (by omega)).imp fun v S' ⟨⟨i, e1, i0, i1⟩, b, k, l⟩ => ?_
  subst e1
  obtain ⟨j, rfl⟩ : ∃ j : Nat, i = j := ⟨i.toNat, by omega⟩
  exact hp j S' (by omega) b k l
/-! ### tight trees -/
def TG : Nat → D → Prop
  | 0, d => d = .tup []
  | l + 1, d => ∃ qs, d = .tup qs ∧ qs.length ≤ 2 ∧ ∀ q ∈ qs, ∃ as, q = .tup as ∧ 1 ≤ as.length ∧ as.length ≤ 3 ∧ ∀ a ∈ as, ∃ x y n, a = .tup [x, y, n] ∧ TG l n
def QG (l : Nat) (q : D) : Prop := ∃ as, q = .tup as ∧ 1 ≤ as.length ∧ as.length ≤ 3 ∧ ∀ a ∈ as, ∃ x y n, a = .tup [x, y, n] ∧ TG l n
theorem gn_tg {w : Nat} : ∀ (l e : Nat) (ah : List (Int × Int)) (d : D), GN w l e ah d → TG l d
  | 0, _, _, _, h => h
  | l + 1, e, ah, d, h => by
    obtain ⟨qs, rfl, hl, hq⟩ := h
    refine ⟨qs, rfl, hl, fun q hm => ?_⟩
    obtain ⟨as, rfl, h1, h3, ha, _⟩ := (hq q hm).ex
    refine ⟨as.map ansD, rfl, by rw [List.length_map]; exact h1, by rw [List.length_map]; exact h3, fun a hm => ?_⟩
    obtain ⟨i, hi, e2⟩ := List.getElem_of_mem hm
    have hi2 : i < as.length := by simpa using hi
    have e3 : a = ansD as[i] := by rw [← e2]; simp
    subst e3
    exact ⟨_, _, _, rfl, gn_tg l _ _ _ (ha i as[i] (List.getElem?_eq_getElem hi2)).nd⟩
theorem tg_ts : ∀ (l : Nat) (d : D), TG l d → TS l d
  | 0, _, h => h
  | l + 1, d, h => by
    obtain ⟨qs, rfl, hl, hq⟩ := h
    refine ⟨qs, rfl, by omega, fun q hm => ?_⟩
    obtain ⟨as, rfl, _, h3, ha⟩ := hq q hm
    refine ⟨as, rfl, by omega, fun a hm => ?_⟩
    obtain ⟨x, y, n, rfl, hn⟩ := ha a hm
    exact ⟨x, y, n, rfl, tg_ts l n hn⟩
theorem qg_qs {l : Nat} {q : D} (h : QG l q) : QS l q := by
  obtain ⟨as, rfl, _, h3, ha⟩ := h
  refine ⟨as, rfl, by omega, fun a hm => ?_⟩
  obtain ⟨x, y, n, rfl, hn⟩ := ha a hm
  exact ⟨x, y, n, rfl, tg_ts l n hn⟩
theorem tg_tup {l : Nat} {d : D} (h : TG l d) : ∃ qs, d = .tup qs ∧ qs.length ≤ 2 := by
  cases l with
  | zero => exact ⟨[], h, by simp⟩
  | succ l => obtain ⟨qs, h1, h2, _⟩ := h; exact ⟨qs, h1, h2⟩
theorem zip_all_of {ds es : List D} (hl : es.length = ds.length) (g : D → D → Bool) (h : ∀ (i : Nat) (a b : D), ds[i]? = some a → es[i]? = some b → g a b = true) : ((zipT ds es).all fun p => g (at_ 0 p) (at_ 1 p)) = true := by
  rw [List.all_eq_true]
  intro p hp
  obtain ⟨i, hi, e⟩ := List.getElem_of_mem hp
  unfold zipT at e hi
  have hi2 : i < ds.length := by simp at hi; omega
  have hi3 : i < es.length := by omega
  rw [List.getElem_map, List.getElem_zip] at e
  subst e
  exact h i _ _ (List.getElem?_eq_getElem hi2) (List.getElem?_eq_getElem hi3)
theorem moveB_ask {k m : Nat} {ns bs acc : List D} {q : D} (hy : ns[m]? = some (.tup bs)) (hal : acc.length = bs.length) (hz : ((zipT bs acc).all fun p => moveB k (at_ 2 (at_ 0 p)) q (at_ 1 p)) = true) : moveB (k + 1) (.tup ns) q (.tup [.str "ask", .int m, .tup acc]) = true := by
  have hm := (List.getElem?_eq_some_iff.mp hy).1
  have wi : within 0 ((ns.length : Int) - 1) (.int m) = true := by
    unfold within
    simp
    omega
  rw [moveB_s]
  show (if ("ask" : Str) = "tell" then within 0 ((items q).length - 1) (.int m) && waitB k (.tup ns) (at_ 2 (nth q (.int m))) (.tup acc)
    else (decide (("ask" : Str) = "ask") && within 0 ((ns.length : Int) - 1) (.int m)) && ((true && (acc.length == (items (nth (.tup ns) (.int m))).length)) && (zipT (items (nth (.tup ns) (.int m))) acc).all fun p => moveB k (at_ 2 (at_ 0 p)) q (at_ 1 p))) = true
  rw [if_neg ask_ne, nth_get hy, wi, show items (.tup bs) = bs from rfl, hz, hal]
  simp
theorem moveB_tell {k m : Nat} {as : List D} {n u v nn w : D} (hy : as[m]? = some (.tup [u, v, nn])) (hw : waitB k n nn w = true) : moveB (k + 1) n (.tup as) (.tup [.str "tell", .int m, w]) = true := by
  have hm := (List.getElem?_eq_some_iff.mp hy).1
  have wi : within 0 ((as.length : Int) - 1) (.int m) = true := by
    unfold within
    simp
    omega
  rw [moveB_s]
  show (if ("tell" : Str) = "tell" then within 0 ((as.length : Int) - 1) (.int m) && waitB k n (at_ 2 (nth (.tup as) (.int m))) w
    else (decide (("tell" : Str) = "ask") && within 0 ((items n).length - 1) (.int m)) && ((isT w && ((items w).length == (items (nth n (.int m))).length)) && (zipT (items (nth n (.int m))) (items w)).all fun p => moveB k (at_ 2 (at_ 0 p)) (.tup as) (at_ 1 p))) = true
  rw [if_pos rfl, nth_get hy, wi, show at_ 2 (.tup [u, v, nn]) = nn from rfl, hw]
  rfl
/-! ### plans drawn -/
def IsLWait (k : Nat) (f : Fnd) : Prop := ∀ (c i j : Nat) n g t (x : Int) S, Bag c S → c + 100 ^ k ≤ LIM → Lv t x S → 2 ≤ t → TG i n → TG j g → 1 + j * (i + 2) ≤ k → Does (f [.ref 1, n, g, .ref t]) S fun v S' => waitB k n g v = true ∧ Bag (c + 100 ^ k) S' ∧ Kp [0, 1, t] S S' ∧ ∃ x', Lv t x' S'
def IsLMove (k : Nat) (f : Fnd) : Prop := ∀ (c i j : Nat) n q t (x : Int) S, Bag c S → c + 100 ^ k ≤ LIM → Lv t x S → 2 ≤ t → TG i n → QG j q → 2 + i + j * (i + 2) ≤ k → Does (f [.ref 1, n, q, .ref t]) S fun v S' => moveB k n q v = true ∧ Bag (c + 100 ^ k) S' ∧ Kp [0, 1, t] S S' ∧ ∃ x', Lv t x' S'
theorem pow_s (k : Nat) : 100 ^ (k + 1) = 100 * 100 ^ k := by rw [Nat.pow_succ, Nat.mul_comm]
theorem pow_1 (k : Nat) : 1 ≤ 100 ^ k := Nat.one_le_pow _ _ (by decide)
theorem mul_in {i m k : Nat} (h : i < m) (hm : m ≤ 3) : (i + 1) * 100 ^ k = i * 100 ^ k + 100 ^ k ∧ (i + 1) * 100 ^ k ≤ 3 * 100 ^ k := ⟨Nat.succ_mul _ _, Nat.mul_le_mul_right _ (by omega)⟩
theorem l_wait_ok {k : Nat} {p : Fnd} (hp : IsLMove k p) : IsLWait (k + 1) (B_l_wait p) := by
  intro c i j n g t x S hb hc hf ht hn hg hk
  obtain ⟨qs, rfl, hql⟩ := tg_tup hg
  have e100 := pow_s k
  have e1 := pow_1 k
  unfold B_l_wait
  rw [does_body]
  simp only [startD, List.map_cons, List.map_nil, List.length_cons, List.length_nil, List.replicate, List.cons_append, List.nil_append, Nat.reduceAdd, Nat.reduceSub]
  rw [do_ret]
  refine does_tup1 (does_lc (Does.of (v_itT v_var) ⟨_, fun m acc S' => Bag (c + m * 100 ^ k) S' ∧ Kp [0, 1, t] S S' ∧ (∃ x', Lv t x' S') ∧ acc.length = m ∧ ∀ (i : Nat) (a b : D), qs[i]? = some a → acc[i]? = some b → moveB k n a b = true,
    ⟨by simpa using hb, Kp.refl, ⟨x, hf⟩, rfl, fun i a b _ h => by simp at h⟩, fun _ _ _ _ => reads_d, ?_, ?_⟩))
  · rintro m d acc S1 hd ⟨b1, k1, ⟨x1, f1⟩, hal, ham⟩
    have hm := (List.getElem?_eq_some_iff.mp hd).1
    obtain ⟨u1, u2⟩ := mul_in (k := k) hm (by omega)
    refine Does.of v_nm (Does.of (show Vl (mYes _) S1 (.bl true) from rfl) ?_)
    dsimp only
    cases j with
    | zero => cases (show D.tup qs = .tup [] from hg); simp at hd
    | succ j =>
      obtain ⟨qs', e2, _, hqs⟩ := hg
      cases e2
      refine call_ok (ds := [.ref 1, n, d, .ref t]) (v_cons v_var (v_cons v_var (v_cons v_var (v_cons v_var v_nil)))) ((hp (c + m * 100 ^ k) i j n d t x1 S1 b1 (by omega) f1 ht hn (hqs d (List.mem_of_getElem? hd)) (fuel_w hk (by omega))).imp fun v S2 ⟨hv, b2, k2, f2⟩ => ?_)
      refine ⟨by omega, by rw [u1]; exact b2.mono (by omega), k1.trans k2, f2, by simp [hal], fun i a b ha hb => ?_⟩
      by_cases hi : i < acc.length
      · rw [List.getElem?_append_left hi] at hb
        exact ham i a b ha hb
      · have hi2 : i = acc.length := by
          have := (List.getElem?_eq_some_iff.mp hb).1
          simp at this; omega
        subst hi2
        rw [List.getElem?_append_right (Nat.le_refl _)] at hb
        simp at hb
        subst hb
        rw [hal] at ha
        rw [hd] at ha
        cases ha
        exact hv
  · rintro acc S1 ⟨b1, k1, f1, hal, ham⟩
    have hle : qs.length * 100 ^ k ≤ 2 * 100 ^ k := Nat.mul_le_mul_right _ hql
    refine ⟨acc, rfl, ?_, b1.mono (by omega), k1, f1⟩
    rw [waitB_s]
    simp only [items, isT, hal, Bool.true_and, beq_self_eq_true]
    exact zip_all_of hal _ ham
theorem l_move_ok {k : Nat} {p1 p2 p3 : Fnd} (h1 : IsPick p1) (h2 : IsLWait k p2) (h3 : IsLMove k p3) : IsLMove (k + 1) (B_l_move p1 p2 p3) := by
  intro c i j n q t x S hb hc hf ht hn hq hk
  obtain ⟨ns, rfl, hnl⟩ := tg_tup hn
  obtain ⟨as, rfl, ha1, ha3, has⟩ := id hq
  have e100 := pow_s k
  have e1 := pow_1 k
  unfold B_l_move
  rw [does_body]
  simp only [startD, List.map_cons, List.map_nil, List.length_cons, List.length_nil, List.replicate, List.cons_append, List.nil_append, Nat.reduceAdd, Nat.reduceSub]
  rw [do_seq]
  refine does_augS (p := t) (b := 1) v_var (fun _ => v_c) (Does.of v_c ?_)
  refine ⟨0, _, x, rfl, by decide, hf, rfl, ?_⟩
  have t1 : t < S.length := (List.getElem?_eq_some_iff.mp hf).1
  have f2 : Lv t (x - 1) (S.set t (SO.lst (([D.int x] : List D).set 0 (.int (x - 1))))) := set_get t1
  have b2 := hb.keep (Kp.set (xs := [t]) (i := t) (o := SO.lst (([D.int x] : List D).set 0 (.int (x - 1)))) (by simp)) (by simp; omega) (by simp; omega)
  have k2 : Kp [0, 1, t] S (S.set t (SO.lst (([D.int x] : List D).set 0 (.int (x - 1))))) := Kp.set (by simp)
  generalize S.set t (SO.lst (([D.int x] : List D).set 0 (.int (x - 1)))) = S2 at *
  dsimp only
  rw [do_seq]
  -- telling
  have tell : ∀ (S3 : Store) (y4 : Option D) (c3 : Nat), Bag c3 S3 → c3 ≤ c + 1 → Kp [0, 1, t] S S3 → Lv t (x - 1) S3 → DoS (sSeq (sAsg (mCall p1 2 (lCons (mVar 0) (lCons (mCl lenD (lCons (mVar 2) lNil)) lNil))) (gNm 5))
      (sRet (mTup (lCons (mC (.str "tell")) (lCons (mVar 5) (lCons (mCall p2 4 (lCons (mVar 0) (lCons (mVar 1) (lCons (mOp idxD (mOp idxD (mVar 2) (mVar 5)) (mC (.int 2))) (lCons (mVar 3) lNil))))) lNil))))))
      [some (.ref 1), some (.tup ns), some (.tup as), some (.ref t), none, none, none, none, none] S3 fun r S' => match r with
        | .nx _ => False
        | .rt d => moveB (k + 1) (.tup ns) (.tup as) d = true ∧ Bag (c + 100 ^ (k + 1)) S' ∧ Kp [0, 1, t] S S' ∧ ∃ x', Lv t x' S'
        | _ => False := fun S3 _ c3 b3 hc3 k3 f3 => by
    rw [do_seq, do_asg]
    refine pick_call' h1 b3 (by omega) rfl (v_len v_var) (by omega) (by omega) fun m S4 hm b4 k4 _ => Does.of v_nm ?_
    simp only [List.set_cons_zero, List.set_cons_succ]
    have hy : as[m]? = some as[m] := List.getElem?_eq_getElem hm
    obtain ⟨u, v, nn, eu, hnn⟩ := has as[m] (List.getElem_mem hm)
    rw [do_ret]
    unfold mTup
    rw [does_bind, does_cons]
    refine Does.of v_c ?_
    rw [does_cons]
    refine Does.of v_var ?_
    rw [does_cons]
    refine call_ok (ds := [.ref 1, .tup ns, nn, .ref t]) (v_cons v_var (v_cons v_var (v_cons (v_idx (v_op (x := .tup as) (y := .int (m : Int)) (z := .tup [u, v, nn]) v_var v_var (by rw [← eu]; exact idx_v hy)) v_c rfl) (v_cons v_var v_nil)))) ?_
    refine (h2 (c3 + 1) i j (.tup ns) nn t (x - 1) S4 b4 (by omega) (k4.get f3 (not01 ht)) ht hn hnn (fuel_t hk)).imp fun w S5 ⟨hw, b5, k5, f5⟩ => ?_
    refine Does.of (v_nil (ρ := [])) ?_
    rw [if_pos (by simp), does_ret]
    refine ⟨?_, b5.mono (by omega), (k3.trans (k4.more (by simp))).trans k5, f5⟩
    exact moveB_tell (by rw [← eu]; exact hy) hw
  refine do_ifB (does_and (does_B (Does.of (v_op (v_len v_var) v_c v_ord) ⟨_, rfl, ⟨_, rfl, fun z => ?_, fun z => ?_⟩⟩)))
  · have hn0 : 0 < ns.length := by simpa using z
    refine does_and (does_B (does_op.mpr (does_op.mpr (Does.of v_var (Does.of v_c (does_ixr f2 (does_at0 (Does.of v_c (Does.of v_ord ⟨_, rfl, ⟨_, rfl, fun z2 => ?_, fun z2 => ?_⟩⟩))))))))) 
    · refine does_B (does_op.mpr (pick_call' h1 (n := 3) b2 (by omega) rfl v_c (by decide) (by decide) fun m S3 hm b3 k3 _ => Does.of v_c (Does.of v_ord ⟨_, rfl, ⟨_, rfl, fun z3 => ?_, fun z3 => ?_⟩⟩)))
      · have f3 : Lv t (x - 1) S3 := k3.get f2 (not01 ht)
        rw [do_seq, do_asg]
        refine pick_call' h1 b3 (by omega) rfl (v_len v_var) hn0 (by omega) fun m S4 hm b4 k4 _ => Does.of v_nm ?_
        simp only [List.set_cons_zero, List.set_cons_succ]
        have f4 : Lv t (x - 1) S4 := k4.get f3 (not01 ht)
        have hy : ns[m]? = some ns[m] := List.getElem?_eq_getElem hm
        cases i with
        | zero => cases (show D.tup ns = .tup [] from hn); simp at hn0
        | succ i =>
          obtain ⟨ns', e2, _, hns⟩ := id hn
          cases e2
          obtain ⟨bs, eb, hb1, hb3, hbs⟩ := hns ns[m] (List.getElem_mem hm)
          rw [do_ret]
          unfold mTup
          rw [does_bind, does_cons]
          refine Does.of v_c ?_
          rw [does_cons]
          refine Does.of v_var ?_
          rw [does_cons]
          refine does_tup1 (does_lc (Does.of (v_itT (v_op (x := .tup ns) (y := .int (m : Int)) (z := .tup bs) v_var v_var (by rw [← eb]; exact idx_v hy))) ⟨_, fun l acc S' => Bag (c + 2 + l * 100 ^ k) S' ∧ Kp [0, 1, t] S S' ∧ (∃ x', Lv t x' S') ∧ acc.length = l ∧ ∀ (i : Nat) (a b : D), bs[i]? = some a → acc[i]? = some b → moveB k (at_ 2 a) (.tup as) b = true,
            ⟨(by simpa using b4.mono (by omega)), (k2.trans (k3.more (by simp))).trans (k4.more (by simp)), ⟨_, f4⟩, rfl, fun i a b _ h => by simp at h⟩, fun _ _ _ _ => reads_d, ?_, ?_⟩))
          · rintro l d acc S5 hd ⟨b5, k5, ⟨x5, f5⟩, hal, ham⟩
            have hl := (List.getElem?_eq_some_iff.mp hd).1
            obtain ⟨u1, u2⟩ := mul_in (k := k) hl (by omega)
            obtain ⟨u, v, nn, rfl, hnn⟩ := hbs d (List.mem_of_getElem? hd)
            refine Does.of v_g3 (Does.of (show Vl (mYes _) S5 (.bl true) from rfl) ?_)
            dsimp only
            refine call_ok (ds := [.ref 1, nn, .tup as, .ref t]) (v_cons v_var (v_cons v_var (v_cons v_var (v_cons v_var v_nil)))) ((h3 (c + 2 + l * 100 ^ k) i j nn (.tup as) t x5 S5 b5 (by omega) f5 ht hnn hq (fuel_a hk (by omega))).imp fun w S6 ⟨hw, b6, k6, f6⟩ => ?_)
            refine ⟨by omega, by rw [u1]; exact b6.mono (by omega), k5.trans k6, f6, by simp [hal], fun i a b ha hb => ?_⟩
            by_cases hi : i < acc.length
            · rw [List.getElem?_append_left hi] at hb
              exact ham i a b ha hb
            · have hi2 : i = acc.length := by
                have := (List.getElem?_eq_some_iff.mp hb).1
                simp at this; omega
              subst hi2
              rw [List.getElem?_append_right (Nat.le_refl _)] at hb
              simp at hb
              subst hb
              rw [hal, hd] at ha
              cases ha
              exact hw
          · rintro acc S5 ⟨b5, k5, f5, hal, ham⟩
            have hle : bs.length * 100 ^ k ≤ 3 * 100 ^ k := Nat.mul_le_mul_right _ hb3
            refine ⟨acc, rfl, Does.of (v_nil (ρ := [])) ?_⟩
            rw [if_pos (by simp), does_ret]
            refine ⟨?_, b5.mono (by omega), k5, f5⟩
            exact moveB_ask (by rw [← eb]; exact hy) hal (zip_all_of hal (fun a b => moveB k (at_ 2 a) (.tup as) b) ham)
      · rw [do_skip]
        exact (tell S3 none (c + 1) b3 (by omega) (k2.trans (k3.more (by simp))) (k3.get f2 (not01 ht))).imp fun r S' h => by cases r <;> first | exact h.elim | exact h
    · refine ⟨false, rfl, fun h => (nomatch h), fun _ => ?_⟩
      rw [do_skip]
      exact (tell S2 none c b2 (by omega) k2 f2).imp fun r S' h => by cases r <;> first | exact h.elim | exact h
  · refine ⟨false, rfl, fun h => (nomatch h), fun _ => ?_⟩
    rw [do_skip]
    exact (tell S2 none c b2 (by omega) k2 f2).imp fun r S' h => by cases r <;> first | exact h.elim | exact h
end Lw
set_option Elab.async false
set_option linter.all false
set_option maxRecDepth 100000
set_option maxHeartbeats 4000000
set_option autoImplicit false
namespace Lw
open PySem L2 Tl

/-! ### right plans, taken apart -/
theorem zip_all_get {ds es : List D} {g : D → D → Bool} (hz : ((zipT ds es).all fun p => g (at_ 0 p) (at_ 1 p)) = true) {i : Nat} {a b : D} (ha : ds[i]? = some a) (hb : es[i]? = some b) : g a b = true := by
  rw [List.all_eq_true] at hz
  have hi := (List.getElem?_eq_some_iff.mp ha).1
  have hj := (List.getElem?_eq_some_iff.mp hb).1
  refine hz (.tup [a, b]) ?_
  unfold zipT
  rw [List.mem_map]
  refine ⟨(a, b), ?_, rfl⟩
  have hk : i < (ds.zip es).length := by rw [List.length_zip]; omega
  have e : (ds.zip es)[i] = (a, b) := by
    rw [List.getElem_zip, (List.getElem?_eq_some_iff.mp ha).2, (List.getElem?_eq_some_iff.mp hb).2]
  rw [← e]
  exact List.getElem_mem hk
theorem waitB_inv {k : Nat} {n t : D} {qs : List D} (h : waitB (k + 1) n (.tup qs) t = true) : ∃ ms, t = .tup ms ∧ ms.length = qs.length ∧ ∀ (i : Nat) (a b : D), qs[i]? = some a → ms[i]? = some b → moveB k n a b = true := by
  rw [waitB_s] at h
  simp only [Bool.and_eq_true] at h
  obtain ⟨⟨h1, h2⟩, h3⟩ := h
  obtain ⟨ms, rfl⟩ := isT_of h1
  refine ⟨ms, rfl, beq_iff_eq.mp h2, fun i a b ha hb => zip_all_get h3 ha hb⟩
theorem moveB_inv {k : Nat} {t : D} {ns as : List D} (h : moveB (k + 1) (.tup ns) (.tup as) t = true) :
    (∃ (m : Nat) (a w : D), t = .tup [.str "tell", .int m, w] ∧ as[m]? = some a ∧ waitB k (.tup ns) (at_ 2 a) w = true) ∨
    ∃ (m : Nat) (b : D) (ms : List D), t = .tup [.str "ask", .int m, .tup ms] ∧ ns[m]? = some b ∧ ms.length = (items b).length ∧ ∀ (i : Nat) (x y : D), (items b)[i]? = some x → ms[i]? = some y → moveB k (at_ 2 x) (.tup as) y = true := by
  rw [moveB_s] at h
  rw [Bool.and_eq_true, Bool.and_eq_true] at h
  obtain ⟨⟨h1, h2⟩, h3⟩ := h
  obtain ⟨ds, rfl, hl⟩ := lenIs_of h1
  obtain ⟨a, b, c, rfl⟩ := len3 hl
  obtain ⟨x, rfl⟩ := isS_of (d := a) h2
  have h8 : (if x = "tell" then within 0 ((as.length : Int) - 1) b && waitB k (.tup ns) (at_ 2 (nth (.tup as) b)) c
      else (decide (x = "ask") && within 0 ((ns.length : Int) - 1) b) && ((isT c && ((items c).length == (items (nth (.tup ns) b)).length)) && (zipT (items (nth (.tup ns) b)) (items c)).all fun p => moveB k (at_ 2 (at_ 0 p)) (.tup as) (at_ 1 p))) = true := h3
  clear h3
  by_cases hx : x = "tell"
  · rw [if_pos hx] at h8
    rw [Bool.and_eq_true] at h8
    obtain ⟨m, y, rfl, hy, e, _⟩ := nth_ok h8.1 []
    rw [e] at h8
    subst hx
    exact .inl ⟨m, y, c, rfl, hy, h8.2⟩
  · rw [if_neg hx] at h8
    simp only [Bool.and_eq_true, decide_eq_true_eq] at h8
    obtain ⟨⟨rfl, h4⟩, ⟨h5, h6⟩, h7⟩ := h8
    obtain ⟨m, y, rfl, hy, e, _⟩ := nth_ok h4 []
    rw [e] at h6 h7
    obtain ⟨ms, rfl⟩ := isT_of h5
    exact .inr ⟨m, y, ms, rfl, hy, beq_iff_eq.mp h6, fun i u v hu hv => zip_all_get (g := fun u v => moveB k (at_ 2 u) (.tup as) v) h7 hu hv⟩
/-! ### their size -/
structure Sml (d s : Nat) (t : D) : Prop where
  fg : FG 90 5 t
  dp : dep t ≤ d
  sz : sz t ≤ s
theorem fg_tell : FG 90 5 (.str ("tell" : Str)) := ⟨by decide +kernel, cl_tell⟩
theorem fg_ask : FG 90 5 (.str ("ask" : Str)) := ⟨by decide +kernel, cl_ask⟩
theorem four (n : Nat) : 4 ^ (n + 1) = 4 * 4 ^ n := by rw [Nat.pow_succ, Nat.mul_comm]
theorem four1 (n : Nat) : 1 ≤ 4 ^ n := Nat.one_le_pow _ _ (by decide)
theorem sml_tup {ds : List D} {d s m : Nat} (hl : ds.length ≤ m) (hm : m ≤ 5) (h : ∀ x ∈ ds, Sml d s x) : Sml (d + 1) (1 + m * s) (.tup ds) := by
  refine ⟨fg_tup.mpr ⟨by omega, fun x hx => (h x hx).fg⟩, ?_, ?_⟩
  · have := deps_le fun x hx => (h x hx).dp
    unfold dep; omega
  · have := szs_le fun x hx => (h x hx).sz
    have h2 : ds.length * s ≤ m * s := Nat.mul_le_mul_right _ hl
    unfold sz; omega
theorem sml_3 {x : Str} {m d s : Nat} {w : D} (hx : FG 90 5 (.str x)) (hm : m ≤ 20) (hw : Sml d s w) : Sml (d + 1) (3 + s) (.tup [.str x, .int m, w]) := by
  refine ⟨fg_tup.mpr ⟨by simp, fun y hy => ?_⟩, ?_, ?_⟩
  · simp only [List.mem_cons, List.not_mem_nil, or_false] at hy
    rcases hy with rfl | rfl | rfl
    · exact hx
    · show (m : Int).natAbs < 2 ^ 90
      omega
    · exact hw.fg
  · have := hw.dp
    simp only [dep, deps]; omega
  · have := hw.sz
    simp only [sz, szs]; omega
theorem plan_sml : ∀ (k i j : Nat) (n : D), TG i n → (∀ g t, TG j g → waitB k n g t = true → Sml (2 * i + 2 * j + 1) (3 * 4 ^ (i + j + 1)) t) ∧ (∀ q t, QG j q → moveB k n q t = true → Sml (2 * i + 2 * j + 2) (4 ^ (i + j + 2)) t)
  | 0, i, j, n, hn => ⟨fun g t _ h => by simp [waitB] at h, fun q t _ h => by simp [moveB] at h⟩
  | k + 1, i, j, n, hn => by
    have f1 := four1 (i + j)
    have e1 := four (i + j)
    have e2 : 4 ^ (i + j + 2) = 4 * 4 ^ (i + j + 1) := four (i + j + 1)
    refine ⟨fun g t hg h => ?_, fun q t hq h => ?_⟩
    · obtain ⟨qs, rfl, hql⟩ := tg_tup hg
      obtain ⟨ms, rfl, hl, hm⟩ := waitB_inv h
      cases j with
      | zero =>
        cases (show D.tup qs = .tup [] from hg)
        have : ms = [] := List.length_eq_zero_iff.mp hl
        subst this
        refine ⟨fg_tup.mpr ⟨by simp, by simp⟩, ?_, ?_⟩
        · simp only [dep, deps]; omega
        · simp only [sz, szs]; omega
      | succ j =>
        obtain ⟨qs', e, _, hqs⟩ := hg
        cases e
        have := sml_tup (m := 2) (d := 2 * i + 2 * j + 2) (s := 4 ^ (i + j + 2)) (ds := ms) (by omega) (by decide) fun x hx => by
          obtain ⟨u, hu, e⟩ := List.getElem_of_mem hx
          have hu2 : u < qs.length := by omega
          exact (plan_sml k i j n hn).2 qs[u] x (hqs _ (List.getElem_mem hu2)) (hm u _ _ (List.getElem?_eq_getElem hu2) (by rw [← e]; exact List.getElem?_eq_getElem hu))
        have e3 : i + (j + 1) + 1 = i + j + 2 := by omega
        have f2 := four1 (i + j + 2)
        refine ⟨this.fg, by have := this.dp; omega, ?_⟩
        have := this.sz
        rw [e3]; omega
    · obtain ⟨as, rfl, ha1, ha3, has⟩ := id hq
      obtain ⟨ns, rfl, hnl⟩ := tg_tup hn
      rcases moveB_inv h with ⟨m, a, w, rfl, hm, hw⟩ | ⟨m, b, ms, rfl, hm, hl, hms⟩
      · have hml := (List.getElem?_eq_some_iff.mp hm).1
        obtain ⟨u, v, nn, rfl, hnn⟩ := has a (List.mem_of_getElem? hm)
        have h2 := sml_3 fg_tell (m := m) (by omega) ((plan_sml k i j (.tup ns) hn).1 nn w hnn hw)
        exact ⟨h2.fg, by have := h2.dp; omega, by have := h2.sz; omega⟩
      · have hml := (List.getElem?_eq_some_iff.mp hm).1
        cases i with
        | zero => cases (show D.tup ns = .tup [] from hn); simp at hm
        | succ i =>
          obtain ⟨ns', e, _, hns⟩ := id hn
          cases e
          obtain ⟨bs, rfl, hb1, hb3, hbs⟩ := hns b (List.mem_of_getElem? hm)
          have hl : ms.length = bs.length := hl
          have s1 := sml_tup (m := 3) (d := 2 * i + 2 * j + 2) (s := 4 ^ (i + j + 2)) (ds := ms) (by omega) (by decide) fun x hx => by
            obtain ⟨u, hu, e⟩ := List.getElem_of_mem hx
            have hu2 : u < bs.length := by omega
            obtain ⟨y, z, nn, e4, hnn⟩ := hbs bs[u] (List.getElem_mem hu2)
            have := hms u bs[u] x (List.getElem?_eq_getElem hu2) (by rw [← e]; exact List.getElem?_eq_getElem hu)
            rw [e4] at this
            exact (plan_sml k i j nn hnn).2 (.tup as) x hq this
          have h2 := sml_3 fg_ask (m := m) (by omega) s1
          have e3 : i + 1 + j + 2 = (i + j + 2) + 1 := by omega
          have e5 : 4 ^ (i + j + 2 + 1) = 4 * 4 ^ (i + j + 2) := four (i + j + 2)
          have f2 := four1 (i + j + 1)
          have e6 : 4 ^ (i + j + 2) = 4 * 4 ^ (i + j + 1) := four (i + j + 1)
          refine ⟨h2.fg, by have := h2.dp; omega, ?_⟩
          have := h2.sz
          rw [e3]; omega
end Lw
set_option Elab.async false
set_option linter.all false
set_option maxRecDepth 100000
set_option maxHeartbeats 4000000
set_option autoImplicit false
namespace Lw
open PySem L2 Tl

/-! ### right plans with one thing at a bound -/
theorem do_ifRB {c f : Ev} {rest : Sm} {ρ : Tl.Env} {S : Store} {P : Fl → Store → Prop} (h : Does (c ρ) S fun d S1 => ∃ b, d = .bl b ∧ (b = true → Does (f ρ) S1 fun d S2 => P (.rt d) S2) ∧ (b = false → DoS rest ρ S1 P)) : DoS (sSeq (sIf c (sRet f) sSkip) rest) ρ S P := by
  rw [do_seq]
  refine do_ifB (h.imp fun d S1 ⟨b, e, h1, h2⟩ => ⟨b, e, fun z => ?_, fun z => ?_⟩)
  · rw [do_ret]; exact h1 z
  · rw [do_skip]; exact h2 z
theorem fgT {ds : List D} (hl : ds.length ≤ 6) (h : ∀ d ∈ ds, FG 98 6 d) : FG 98 6 (.tup ds) := fg_tup.mpr ⟨hl, h⟩
theorem fg3 {a b c : D} (ha : FG 98 6 a) (hb : FG 98 6 b) (hc : FG 98 6 c) : FG 98 6 (.tup [a, b, c]) := fgT (by simp) fun d hd => by
  simp only [List.mem_cons, List.not_mem_nil, or_false] at hd
  rcases hd with rfl | rfl | rfl
  · exact ha
  · exact hb
  · exact hc
theorem fg2 {a b : D} (ha : FG 98 6 a) (hb : FG 98 6 b) : FG 98 6 (.tup [a, b]) := fgT (by simp) fun d hd => by
  simp only [List.mem_cons, List.not_mem_nil, or_false] at hd
  rcases hd with rfl | rfl
  · exact ha
  · exact hb
theorem fg1 {a : D} (ha : FG 98 6 a) : FG 98 6 (.tup [a]) := fgT (by simp) fun d hd => by
  simp only [List.mem_cons, List.not_mem_nil, or_false] at hd
  rw [hd]; exact ha
theorem fg0 : FG 98 6 (.tup []) := fgT (by simp) fun d hd => by simp at hd
theorem fgN {m : Int} (h : m.natAbs ≤ 1000) : FG 98 6 (.int m) := by
  show m.natAbs < 2 ^ 98
  omega
theorem fg_up {d : D} (h : FG 90 5 d) : FG 98 6 d := h.mono (by decide) (by decide)
def tellW : Str := "tell"
def IsEdge (k : Nat) (f : Fnd) : Prop := ∀ (c i j : Nat) n g t S, Bag c S → c + 100 ^ k ≤ LIM → TG i n → TG j g → waitB k n g t = true → Does (f [.ref 1, n, g, t]) S fun v S' => FG 98 6 v ∧ Bag (c + 100 ^ k) S' ∧ Kp [0, 1] S S'
def IsMEdge (k : Nat) (f : Fnd) : Prop := ∀ (c i j : Nat) n q t S, Bag c S → c + 100 ^ k ≤ LIM → TG i n → QG j q → moveB k n q t = true → Does (f [.ref 1, n, q, t]) S fun v S' => FG 98 6 v ∧ Bag (c + 100 ^ k) S' ∧ Kp [0, 1] S S'
theorem some_fin {sm : Fnd} (hs : IsSome sm) {c c' : Nat} {ds : List D} {e : Ev} {ρ : Tl.Env} {S S0 : Store} (hb : Bag c S) (hc : c < LIM) (hc' : c + 1 ≤ c') (h0 : ρ[0]? = some (some (.ref 1))) (he : Vl (e ρ) S (.lst ds)) (hl : 0 < ds.length) (hl2 : ds.length < 1000000) (hk : Kp [0, 1] S0 S) (hf : ∀ d ∈ ds, FG 98 6 d) :
    Does (mCall sm 2 (lCons (mVar 0) (lCons e lNil)) ρ) S fun v S' => FG 98 6 v ∧ Bag c' S' ∧ Kp [0, 1] S0 S' :=
  some_call hs hb hc h0 he hl hl2 fun v S1 hv b1 k1 => ⟨hf v hv, b1.mono hc', hk.trans k1⟩
theorem put_one {ds : List D} {m : Nat} {x : D} (hl : ds.length ≤ 5) (hm : m < ds.length) (hf : ∀ d ∈ ds, FG 98 6 d) (hx : FG 98 6 x) : FG 98 6 (.tup ((cutL ds none (some (m : Int)) ++ [x]) ++ cutL ds (some ((m + 1 : Nat) : Int)) none)) := by
  rw [cutL_hi, cutL_lo]
  refine fgT (by simp; omega) fun d hd => ?_
  rcases List.mem_append.mp hd with hd | hd
  · rcases List.mem_append.mp hd with hd | hd
    · exact hf d (List.mem_of_mem_take hd)
    · rw [List.mem_singleton.mp hd]; exact hx
  · exact hf d (List.mem_of_mem_drop hd)
theorem l_edge_ok {k : Nat} {p1 p2 p3 : Fnd} (h1 : IsPick p1) (h2 : IsSome p2) (h3 : IsMEdge k p3) : IsEdge (k + 1) (B_l_edge p1 p2 p3) := by
  intro c i j n g t S hb hc hn hg hw
  obtain ⟨qs, rfl, hql⟩ := tg_tup hg
  have sm := (plan_sml (k + 1) i j n hn).1 _ t hg hw
  obtain ⟨ms, rfl, hl, hm⟩ := waitB_inv hw
  have hms : ∀ d ∈ ms, FG 98 6 d := fun d hd => fg_up ((fg_tup.mp sm.fg).2 d hd)
  have e100 := pow_s k
  have e1 := pow_1 k
  unfold B_l_edge
  rw [does_body]
  simp only [startD, List.map_cons, List.map_nil, List.length_cons, List.length_nil, List.replicate, List.cons_append, List.nil_append, Nat.reduceAdd, Nat.reduceSub]
  refine do_ifR (v_B (v_op (v_len v_var) v_c v_eqi)) (fun z => ?_) fun z => ?_
  · refine some_fin h2 hb (by omega) (by omega) rfl (ds := [.tup [], .tup [.tup [.str "tell", .int 0, .tup []]], .lst [], .non]) (v_lst (v_cons (v_tup v_nil (by simp)) (v_cons (v_tup (v_cons (v_tup (v_cons v_c (v_cons v_c (v_cons (v_tup v_nil (by simp)) v_nil))) (by simp)) v_nil) (by simp)) (v_cons (v_lst v_nil (by simp)) (v_cons v_c v_nil)))) (by simp)) (by simp) (by simp) Kp.refl fun d hd => ?_
    simp only [List.mem_cons, List.not_mem_nil, or_false] at hd
    rcases hd with rfl | rfl | rfl | rfl
    · exact fg0
    · exact fg1 (fg3 (fg_up fg_tell) (fgN (by decide)) fg0)
    · exact ⟨by simp, trivial⟩
    · trivial
  have hpos : 0 < ms.length := by
    have : ¬ ((ms.length : Int) = 0) := by simpa using z
    omega
  refine do_ifRB (does_B (does_op.mpr (pick_call' h1 (n := 6) hb (by omega) rfl v_c (by decide) (by decide) fun m S1 _ b1 k1 _ => Does.of v_c (Does.of v_eqi ⟨_, rfl, ⟨_, rfl, fun z2 => ?_, fun z2 => ?_⟩⟩))))
  · have hcut : (cutL ms (some (-1)) none).length ≤ 1 := cutL_last
    refine some_fin h2 b1 (by omega) (by omega) rfl (ds := [.tup (cutL ms none (some (-1))), .tup (ms ++ cutL ms (some (-1)) none), .lst ms]) (v_lst (v_cons (v_slT v_var v_oNo (v_oSome (v_neg v_c))) (v_cons (v_op v_var (v_slT v_var (v_oSome (v_neg v_c)) v_oNo) (v_addT (by omega))) (v_cons (v_listT v_var) v_nil))) (by simp)) (by simp) (by simp) k1 fun d hd => ?_
    simp only [List.mem_cons, List.not_mem_nil, or_false] at hd
    rcases hd with rfl | rfl | rfl
    · exact fg_cut (fgT (by omega) hms)
    · exact fg_app (by omega) hms fun d hd => hms d (cutL_mem hd)
    · exact fg_lst.mpr ⟨by omega, hms⟩
  · rw [do_seq, do_asg]
    refine pick_call' h1 b1 (by omega) rfl (v_len v_var) hpos (by omega) fun m S2 hm2 b2 k2 _ => Does.of v_nm ?_
    simp only [List.set_cons_zero, List.set_cons_succ]
    have hq2 : m < qs.length := by omega
    cases j with
    | zero => cases (show D.tup qs = .tup [] from hg); simp at hq2
    | succ j =>
      obtain ⟨qs', e, _, hqs⟩ := id hg
      cases e
      have hmm : ms[m]? = some ms[m] := List.getElem?_eq_getElem hm2
      have hqm : qs[m]? = some qs[m] := List.getElem?_eq_getElem hq2
      rw [do_ret, does_op]
      rw [does_op]
      refine Does.of (v_slT v_var v_oNo (v_oSome v_var)) ?_
      unfold mTup
      rw [does_bind, does_cons]
      refine call_ok (ds := [.ref 1, n, qs[m], ms[m]]) (v_cons v_var (v_cons v_var (v_cons (v_op v_var v_var (idx_v hqm)) (v_cons (v_op v_var v_var (idx_v hmm)) v_nil)))) ?_
      refine (h3 (c + 2) i j n qs[m] ms[m] S2 b2 (by omega) hn (hqs _ (List.getElem_mem hq2)) (hm m _ _ hqm hmm)).imp fun v S3 ⟨hv, b3, k3⟩ => ?_
      refine Does.of (v_nil (ρ := [])) ?_
      rw [if_pos (by simp), does_ret]
      refine Does.of (v_addT (by have := cutL_le (ds := ms) (lo := none) (hi := some (m : Int)); simp; omega)) ?_
      refine Does.of (v_slT v_var (v_oSome (v_op (x := .int (m : Int)) (y := .int 1) (z := .int ((m + 1 : Nat) : Int)) v_var v_c (by show Vl (M.ret (D.int ((m : Int) + 1))) S3 _; rfl))) v_oNo) ?_
      refine Does.of (v_addT (by have := cutL_le (ds := ms) (lo := none) (hi := some (m : Int)); have := cutL_le (ds := ms) (lo := some ((m + 1 : Nat) : Int)) (hi := none); rw [List.length_append]; simp only [List.length_cons, List.length_nil]; omega)) ?_
      exact ⟨put_one (by omega) hm2 hms hv, b3.mono (by omega), (k1.trans k2).trans k3⟩
theorem v_lstA {f g : Ev} {ρ : Tl.Env} {S : Store} {as bs : List D} (h1 : Vl (f ρ) S (.lst as)) (h2 : Vl (g ρ) S (.lst bs)) (hl : as.length + bs.length ≤ 1000000) : Vl (mOp addD f g ρ) S (.lst (as ++ bs)) := v_op h1 h2 (v_addL hl)
theorem fg_Ask : FG 98 6 (.str ("Ask" : Str)) := ⟨by decide +kernel, by decide +kernel⟩
theorem l_medge_ok {k : Nat} {p1 p2 p3 p4 : Fnd} (h1 : IsPick p1) (h2 : IsSome p2) (h3 : IsEdge k p3) (h4 : IsMEdge k p4) : IsMEdge (k + 1) (B_l_move_edge p1 p2 p3 p4) := by
  intro c i j n q t S hb hc hn hq hw
  obtain ⟨as, rfl, ha1, ha3, has⟩ := id hq
  obtain ⟨ns, rfl, hnl⟩ := tg_tup hn
  have sm := (plan_sml (k + 1) i j (.tup ns) hn).2 _ t hq hw
  have e100 := pow_s k
  have e1 := pow_1 k
  unfold B_l_move_edge
  rw [does_body]
  simp only [startD, List.map_cons, List.map_nil, List.length_cons, List.length_nil, List.replicate, List.cons_append, List.nil_append, Nat.reduceAdd, Nat.reduceSub]
  rcases moveB_inv hw with ⟨m, a, w, rfl, hm, hww⟩ | ⟨m, b, ms, rfl, hm, hl, hms⟩
  · have hml := (List.getElem?_eq_some_iff.mp hm).1
    obtain ⟨u, v, nn, rfl, hnn⟩ := has a (List.mem_of_getElem? hm)
    have fw : FG 98 6 w := fg_up ((fg_tup.mp sm.fg).2 w (by simp))
    have ft := fg_up fg_tell
    have fm : FG 98 6 (.int (m : Int)) := fgN (by omega)
    obtain ⟨ws, rfl⟩ : ∃ ws, w = .tup ws := by
      cases k with
      | zero => simp [waitB] at hww
      | succ k =>
        obtain ⟨qs, e, _⟩ := tg_tup hnn
        have hww : waitB (k + 1) (.tup ns) nn w = true := hww
        rw [e] at hww
        obtain ⟨ws, h, _⟩ := waitB_inv hww
        exact ⟨ws, h⟩
    have hws5 : ws.length ≤ 5 := (fg_tup.mp ((fg_tup.mp sm.fg).2 _ (by simp : D.tup ws ∈ [D.str "tell", D.int (m : Int), D.tup ws]))).1
    have fws : ∀ d ∈ ws, FG 98 6 d := (fg_tup.mp fw).2
    rw [do_seq, do_asg]
    refine Does.of v_var (Does.of v_g3 ?_)
    simp only [List.set_cons_zero, List.set_cons_succ]
    rw [do_seq]
    refine do_ifB (does_B (Does.of (v_op v_var v_c (v_eqS cl_tell cl_tell)) ⟨_, rfl, ⟨_, rfl, fun _ => ?_, fun z => by simp at z⟩⟩))
    rw [do_seq, do_asg]
    refine Does.of (v_idx (v_op (x := .tup as) (y := .int (m : Int)) (z := .tup [u, v, nn]) v_var v_var (idx_v hm)) v_c (x := nn) rfl) (Does.of v_nm ?_)
    simp only [List.set_cons_zero, List.set_cons_succ]
    obtain ⟨qs, rfl, hql⟩ := tg_tup hnn
    -- the list of spoilt ones
    have fin : ∀ (S1 : Store) (c1 : Nat), Bag c1 S1 → c1 ≤ c + 1 → Kp [0, 1] S S1 → DoS (sSeq (sAsg (mLst (lCons (mTup (lCons (mC (.str "tell")) (lCons (mCl lenD (lCons (mVar 2) lNil)) (lCons (mVar 6) lNil)))) (lCons (mTup (lCons (mC (.str "tell")) (lCons (mNeg (mC (.int 1))) (lCons (mVar 6) lNil)))) (lCons (mTup (lCons (mC (.str "tell")) (lCons (mVar 5) lNil))) (lCons (mTup (lCons (mC (.str "tell")) (lCons (mVar 5) (lCons (mVar 6) (lCons (mTup lNil) lNil))))) lNil))))) (gNm 8))
        (sSeq (sAsg (mOp addD (mVar 8) (mLst (lCons (mTup (lCons (mC (.str "tell")) (lCons (mOp subD (mCl lenD (lCons (mVar 2) lNil)) (mC (.int 1))) (lCons (mVar 6) lNil)))) (lCons (mLst (lCons (mC (.str "tell")) (lCons (mVar 5) (lCons (mVar 6) lNil)))) (lCons (mTup (lCons (mC (.str "tell")) (lCons (mC (.bl false)) (lCons (mVar 6) lNil)))) lNil))))) (gNm 8))
        (sRet (mCall p2 2 (lCons (mVar 0) (lCons (mOp addD (mVar 8) (mLst (lCons (mTup (lCons (mC (.str "tell")) (lCons (mVar 5) (lCons (mOp addD (mVar 6) (mTup (lCons (mTup (lCons (mC (.str "tell")) (lCons (mC (.int 0)) (lCons (mTup lNil) lNil)))) lNil))) lNil)))) lNil))) lNil))))))
        [some (.ref 1), some (.tup ns), some (.tup as), some (.tup [.str "tell", .int m, .tup ws]), some (.str "tell"), some (.int m), some (.tup ws), some (.tup qs), none, none, none, none] S1 fun r S' => match r with
          | .rt d => FG 98 6 d ∧ Bag (c + 100 ^ (k + 1)) S' ∧ Kp [0, 1] S S'
          | _ => False := fun S1 c1 b1 hc1 k1 => by
      rw [do_seq, do_asg]
      refine Does.of (v_lst (ds := [.tup [.str "tell", .int as.length, .tup ws], .tup [.str "tell", .int (-1), .tup ws], .tup [.str "tell", .int m], .tup [.str "tell", .int m, .tup ws, .tup []]]) (v_cons (v_tup (v_cons v_c (v_cons (v_len v_var) (v_cons v_var v_nil))) (by simp)) (v_cons (v_tup (v_cons v_c (v_cons (v_neg v_c) (v_cons v_var v_nil))) (by simp)) (v_cons (v_tup (v_cons v_c (v_cons v_var v_nil)) (by simp)) (v_cons (v_tup (v_cons v_c (v_cons v_var (v_cons v_var (v_cons (v_tup v_nil (by simp)) v_nil)))) (by simp)) v_nil)))) (by simp)) (Does.of v_nm ?_)
      simp only [List.set_cons_zero, List.set_cons_succ]
      rw [do_seq, do_asg]
      refine Does.of (v_lstA v_var (v_lst (ds := [.tup [.str "tell", .int (as.length - 1), .tup ws], .lst [.str "tell", .int m, .tup ws], .tup [.str "tell", .bl false, .tup ws]]) (v_cons (v_tup (v_cons v_c (v_cons (v_op (v_len v_var) v_c v_sub) (v_cons v_var v_nil))) (by simp)) (v_cons (v_lst (v_cons v_c (v_cons v_var (v_cons v_var v_nil))) (by simp)) (v_cons (v_tup (v_cons v_c (v_cons v_c (v_cons v_var v_nil))) (by simp)) v_nil))) (by simp)) (by simp)) (Does.of v_nm ?_)
      simp only [List.set_cons_zero, List.set_cons_succ]
      rw [do_ret]
      refine some_fin h2 b1 (by omega) (by omega) rfl (v_lstA v_var (v_lst (ds := [.tup [.str "tell", .int m, .tup (ws ++ [.tup [.str "tell", .int 0, .tup []]])]]) (v_cons (v_tup (v_cons v_c (v_cons v_var (v_cons (v_op v_var (v_tup (ds := [.tup [.str "tell", .int 0, .tup []]]) (v_cons (v_tup (v_cons v_c (v_cons v_c (v_cons (v_tup v_nil (by simp)) v_nil))) (by simp)) v_nil) (by simp)) (v_addT (by simp; omega))) v_nil))) (by simp)) v_nil) (by simp)) (by simp)) (by simp) (by simp) k1 fun d hd => ?_
      simp only [List.cons_append, List.nil_append, List.mem_cons, List.not_mem_nil, or_false] at hd
      rcases hd with rfl | rfl | rfl | rfl | rfl | rfl | rfl | rfl
      · exact fg3 ft (fgN (by omega)) fw
      · exact fg3 ft (fgN (by decide)) fw
      · exact fg2 ft fm
      · exact fgT (by simp) fun d hd => by
          simp only [List.mem_cons, List.not_mem_nil, or_false] at hd
          rcases hd with rfl | rfl | rfl | rfl
          · exact ft
          · exact fm
          · exact fw
          · exact fg0
      · exact fg3 ft (fgN (by omega)) fw
      · exact fg_lst_of (fg3 ft fm fw)
      · exact fg3 ft trivial fw
      · refine fg3 ft fm (fg_app (by simp; omega) fws fun d hd => ?_)
        rw [List.mem_singleton.mp hd]
        exact fg3 ft (fgN (by decide)) fg0
    refine do_ifRB (does_and (does_B (Does.of (v_op (v_len v_var) v_c v_ord) ⟨_, rfl, ⟨_, rfl, fun z => ?_, fun z => ?_⟩⟩)))
    · refine does_B (does_op.mpr (pick_call' h1 (n := 2) hb (by omega) rfl v_c (by decide) (by decide) fun m2 S1 _ b1 k1 _ => Does.of v_c (Does.of v_eqi ⟨_, rfl, ⟨_, rfl, fun z2 => ?_, fun z2 => ?_⟩⟩)))
      · unfold mTup
        rw [does_bind, does_cons]
        refine Does.of v_c ?_
        rw [does_cons]
        refine Does.of v_var ?_
        rw [does_cons]
        refine call_ok (ds := [.ref 1, .tup ns, .tup qs, .tup ws]) (v_cons v_var (v_cons v_var (v_cons v_var (v_cons v_var v_nil)))) ?_
        refine (h3 (c + 1) i j (.tup ns) (.tup qs) (.tup ws) S1 b1 (by omega) hn hnn hww).imp fun x S2 ⟨hx, b2, k2⟩ => ?_
        refine Does.of (v_nil (ρ := [])) ?_
        rw [if_pos (by simp), does_ret]
        exact ⟨fg3 ft fm hx, b2.mono (by omega), k1.trans k2⟩
      · exact (fin S1 (c + 1) b1 (by omega) k1).imp fun r S' h => by cases r <;> first | exact h | exact h.elim
    · exact ⟨false, rfl, fun h => (nomatch h), fun _ => (fin S c hb (by omega) Kp.refl).imp fun r S' h => by cases r <;> first | exact h | exact h.elim⟩
  · have hml := (List.getElem?_eq_some_iff.mp hm).1
    have fw : FG 98 6 (.tup ms) := fg_up ((fg_tup.mp sm.fg).2 (.tup ms) (by simp))
    have hms5 : ms.length ≤ 5 := (fg_tup.mp ((fg_tup.mp sm.fg).2 _ (by simp : D.tup ms ∈ [D.str "ask", D.int (m : Int), D.tup ms]))).1
    have fms : ∀ d ∈ ms, FG 98 6 d := (fg_tup.mp fw).2
    have fa := fg_up fg_ask
    have fm : FG 98 6 (.int (m : Int)) := fgN (by omega)
    cases i with
    | zero => cases (show D.tup ns = .tup [] from hn); simp at hm
    | succ i =>
      obtain ⟨ns', e, _, hns⟩ := id hn
      cases e
      obtain ⟨bs, rfl, hb1, hb3, hbs⟩ := hns b (List.mem_of_getElem? hm)
      have hl : ms.length = bs.length := hl
      rw [do_seq, do_asg]
      refine Does.of v_var (Does.of v_g3 ?_)
      simp only [List.set_cons_zero, List.set_cons_succ]
      rw [do_seq]
      refine do_ifB (does_B (Does.of (v_op v_var v_c (v_eqS cl_ask cl_tell)) ⟨_, rfl, ⟨_, rfl, fun z => by exact absurd (of_decide_eq_true z) ask_ne, fun _ => ?_⟩⟩))
      rw [do_skip]
      dsimp only
      rw [do_seq, do_asg]
      refine Does.of (v_op (x := .tup ns) (y := .int (m : Int)) (z := .tup bs) v_var v_var (idx_v hm)) (Does.of v_nm ?_)
      simp only [List.set_cons_zero, List.set_cons_succ]
      rw [do_seq]
      refine do_ifB (does_B (does_op.mpr (pick_call' h1 (n := 2) hb (by omega) rfl v_c (by decide) (by decide) fun m2 S1 _ b1 k1 _ => Does.of v_c (Does.of v_eqi ⟨_, rfl, ⟨_, rfl, fun z2 => ?_, fun z2 => ?_⟩⟩))))
      · rw [do_seq, do_asg]
        refine pick_call' h1 b1 (by omega) rfl (v_len v_var) (by omega) (by omega) fun l S2 hl2 b2 k2 _ => Does.of v_nm ?_
        simp only [List.set_cons_zero, List.set_cons_succ]
        have hlm : ms[l]? = some ms[l] := List.getElem?_eq_getElem hl2
        have hlb : bs[l]? = some bs[l] := List.getElem?_eq_getElem (by omega)
        obtain ⟨u, v, nn, eu, hnn⟩ := hbs bs[l] (List.getElem_mem (by omega))
        have hmv := hms l bs[l] ms[l] hlb hlm
        rw [eu] at hlb hmv
        rw [do_seq, do_asg]
        refine call_ok (ds := [.ref 1, nn, .tup as, ms[l]]) (v_cons v_var (v_cons (v_idx (v_op (x := .tup bs) (y := .int (l : Int)) (z := .tup [u, v, nn]) v_var v_var (idx_v hlb)) v_c rfl) (v_cons v_var (v_cons (v_op v_var v_var (idx_v hlm)) v_nil)))) ?_
        refine (h4 (c + 2) i j nn (.tup as) ms[l] S2 b2 (by omega) hnn hq hmv).imp fun x S3 ⟨hx, b3, k3⟩ => Does.of v_nm ?_
        simp only [List.set_cons_zero, List.set_cons_succ]
        rw [do_ret]
        refine Does.of (v_tup (ds := [.str "ask", .int m, .tup ((cutL ms none (some (l : Int)) ++ [x]) ++ cutL ms (some ((l + 1 : Nat) : Int)) none)]) (v_cons v_c (v_cons v_var (v_cons (v_op (v_op (v_slT v_var v_oNo (v_oSome v_var)) (v_tup (v_cons v_var v_nil) (by simp)) (v_addT (by have := cutL_le (ds := ms) (lo := none) (hi := some (l : Int)); simp; omega))) (v_slT v_var (v_oSome (v_op (x := .int (l : Int)) (y := .int 1) (z := .int ((l + 1 : Nat) : Int)) v_var v_c (by show Vl (M.ret (D.int ((l : Int) + 1))) S3 _; rfl))) v_oNo) (v_addT (by have := cutL_le (ds := ms) (lo := none) (hi := some (l : Int)); have := cutL_le (ds := ms) (lo := some ((l + 1 : Nat) : Int)) (hi := none); rw [List.length_append]; simp only [List.length_cons, List.length_nil]; omega))) v_nil))) (by simp)) ?_
        exact ⟨fg3 fa fm (put_one hms5 hl2 fms hx), b3.mono (by omega), (k1.trans k2).trans k3⟩
      · rw [do_skip]
        dsimp only
        have hcut : (cutL ms (some (-1)) none).length ≤ 1 := cutL_last
        rw [do_seq, do_asg]
        refine Does.of (v_lst (ds := [.tup [.str "ask", .int ns.length, .tup ms], .tup [.str "ask", .int (-1), .tup ms], .tup [.str "ask", .int m, .tup (cutL ms none (some (-1)))], .tup [.str "ask", .int m, .tup (ms ++ cutL ms (some (-1)) none)]]) (v_cons (v_tup (v_cons v_c (v_cons (v_len v_var) (v_cons v_var v_nil))) (by simp)) (v_cons (v_tup (v_cons v_c (v_cons (v_neg v_c) (v_cons v_var v_nil))) (by simp)) (v_cons (v_tup (v_cons v_c (v_cons v_var (v_cons (v_slT v_var v_oNo (v_oSome (v_neg v_c))) v_nil))) (by simp)) (v_cons (v_tup (v_cons v_c (v_cons v_var (v_cons (v_op v_var (v_slT v_var (v_oSome (v_neg v_c)) v_oNo) (v_addT (by omega))) v_nil))) (by simp)) v_nil)))) (by simp)) (Does.of v_nm ?_)
        simp only [List.set_cons_zero, List.set_cons_succ]
        rw [do_ret]
        refine some_fin h2 b1 (by omega) (by omega) rfl (v_lstA v_var (v_lst (ds := [.tup [.str "ask", .int m, .lst ms], .tup [.str "ask", .bl false, .tup ms], .tup [.str "Ask", .int m, .tup ms], .tup [.str "ask", .int m]]) (v_cons (v_tup (v_cons v_c (v_cons v_var (v_cons (v_listT v_var) v_nil))) (by simp)) (v_cons (v_tup (v_cons v_c (v_cons v_c (v_cons v_var v_nil))) (by simp)) (v_cons (v_tup (v_cons v_c (v_cons v_var (v_cons v_var v_nil))) (by simp)) (v_cons (v_tup (v_cons v_c (v_cons v_var v_nil)) (by simp)) v_nil)))) (by simp)) (by simp)) (by simp) (by simp) k1 fun d hd => ?_
        simp only [List.cons_append, List.nil_append, List.mem_cons, List.not_mem_nil, or_false] at hd
        rcases hd with rfl | rfl | rfl | rfl | rfl | rfl | rfl | rfl
        · exact fg3 fa (fgN (by omega)) fw
        · exact fg3 fa (fgN (by decide)) fw
        · exact fg3 fa fm (fg_cut fw)
        · exact fg3 fa fm (fg_app (by omega) fms fun d hd => fms d (cutL_mem hd))
        · exact fg3 fa fm (fg_lst_of fw)
        · exact fg3 fa trivial fw
        · exact fg3 fg_Ask fm fw
        · exact fg2 fa fm
end Lw
set_option Elab.async false
set_option linter.all false
set_option maxRecDepth 100000
set_option maxHeartbeats 4000000
set_option autoImplicit false
namespace Lw
open PySem L2 Tl

/-! ### trees with other weights -/
theorem do_appG {n : Nat} {d0 : List D} {f g : Ev} {ρ : Tl.Env} {S : Store} {P : Fl → Store → Prop} (h1 : Vl (f ρ) S (.ref n)) (h0 : S[n]? = some (.lst d0)) (h2 : Does (g ρ) S fun d S2 => ∃ ds, S2[n]? = some (.lst ds) ∧ ds.length < 1000000 ∧ P (.nx ρ) (S2.set n (.lst (ds ++ [d])))) : DoS (sExpr (mMt kApp f g)) ρ S P := by
  rw [do_expr]
  refine does_mt (n := n) h1 h0 (h2.imp fun d S2 ⟨ds, e, hl, p⟩ => ⟨.non, ds, ds ++ [d], e, ?_, p⟩)
  show (if ds.length < 1000000 then some (D.non, ds ++ [d]) else none) = _
  rw [if_pos hl]
theorem v_wts2 {p : Fnd} (hp : IsTimes p) {ah : List (Int × Int)} {rows : List (List (Int × Int))} {m k e : Nat} (hr : rows.length = ah.length) (hrm : ∀ ps ∈ rows, Sh m ps) (hk : k < m) (hm : m ≤ 3) (hl : ah.length ≤ 5) (hch : ∀ q ∈ ah, Ch e q) (he : e ≤ 9)
    {x0 x2 x4 x5 x7 x9 x10 x11 x12 x13 : Option D} {S : Store} : Vl (mCl tupleD (lCons (mLc (mRg1 (mVar 1)) (gNm 13) mYes (mCall p 2 (lCons (mOp idxD (mVar 3) (mVar 13)) (lCons (mOp idxD (mOp idxD (mVar 6) (mVar 13)) (mVar 8)) lNil))) [13]) lNil) [x0, some (.int ah.length), x2, some (.tup (ah.map fr)), x4, x5, some (.lst (rows.map rowD)), x7, some (.int k), x9, x10, x11, x12, x13]) S (.tup ((wts ah rows k).map fr)) := by
  refine v_cl1 (x := .lst (((List.range ah.length).map fun (i : Nat) => D.int (0 + i)).map fun d => match d with
    | .int j => fr (tm (ah.getD j.toNat (0, 1)) ((rows.getD j.toNat []).getD k (0, 1)))
    | _ => .non)) (v_map _ (s := srcRg 0 ah.length) ?_ reads_rg (by simp; omega) fun d hd => ?_) ?_
  · unfold mRg1
    refine v_bind v_var ?_
    show (if (-1000000 : Int) ≤ (ah.length : Int) ∧ (ah.length : Int) ≤ 1000000 then M.ret (srcRg 0 (ah.length : Int).toNat) else M.stuck) S = _
    rw [if_pos (by omega)]
    rfl
  · obtain ⟨j, hj, rfl⟩ := List.mem_map.mp hd
    have hj : j < ah.length := by simpa using hj
    have e0 : (0 + (j : Int)) = ((j : Nat) : Int) := by omega
    rw [e0]
    have ha : ah[j]? = some ah[j] := List.getElem?_eq_getElem hj
    have hj2 : j < rows.length := by omega
    have hb : rows[j]? = some rows[j] := List.getElem?_eq_getElem hj2
    have hsh := hrm rows[j] (List.getElem_mem hj2)
    obtain ⟨xs, hx1, hx2, hx3, hx4⟩ := id hsh
    have hkl : k < rows[j].length := by rw [hx4, List.length_map]; omega
    have hc : rows[j][k]? = some rows[j][k] := List.getElem?_eq_getElem hkl
    have b1 := ((hch ah[j] (List.getElem_mem hj)).bd (by omega)).mono (show 100 ≤ 4000 by decide)
    have b2 := ((hsh.ch (by omega) rows[j][k] (List.getElem_mem hkl)).bd (by decide)).mono (show 100 ≤ 4000 by decide)
    refine ⟨_, v_nm, v_call2 (x := fr ah[j]) (y := fr rows[j][k]) (v_idx v_var v_var (getAt_v (by rw [List.getElem?_map, ha]; rfl))) (v_op (x := rowD rows[j]) (y := .int k) (v_op (x := .lst (rows.map rowD)) (y := .int j) v_var v_var (getAt_v (ds := rows.map rowD) (by rw [List.getElem?_map, hb]; rfl))) v_var (getAt_v (ds := rows[j].map fr) (by rw [List.getElem?_map, hc]; rfl))) ?_⟩
    show Vl (p [fr ah[j], fr rows[j][k]]) S (fr (tm (ah.getD ((j : Nat) : Int).toNat (0, 1)) ((rows.getD ((j : Nat) : Int).toNat []).getD k (0, 1))))
    have g1 : ah.getD j (0, 1) = ah[j] := by simp [List.getD, ha]
    have g2 : rows.getD j [] = rows[j] := by simp [List.getD, hb]
    have g3 : rows[j].getD k (0, 1) = rows[j][k] := by simp [List.getD, hc]
    rw [Int.toNat_natCast, g1, g2, g3]
    exact hp _ _ S b1 b2
  · unfold wts
    rw [List.map_map, List.map_map]
    refine congrArg (fun l => some ((Rs.ok (D.tup l) : Rs D), S)) (List.map_congr_left fun j _ => ?_)
    show fr (tm (ah.getD (0 + (j : Int)).toNat (0, 1)) ((rows.getD (0 + (j : Int)).toNat []).getD k (0, 1))) = _
    rw [show (0 + (j : Int)).toNat = j by omega]
    rfl
def IsRew (l : Nat) (f : Fnd) : Prop := ∀ (c w e w' e' : Nat) (ah ah' : List (Int × Int)) (node : D) S, Bag c S → GN w l e ah node → ah'.length = w' → 1 ≤ w' → w' ≤ 5 → (∀ p ∈ ah', Ch e' p) → e' + l ≤ 9 → c + 100 ^ l ≤ LIM →
  Does (f [.ref 1, .int w', node, .tup (ah'.map fr)]) S fun v S' => GN w' l e' ah' v ∧ cntF l v = cntF l node ∧ Bag (c + 100 ^ l) S' ∧ Kp [0, 1] S S'
theorem sum_cntQ {l : Nat} : ∀ as : List An, cntQ l (.tup (as.map ansD)) = as.length + (as.map fun a => cntF l a.2.2).sum
  | [] => rfl
  | a :: as => by
    have ih := sum_cntQ (l := l) as
    unfold cntQ at ih ⊢
    simp only [items, List.map_cons, List.sum_cons, List.length_cons] at ih ⊢
    rw [ih]
    show 1 + cntF l a.2.2 + _ = _
    omega
theorem cntF_s {l : Nat} {qs : List D} : cntF (l + 1) (.tup qs) = (qs.map (cntQ l)).sum := rfl
theorem v_gen {i j k l : Nat} {a b c d : D} {ρ : Tl.Env} {S : Store} : Vl (gTp 2 (gsCons (gNm i) (gsCons (gTp 3 (gsCons (gNm j) (gsCons (gNm k) (gsCons (gNm l) gsNil)))) gsNil)) (.tup [a, .tup [b, c, d]]) ρ) S ((((ρ.set i (some a)).set j (some b)).set k (some c)).set l (some d)) := rfl
theorem Kp.back {xs : List Nat} {p : Nat} {S S1 S2 : Store} {o : SO} (a : Kp xs S S1) (h : S.length ≤ p) (e : S2 = S1.set p o) : Kp xs S S2 := by
  subst e
  exact ⟨by rw [List.length_set]; exact a.1, fun j hj hn => by rw [set_ne (by omega)]; exact a.2 j hj hn⟩
theorem rew_ok {p1 p2 p3 : Fnd} (h1 : IsTimes p1) (h2 : IsShares p2) {l : Nat} (h3 : ∀ l', l = l' + 1 → IsRew l' p3) : IsRew l (B_l_reweighted p1 p2 p3) := by
  intro c w e w' e' ah ah' node S hb hg hal hw1 hw5 hch hel hc
  subst hal
  unfold B_l_reweighted
  rw [does_body]
  simp only [startD, List.map_cons, List.map_nil, List.length_cons, List.length_nil, List.replicate, List.cons_append, List.nil_append, Nat.reduceAdd, Nat.reduceSub]
  rw [do_seq, do_asg]
  refine Does.of (v_new v_nil (by simp)) (Does.of v_nm ?_)
  simp only [List.set_cons_zero, List.set_cons_succ]
  have l2 := hb.two
  have b1 := hb.keep (Kp.push (xs := []) (o := SO.lst [])) (by simp) (by simp)
  have k1 : Kp [0, 1] S (S ++ [SO.lst []]) := Kp.push
  have g1 : (S ++ [SO.lst []])[S.length]? = some (.lst []) := by simp
  generalize S ++ [SO.lst []] = S1 at *
  obtain ⟨pf, hpf⟩ : ∃ n, S.length = n := ⟨_, rfl⟩
  rw [hpf] at g1 ⊢
  have npf : pf ∉ [0, 1] := not01 (by omega)
  obtain ⟨qs, rfl, hql, hqs⟩ : ∃ qs, node = .tup qs ∧ qs.length ≤ 2 ∧ ∀ q ∈ qs, ∃ l', l = l' + 1 ∧ GQ w e (GN w l' (e + 1)) ah q := by
    cases l with
    | zero =>
      have hg : node = .tup [] := hg
      exact ⟨[], hg, by simp, by simp⟩
    | succ l =>
      obtain ⟨qs, u1, u2, u3⟩ := hg
      exact ⟨qs, u1, u2, fun q hm => ⟨l, rfl, u3 q hm⟩⟩
  have hcost : qs.length * (20 + 3 * 100 ^ (l - 1)) ≤ 100 ^ l := by
    cases l with
    | zero => cases (show D.tup qs = .tup [] from hg); simp
    | succ l =>
      have e1 := pow_1 l
      have e2 := pow_s l
      have : qs.length * (20 + 3 * 100 ^ l) ≤ 2 * (20 + 3 * 100 ^ l) := Nat.mul_le_mul_right _ hql
      show qs.length * (20 + 3 * 100 ^ l) ≤ 100 ^ (l + 1)
      omega
  rw [do_seq]
  refine do_for (Does.of (v_itT v_var) ⟨_, fun i ρ S' => (∃ y5 y6 y7 y8 y9 y10 y11 y12 y13, ρ = [some (.ref 1), some (.int ah'.length), some (.tup qs), some (.tup (ah'.map fr)), some (.ref pf), y5, y6, y7, y8, y9, y10, y11, y12, y13]) ∧ Bag (c + i * (20 + 3 * 100 ^ (l - 1))) S' ∧ Kp [0, 1] S S' ∧
      ∃ ns : List D, S'[pf]? = some (.lst ns) ∧ ns.length = i ∧ (∀ q ∈ ns, ∃ l', l = l' + 1 ∧ GQ ah'.length e' (GN ah'.length l' (e' + 1)) ah' q) ∧ ns.map (cntQ (l - 1)) = (qs.take i).map (cntQ (l - 1)),
    ⟨⟨_, _, _, _, _, _, _, _, _, rfl⟩, by simpa using b1, k1, [], g1, rfl, by simp, by simp⟩, fun _ _ _ _ => reads_d, ?_, ?_⟩)
  · rintro i q ρ S2 hd ⟨⟨y5, y6, y7, y8, y9, y10, y11, y12, y13, rfl⟩, b2, k2, ns, g2, hnl, hnq, hnc⟩
    have hi := (List.getElem?_eq_some_iff.mp hd).1
    obtain ⟨l', rfl, hgq⟩ := hqs q (List.mem_of_getElem? hd)
    rw [show l' + 1 - 1 = l' from rfl] at *
    obtain ⟨as, rfl, ha1, ha3, hga, _⟩ := hgq.ex
    have e1 := pow_1 l'
    have e2 := pow_s l'
    have hmul : (i + 1) * (20 + 3 * 100 ^ l') = i * (20 + 3 * 100 ^ l') + (20 + 3 * 100 ^ l') := Nat.succ_mul _ _
    have hle : (i + 1) * (20 + 3 * 100 ^ l') ≤ 2 * (20 + 3 * 100 ^ l') := Nat.mul_le_mul_right _ (by omega)
    rw [do_seq, do_tg]
    refine Does.of v_nm ?_
    simp only [List.set_cons_zero, List.set_cons_succ]
    rw [do_seq, do_asg]
    -- the rows
    refine does_lc (does_rg (Does.of v_var ⟨ah'.length, rfl, by omega, _, fun m acc S' => Bag (c + i * (20 + 3 * 100 ^ l') + m * 4) S' ∧ Kp [0, 1] S2 S' ∧ ∃ rows : List (List (Int × Int)), acc = rows.map rowD ∧ rows.length = m ∧ ∀ ps ∈ rows, Sh as.length ps,
      ⟨by simpa using b2, Kp.refl, [], rfl, rfl, by simp⟩, fun _ _ _ _ => reads_rg, ?_, ?_⟩))
    · rintro m d acc S3 hd3 ⟨b3, k3, rows, rfl, hrl, hrs⟩
      have hm : m < ah'.length := by
        have := (List.getElem?_eq_some_iff.mp hd3).1
        simpa using this
      refine Does.of v_nm (Does.of (show Vl (mYes _) S3 (.bl true) from rfl) ?_)
      dsimp only
      refine call_ok (ds := [.ref 1, .int as.length, .int 0]) (v_cons v_var (v_cons (Vl.to (v_len (ds := as.map ansD) v_var) (by rw [List.length_map])) (v_cons v_c v_nil))) ?_
      refine (h2 (c + i * (20 + 3 * 100 ^ l') + m * 4) as.length 0 S3 b3 (by omega) (by omega) (by omega) (by decide) (by decide)).imp fun v S4 ⟨⟨ps, e4, hps⟩, b4, k4⟩ => ?_
      subst e4
      refine ⟨by rw [List.length_map]; omega, b4.mono (by omega), k3.trans k4, rows ++ [ps], by simp [rowD], by simp [hrl], fun y hy => ?_⟩
      rcases List.mem_append.mp hy with h | h
      · exact hrs y h
      · rw [show y = ps by simpa using h]; exact hps
    · rintro acc S3 ⟨b3, k3, rows, rfl, hrl, hrs⟩
      have hrl : rows.length = ah'.length := by simpa using hrl
      have b3 : Bag (c + i * (20 + 3 * 100 ^ l') + ah'.length * 4) S3 := by simpa using b3
      refine Does.of v_nm ?_
      simp only [List.set_cons_zero, List.set_cons_succ]
      rw [do_seq, do_asg]
      refine Does.of (v_new v_nil (by simp)) (Does.of v_nm ?_)
      simp only [List.set_cons_zero, List.set_cons_succ]
      have l3 := b3.two
      have b4 := b3.keep (Kp.push (xs := []) (o := SO.lst [])) (by simp) (by simp)
      have k4 : Kp [0, 1] S2 (S3 ++ [SO.lst []]) := k3.trans Kp.push
      have g4 : (S3 ++ [SO.lst []])[S3.length]? = some (.lst []) := by simp
      have p2 : pf < S2.length := (List.getElem?_eq_some_iff.mp g2).1
      have s23 : S2.length ≤ S3.length := k3.1
      generalize S3 ++ [SO.lst []] = S4 at *
      obtain ⟨pq, hpq⟩ : ∃ n, S3.length = n := ⟨_, rfl⟩
      rw [hpq] at g4 ⊢
      have npq : pq ∉ [0, 1] := not01 (by omega)
      have hpne : pq ≠ pf := by omega
      have g4f : S4[pf]? = some (.lst ns) := k4.get g2 npf
      rw [do_seq]
      refine do_for (Does.of (v_en v_var) ⟨_, fun m ρ S' => (∃ y8 y9 y10 y11 y12 y13, ρ = [some (.ref 1), some (.int ah'.length), some (.tup qs), some (.tup (ah'.map fr)), some (.ref pf), some (.tup (as.map ansD)), some (.lst (rows.map rowD)), some (.ref pq), y8, y9, y10, y11, y12, y13]) ∧ Bag (c + i * (20 + 3 * 100 ^ l') + 20 + m * 100 ^ l') S' ∧ Kp [0, 1] S2 S' ∧ S'[pf]? = some (.lst ns) ∧
          ∃ bs : List An, S'[pq]? = some (.lst (bs.map ansD)) ∧ bs.length = m ∧ (∀ j b, bs[j]? = some b → GA ah'.length e' (GN ah'.length l' (e' + 1)) j b) ∧ bs.map (fun a => a.2.1) = (List.range m).map (wts ah' rows) ∧ bs.map (fun a => cntF l' a.2.2) = (as.take m).map (fun a => cntF l' a.2.2),
        ⟨⟨_, _, _, _, _, _, rfl⟩, (by simpa using b4.mono (by omega)), k4, g4f, [], g4, rfl, by simp, rfl, by simp⟩, fun _ _ _ _ => reads_en reads_d, ?_, ?_⟩)
      · rintro m d ρ S5 hd5 ⟨⟨y8, y9, y10, y11, y12, y13, rfl⟩, b5, k5, g5f, bs, g5, hbl, hbg, hbw, hbc⟩
        obtain ⟨m', x, rfl, hx⟩ := mem_en (List.mem_of_getElem? hd5)
        have hm' : m' = m := by
          rw [List.getElem?_map, List.getElem?_zipIdx] at hd5
          cases h : (as.map ansD)[m]? with
          | none => rw [h] at hd5; cases hd5
          | some z => rw [h] at hd5; simp at hd5; omega
        subst hm'
        rw [List.getElem?_map] at hx
        cases hai : as[m']? with
        | none => rw [hai] at hx; cases hx
        | some an =>
          rw [hai] at hx; cases hx
          have hm := (List.getElem?_eq_some_iff.mp hai).1
          have hmul2 : (m' + 1) * 100 ^ l' = m' * 100 ^ l' + 100 ^ l' := Nat.succ_mul _ _
          have hle2 : (m' + 1) * 100 ^ l' ≤ 3 * 100 ^ l' := Nat.mul_le_mul_right _ (by omega)
          have ga := hga m' an hai
          rw [do_seq, do_tg]
          refine Does.of v_gen ?_
          simp only [List.set_cons_zero, List.set_cons_succ]
          rw [do_seq, do_asg]
          have hwl : (wts ah' rows m').length = ah'.length := by unfold wts; simp
          have hch2 := wts_ch hrl hrs hm ha3 hch
          refine Does.of (v_wts2 h1 hrl hrs hm ha3 (by omega) hch (by omega)) (Does.of v_nm ?_)
          simp only [List.set_cons_zero, List.set_cons_succ]
          refine do_appG (n := pq) v_var g5 ?_
          unfold mTup
          rw [does_bind, does_cons]
          refine Does.of v_var ?_
          rw [does_cons]
          refine Does.of v_var ?_
          rw [does_cons]
          refine call_ok (ds := [.ref 1, .int ah'.length, an.2.2, .tup ((wts ah' rows m').map fr)]) (v_cons v_var (v_cons v_var (v_cons v_var (v_cons v_var v_nil)))) ?_
          refine (h3 l' rfl (c + i * (20 + 3 * 100 ^ l') + 20 + m' * 100 ^ l') w (e + 1) ah'.length (e' + 1) an.2.1 (wts ah' rows m') an.2.2 S5 b5 ga.nd hwl (by omega) (by omega) hch2 (by omega) (by omega)).imp fun nd S6 ⟨gn, hcn, b6, k6⟩ => ?_
          refine Does.of (v_nil (ρ := [])) ?_
          rw [if_pos (by simp), does_ret]
          have g6 := k6.get g5 npq
          have l6 : pq < S6.length := (List.getElem?_eq_some_iff.mp g6).1
          refine ⟨_, g6, by rw [List.length_map]; omega, ⟨_, _, _, _, _, _, rfl⟩, (b6.keep (Kp.set (xs := [pq]) (by simp)) (by simp; omega) (by simp; omega)).mono (by omega), Kp.back (k5.trans k6) (by omega) rfl, ?_, bs ++ [(an.1, wts ah' rows m', nd)], ?_, by simp [hbl], fun j b hb' => ?_, ?_, ?_⟩
          · rw [set_ne (by omega)]; exact k6.get g5f npf
          · rw [set_get l6, List.map_append]; rfl
          · by_cases hj : j < bs.length
            · rw [List.getElem?_append_left hj] at hb'
              exact hbg j b hb'
            · have hj2 : j = bs.length := by
                have := (List.getElem?_eq_some_iff.mp hb').1
                simp at this; omega
              subst hj2
              rw [List.getElem?_append_right (Nat.le_refl _)] at hb'
              simp at hb'
              subst hb'
              rw [hbl]
              exact ⟨ga.wd, hwl, hch2, gn⟩
          · rw [List.map_append, hbw, List.range_succ, List.map_append]; rfl
          · rw [List.map_append, hbc, List.take_add_one, hai, List.map_append]
            show _ ++ [cntF l' nd] = _ ++ [cntF l' an.2.2]
            rw [hcn]
      · rintro ρ S5 ⟨⟨y8, y9, y10, y11, y12, y13, rfl⟩, b5, k5, g5f, bs, g5, hbl, hbg, hbw, hbc⟩
        have hbl : bs.length = as.length := by simpa using hbl
        have b5 : Bag (c + i * (20 + 3 * 100 ^ l') + 20 + as.length * 100 ^ l') S5 := by simpa using b5
        have hbw : bs.map (fun a => a.2.1) = (List.range as.length).map (wts ah' rows) := by simpa using hbw
        have hbc : bs.map (fun a => cntF l' a.2.2) = as.map (fun a => cntF l' a.2.2) := by
          have := hbc
          rwa [show ((as.map ansD).zipIdx.map fun p => D.tup [.int p.2, p.1]).length = as.length from by simp, List.take_length] at this
        have hmm : as.length * 100 ^ l' ≤ 3 * 100 ^ l' := Nat.mul_le_mul_right _ ha3
        dsimp only
        refine do_appG (n := pf) v_var g5f (Does.of (v_cl1 v_var (tuple_r g5)) ⟨ns, g5f, by omega, ⟨_, _, _, _, _, _, _, _, _, rfl⟩, (b5.keep (Kp.set (xs := [pf]) (by simp)) (by simp; omega) (by simp; omega)).mono (by omega), Kp.back (k2.trans k5) (by omega) rfl, ns ++ [.tup (bs.map ansD)], by rw [set_get (List.getElem?_eq_some_iff.mp g5f).1], by simp [hnl], fun q hq => ?_, ?_⟩)
        · rcases List.mem_append.mp hq with h | h
          · exact hnq q h
          · rw [show q = .tup (bs.map ansD) by simpa using h]
            refine ⟨l', rfl, ⟨bs, rfl, by omega, by omega, hbg, fun j p hj => ?_⟩⟩
            have e2 : (bs.map fun a => a.2.1.getD j (0, 1)) = (List.range as.length).map fun k => (wts ah' rows k).getD j (0, 1) := by
              have := congrArg (List.map fun (ps : List (Int × Int)) => ps.getD j (0, 1)) hbw
              rw [List.map_map, List.map_map] at this
              exact this
            rw [e2]
            exact wts_sum hrl hrs hch hj
        · rw [List.map_append, hnc, List.take_add_one, hd, List.map_append]
          congr 1
          show [cntQ l' (.tup (bs.map ansD))] = [cntQ l' (.tup (as.map ansD))]
          rw [sum_cntQ, sum_cntQ, hbl, hbc]
  · rintro ρ S2 ⟨⟨y5, y6, y7, y8, y9, y10, y11, y12, y13, rfl⟩, b2, k2, ns, g2, hnl, hnq, hnc⟩
    dsimp only
    rw [do_ret]
    refine Does.of (v_cl1 v_var (tuple_r g2)) ?_
    have hnc : ns.map (cntQ (l - 1)) = qs.map (cntQ (l - 1)) := by rw [List.take_length] at hnc; exact hnc
    refine ⟨?_, ?_, b2.mono (by omega), k2⟩
    · cases l with
      | zero =>
        cases (show D.tup qs = .tup [] from hg)
        have : ns = [] := List.length_eq_zero_iff.mp hnl
        rw [this]; rfl
      | succ l => exact ⟨ns, rfl, by omega, fun q hq => by
          obtain ⟨l', e, h⟩ := hnq q hq
          cases e
          exact h⟩
    · cases l with
      | zero => rfl
      | succ l => rw [cntF_s, cntF_s]; exact congrArg List.sum hnc
end Lw
set_option Elab.async false
set_option linter.all false
set_option maxRecDepth 100000
set_option maxHeartbeats 4000000
set_option autoImplicit false
namespace Lw
open PySem L2 Tl

/-! ### the plan that passes on -/
def IsPass (l : Nat) (f : Fnd) : Prop := ∀ (node : D) S, TG l node → Does (f [node]) S fun v S' => (∀ k, 3 * l + 1 ≤ k → waitB k node node v = true) ∧ Kp [] S S'
theorem waitB_of {k : Nat} {n : D} {qs ms : List D} (hl : ms.length = qs.length) (h : ∀ (i : Nat) (a b : D), qs[i]? = some a → ms[i]? = some b → moveB k n a b = true) : waitB (k + 1) n (.tup qs) (.tup ms) = true := by
  rw [waitB_s]
  have hz := zip_all_of hl (fun a b => moveB k n a b) h
  show ((true && (ms.length == qs.length)) && (zipT qs ms).all fun p => moveB k n (at_ 0 p) (at_ 1 p)) = true
  rw [hz, hl]; simp
theorem get_snoc {ds : List D} {x b : D} {i : Nat} (h : (ds ++ [x])[i]? = some b) : (i < ds.length ∧ ds[i]? = some b) ∨ (i = ds.length ∧ b = x) := by
  by_cases hi : i < ds.length
  · rw [List.getElem?_append_left hi] at h
    exact .inl ⟨hi, h⟩
  · have hi2 : i = ds.length := by
      have := (List.getElem?_eq_some_iff.mp h).1
      simp at this; omega
    subst hi2
    rw [List.getElem?_append_right (Nat.le_refl _)] at h
    simp at h
    exact .inr ⟨rfl, h.symm⟩
theorem en_at {ds : List D} {i : Nat} {d : D} (h : (ds.zipIdx.map fun p => D.tup [.int p.2, p.1])[i]? = some d) : ∃ x, d = .tup [.int i, x] ∧ ds[i]? = some x := by
  rw [List.getElem?_map, List.getElem?_zipIdx] at h
  cases e : ds[i]? with
  | none => rw [e] at h; cases h
  | some x => rw [e] at h; simp at h; exact ⟨x, h.symm, rfl⟩
theorem pass_ok {l : Nat} {p : Fnd} (hp : ∀ l', l = l' + 1 → IsPass l' p) : IsPass l (B_wait_passing p) := by
  intro node S hg
  unfold B_wait_passing
  rw [does_body]
  simp only [startD, List.map_cons, List.map_nil, List.length_cons, List.length_nil, List.replicate, List.cons_append, List.nil_append, Nat.reduceAdd, Nat.reduceSub]
  rw [do_seq, do_asg]
  refine Does.of (v_new v_nil (by simp)) (Does.of v_nm ?_)
  simp only [List.set_cons_zero, List.set_cons_succ]
  have k1 : Kp [] S (S ++ [SO.lst []]) := Kp.push
  have g1 : (S ++ [SO.lst []])[S.length]? = some (.lst []) := by simp
  generalize S ++ [SO.lst []] = S1 at *
  obtain ⟨pf, hpf⟩ : ∃ n, S.length = n := ⟨_, rfl⟩
  rw [hpf] at g1 ⊢
  obtain ⟨qs, rfl, hql, hqs⟩ : ∃ qs, node = .tup qs ∧ qs.length ≤ 2 ∧ ∀ q ∈ qs, ∃ l', l = l' + 1 ∧ QG l' q := by
    cases l with
    | zero => exact ⟨[], hg, by simp, by simp⟩
    | succ l =>
      obtain ⟨qs, u1, u2, u3⟩ := hg
      exact ⟨qs, u1, u2, fun q hm => ⟨l, rfl, u3 q hm⟩⟩
  rw [do_seq]
  refine do_for (Does.of (v_en v_var) ⟨_, fun i ρ S' => (∃ y2 y3 y4 y5 y6, ρ = [some (.tup qs), some (.ref pf), y2, y3, y4, y5, y6]) ∧ Kp [] S S' ∧ ∃ ms : List D, S'[pf]? = some (.lst ms) ∧ ms.length = i ∧ ∀ (j : Nat) (a b : D), qs[j]? = some a → ms[j]? = some b → ∀ k, 3 * l ≤ k → moveB k (.tup qs) a b = true,
    ⟨⟨_, _, _, _, _, rfl⟩, k1, [], g1, rfl, fun j a b _ h => by simp at h⟩, fun _ _ _ _ => reads_en reads_d, ?_, ?_⟩)
  · rintro i d ρ S2 hd ⟨⟨y2, y3, y4, y5, y6, rfl⟩, k2, ms, g2, hml, hmm⟩
    obtain ⟨q, rfl, hqi⟩ := en_at hd
    have hi := (List.getElem?_eq_some_iff.mp hqi).1
    obtain ⟨l', rfl, as, rfl, ha1, ha3, has⟩ := hqs q (List.mem_of_getElem? hqi)
    have p2 : pf < S2.length := (List.getElem?_eq_some_iff.mp g2).1
    rw [do_seq, do_tg]
    refine Does.of v_g2 ?_
    simp only [List.set_cons_zero, List.set_cons_succ]
    rw [do_seq, do_asg]
    refine does_lc (Does.of (v_en v_var) ⟨_, fun m acc S' => Kp [] S2 S' ∧ acc.length = m ∧ ∀ (j : Nat) (a b : D), as[j]? = some a → acc[j]? = some b → ∃ w, b = .tup [.str "tell", .int j, w] ∧ ∀ k, 3 * l' + 1 ≤ k → waitB k (at_ 2 a) (at_ 2 a) w = true,
      ⟨Kp.refl, rfl, fun j a b _ h => by simp at h⟩, fun _ _ _ _ => reads_en reads_d, ?_, ?_⟩)
    · rintro m d acc S3 hd3 ⟨k3, hal, ham⟩
      obtain ⟨x, rfl, hx⟩ := en_at hd3
      have hm := (List.getElem?_eq_some_iff.mp hx).1
      obtain ⟨u, v, nn, rfl, hnn⟩ := has x (List.mem_of_getElem? hx)
      refine Does.of v_g2 (Does.of (show Vl (mYes _) S3 (.bl true) from rfl) ?_)
      dsimp only
      unfold mTup
      rw [does_bind, does_cons]
      refine Does.of v_c ?_
      rw [does_cons]
      refine Does.of v_var ?_
      rw [does_cons]
      refine call_ok (ds := [nn]) (v_cons (v_idx v_var v_c rfl) v_nil) ((hp l' rfl nn S3 hnn).imp fun w S4 ⟨hw, k4⟩ => ?_)
      refine Does.of (v_nil (ρ := [])) ?_
      rw [if_pos (by simp), does_ret]
      refine ⟨by omega, k3.trans k4, by simp [hal], fun j a b ha hb => ?_⟩
      rcases get_snoc hb with ⟨_, h⟩ | ⟨rfl, rfl⟩
      · exact ham j a b ha h
      · rw [hal, hx] at ha
        cases ha
        exact ⟨w, by rw [hal], hw⟩
    · rintro acc S3 ⟨k3, hal, ham⟩
      have hal : acc.length = as.length := by simpa using hal
      refine Does.of v_nm ?_
      simp only [List.set_cons_zero, List.set_cons_succ]
      have g3 := k3.get g2 (by simp)
      have p3 : pf < S3.length := (List.getElem?_eq_some_iff.mp g3).1
      refine do_appG (n := pf) v_var g3 (Does.of (v_tup (ds := [.str "ask", .int i, .tup acc]) (v_cons v_c (v_cons v_var (v_cons (v_cl1 v_var tuple_l) v_nil))) (by simp)) ⟨ms, g3, by omega, ⟨_, _, _, _, _, rfl⟩, Kp.back (k2.trans k3) (by omega) rfl, ms ++ [.tup [.str "ask", .int i, .tup acc]], by rw [set_get p3], by simp [hml], fun j a b ha hb k hk => ?_⟩)
      rcases get_snoc hb with ⟨_, h⟩ | ⟨rfl, rfl⟩
      · exact hmm j a b ha h k hk
      · rw [hml, hqi] at ha
        cases ha
        obtain ⟨k', rfl⟩ : ∃ k', k = k' + 1 := ⟨k - 1, by omega⟩
        refine moveB_ask hqi hal (zip_all_of hal (fun a b => moveB k' (at_ 2 a) (.tup as) b) fun t x y hx hy => ?_)
        obtain ⟨w, rfl, hw⟩ := ham t x y hx hy
        obtain ⟨u, v, nn, rfl, hnn⟩ := has x (List.mem_of_getElem? hx)
        obtain ⟨k'', rfl⟩ : ∃ k'', k' = k'' + 1 := ⟨k' - 1, by omega⟩
        exact moveB_tell hx (hw k'' (by omega))
  · rintro ρ S2 ⟨⟨y2, y3, y4, y5, y6, rfl⟩, k2, ms, g2, hml, hmm⟩
    have hml : ms.length = qs.length := by simpa using hml
    dsimp only
    rw [do_ret]
    refine Does.of (v_cl1 v_var (tuple_r g2)) ⟨fun k hk => ?_, k2⟩
    obtain ⟨k', rfl⟩ : ∃ k', k = k' + 1 := ⟨k - 1, by omega⟩
    exact waitB_of hml fun i a b ha hb => hmm i a b ha hb k' (by omega)
/-! ### the program's is_plan -/
def IsPlanOf (k : Nat) (f : Fnd) : Prop := ∀ i j n m (w1 w2 : Int) t1 t2 t S, Hou S n w1 t1 → Hou S m w2 t2 → TS i t1 → TS j t2 → Fine t → 1 + j * (i + 2) ≤ k → Vl (f [.ref n, .ref m, t]) S (.bl (waitB k t1 t2 t))
theorem plan_of_ok {k : Nat} {p : Fnd} (hp : IsWait k p) : IsPlanOf k (B_is_plan_of p) := by
  intro i j n m w1 w2 t1 t2 t S h1 h2 g1 g2 ht hk
  unfold B_is_plan_of
  exact s_body (s_ret (v_call3 (v_ht v_var h1) (v_ht v_var h2) v_var (hp i j t1 t2 t S g1 g2 ht hk)))
def IsPlanY (k : Nat) (f : Fnd) : Prop := ∀ i j n m (w : Nat) t1 t2 t S, Hou S n w t1 → Hou S m w t2 → TS i t1 → TS j t2 → Fine t → 1 + j * (i + 2) ≤ k → Vl (f [.ref n, .ref m, t]) S (.bl (waitB k t1 t2 t))
def IsPlanX (f : Fnd) : Prop := ∀ n m (w1 w2 : Int) t1 t2 t S, Hou S n w1 t1 → Hou S m w2 t2 → w1 ≠ w2 → Ex (f [.ref n, .ref m, t]) S 3
theorem is_plan_ok {k : Nat} {p1 p2 : Fnd} (h1 : IsAlk p1) (hp : IsPlanOf k p2) : IsPlanY k (B_is_plan p1 p2) ∧ IsPlanX (B_is_plan p1 p2) := by
  refine ⟨fun i j n m w t1 t2 t S u1 u2 g1 g2 ht hk => ?_, fun n m w1 w2 t1 t2 t S u1 u2 hw => ?_⟩
  · unfold B_is_plan
    exact s_body (s_then (s_expr (v_call2 v_var v_var ((h1 n m w w t1 t2 S u1 u2).1 rfl))) (s_ret (v_call3 v_var v_var v_var (hp i j n m w w t1 t2 t S u1 u2 g1 g2 ht hk))))
  · unfold B_is_plan
    refine ex_body (exs_seq1 (exs_expr ?_))
    unfold Ex mCall
    rw [show (lCons (mVar 0) (lCons (mVar 1) lNil)) (startD 3 [.ref n, .ref m, t]) = (M.ret [D.ref n, .ref m] : M (List D)) from rfl]
    exact (h1 n m w1 w2 t1 t2 S u1 u2).2 hw
theorem word_alike {th : M D} {S : Store} (h : Ex th S 3) : Vl (TB_l_word th) S (.str "alike") := by
  unfold Vl TB_l_word TS_l_word bodyD
  have e : (sExpr fun _ => th) [some .non, some (.str "told")] S = some (.ex 3 [] [some .non, some (.str "told")], S) := by
    unfold sExpr sBnd
    dsimp only
    rw [show th S = some (.exc 3 [], S) from h]
  have e2 : (sTry (sExpr fun _ => th) [⟨tbm_NotAlike, none, fun c fs => (sAsg (mC (.str "alike")) (gNm 1))⟩, ⟨tbm_HouseError, none, fun c fs => (sAsg (mC (.str "other")) (gNm 1))⟩]) [some .non, some (.str "told")] S = some (.nx [some .non, some (.str "alike")], S) := by
    unfold sTry
    rw [e]
    rfl
  show (match sSeq (sTry (sExpr fun _ => th) _) (sRet (mVar 1)) [some .non, some (.str "told")] S with
    | some (.nx ρ, S') => some (Rs.ok D.non, S')
    | some (.rt d, S') => some (Rs.ok d, S')
    | some (.ex c fs ρ, S') => some (Rs.exc c fs, S')
    | _ => none) = _
  unfold sSeq
  rw [e2]
  rfl
end Lw
set_option Elab.async false
set_option linter.all false
set_option maxRecDepth 100000
set_option maxHeartbeats 4000000
set_option autoImplicit false
namespace Lw
open PySem L2 Tl

/-! ### two trees -/
def IsTwo (f : Fnd) : Prop := ∀ (c l z : Nat) S, Bag c S → l ≤ 5 → 0 < z → c + (1 + cN (l + 1) + cN (l + 1)) ≤ LIM → Does (f [.ref 1, .int (l + 1 : Nat), .int z]) S fun v S' => (∃ (w : Nat) (t1 t2 : D), v = .tup [.int w, t1, t2] ∧ 1 ≤ w ∧ w ≤ 3 ∧ GN w (l + 1) 0 (ones w) t1 ∧ GN w (l + 1) 0 (ones w) t2 ∧ cntF (l + 1) t1 ≤ z + 5 * (l + 1) ∧ cntF (l + 1) t2 ≤ z + 5 * (l + 1)) ∧ Bag (c + (1 + cN (l + 1) + cN (l + 1))) S' ∧ Kp [0, 1] S S'
theorem two_ok {p q : Fnd} (hp : IsPick p) (hq : IsTree q) : IsTwo (B_l_two p q) := by
  intro c l z S hb hl hz hc
  unfold B_l_two
  simp only [does_body, do_seq, do_ret, do_retN, do_if, do_asg, do_par, do_expr, do_skip, do_tg, does_ret, does_bind, does_noX, does_call, startD, mOp, mB, mAnd, mOr, mNot, mIte, mChain, mC, mVar, lCons, lNil, mTup, mLst, mCl, mIsi, mSl, oSome, oNo, mNeg, mYes, mIt, gNm, gTp, gsCons, gsNil, tyNm, List.map_cons, List.map_nil, List.length_cons, List.length_nil, List.replicate, List.cons_append, List.nil_append, List.append_nil, List.getElem?_cons_zero, List.getElem?_cons_succ, List.set_cons_zero, List.set_cons_succ, Option.bind_some, if_true, Nat.reduceSub, Nat.reduceAdd, Nat.reduceEqDiff, if_pos, lenD, ordD, wipeD, Nat.sub_self, Nat.add_one_sub_one, reduceIte, Option.bind]
  refine (hp c 3 S hb (by omega) (by decide) (by decide)).imp fun v S1 ⟨⟨i, e1, i0, i1⟩, b1, k1, _⟩ => ?_
  subst e1
  refine add_ok ?_
  obtain ⟨w, hw⟩ : ∃ m : Nat, 1 + i = m := ⟨(1 + i).toNat, by omega⟩
  rw [hw]
  refine (hq (c + 1) w l z S1 b1 (by omega) (by omega) (by omega) hz (by omega)).imp fun v S2 ⟨_, g2, c2, b2, k2⟩ => ?_
  refine (hq (c + 1 + cN (l + 1)) w l z S2 b2 (by omega) (by omega) (by omega) hz (by omega)).imp fun v' S3 ⟨_, g3, c3, b3, k3⟩ => ?_
  rw [if_pos (by decide)]
  rw [does_ret]
  exact ⟨⟨w, v, v', rfl, by omega, by omega, g2, g3, c2, c3⟩, b3.mono (by omega), (k1.trans k2).trans k3⟩
theorem Kp.new {S S2 : Store} {o : SO} (b : Kp [0, 1, S.length] (S ++ [o]) S2) : Kp [0, 1] S S2 := ⟨by have := b.1; simp at this; omega, fun j hj hn => by
  rw [b.2 j (by simp; omega) (fun h => by simp only [List.mem_cons, List.not_mem_nil, or_false] at h hn; omega), List.getElem?_append_left hj]⟩
def IsPassing (f : Fnd) : Prop := ∀ (l n : Nat) (w : Int) (t : D) S, l ≤ 5 → TG l t → Hou S n w t → Does (f [.ref n]) S fun v S' => (∃ x, v = .tup [.tup [fr (1, 1), x]] ∧ ∀ k, 3 * l + 1 ≤ k → waitB k t t x = true) ∧ Kp [] S S'
theorem passing_ok {p : Fnd} (hp : ∀ l, l ≤ 5 → IsPass l p) : IsPassing (B_passing p) := by
  intro l n w t S hl ht hh
  unfold B_passing
  rw [does_body]
  simp only [startD, List.map_cons, List.map_nil, List.length_cons, List.length_nil, List.replicate, List.cons_append, List.nil_append, Nat.reduceAdd, Nat.reduceSub]
  rw [do_ret]
  unfold mTup
  rw [does_bind, does_cons, does_bind, does_cons]
  refine Does.of v_c ?_
  rw [does_cons]
  refine call_ok (ds := [t]) (v_cons (v_ht v_var hh) v_nil) ((hp l hl t S ht).imp fun v S1 ⟨hv, k1⟩ => ?_)
  refine Does.of (v_nil (ρ := [])) ?_
  rw [if_pos (by simp), does_ret]
  refine Does.of (v_nil (ρ := [])) ?_
  rw [if_pos (by simp), does_ret]
  exact ⟨⟨v, rfl, hv⟩, k1⟩
theorem pick_callB {pk : Fnd} (hs : IsPick pk) {c n v : Nat} {e : Ev} {ρ : Tl.Env} {S : Store} {P : D → Store → Prop} (hb : Bag c S) (hc : c < LIM) (h0 : ρ[v]? = some (some (.ref 1))) (he : Vl (e ρ) S (.int n)) (hl : 0 < n) (hl2 : n < 1000000)
    (hp : ∀ (i : Nat) S', i < n → Bag (c + 1) S' → Kp [0, 1] S S' → S'.length = S.length → P (.int i) S') : Does (mCall pk 2 (lCons (mVar v) (lCons e lNil)) ρ) S P := by
  rw [does_call]
  refine Does.of (v_cons (v_var h0) (v_cons he v_nil)) ?_
  rw [if_pos (show [D.ref 1, D.int n].length = 2 from rfl)]
  refine (hs c n S hb hc (by omega) (by omega)).imp fun v S' ⟨⟨i, e1, i0, i1⟩, b, k, l⟩ => ?_
  subst e1
  obtain ⟨j, rfl⟩ : ∃ j : Nat, i = j := ⟨i.toNat, by omega⟩
  exact hp j S' (by omega) b k l
/-! ### the law -/
theorem v_isnot {f : Ev} {ρ : Tl.Env} {S : Store} {a : Bool} (h : Vl (f ρ) S (.bl a)) (ha : a = true) : Vl (mB (mOp (isD true) f (mC (.bl true))) ρ) S (.bl false) := by
  subst ha
  exact v_B (v_op h v_c rfl)
theorem fine_of {d : D} (h : FG 98 6 d) : Fine d := (h.mono (by decide) (by decide) : FG 100 20 d).fine
theorem sml_fine {d s : Nat} {t : D} (h : Sml d s t) : Fine t := (h.fg.mono (by decide) (by decide) : FG 100 20 t).fine
theorem law_ok {p1 p2 p3 p4 p5 p6 p7 p8 p9 p10 p11 p12 p13 : Fnd} (hH : IsHouse p1) (hJ : IsPlanY 16 p2) (hX : IsPlanX p2) (hPs : IsPassing p3) (hB : IsBag p4) (hP : IsPick p5) (hO : IsOdd p6) (hS : IsSpoilt 16 p7) (hW : IsLWait 16 p8) (hL : IsWait 16 p9) (hR : ∀ l, l ≤ 3 → IsRew l p10) (hT : IsTwo p11) (hF : IsFlag p12) (hE : IsEdge 16 p13) :
    ∀ ns : List Int, ns.length ≤ 63 → Does (B_law p1 p2 p3 p4 p5 p6 p7 p8 p9 p10 p11 p12 p13 [.scr ns]) [] fun v _ => v = .bl true := by
  intro ns hns
  unfold B_law
  rw [does_body]
  simp only [startD, List.map_cons, List.map_nil, List.length_cons, List.length_nil, List.replicate, List.cons_append, List.nil_append, Nat.reduceAdd, Nat.reduceSub]
  refine do_asgM (call_ok (v_cons v_var v_nil) ((hB ns hns).imp ?_))
  rintro v S1 ⟨rfl, b1⟩
  simp only [List.set_cons_zero, List.set_cons_succ]
  have lim : 1000 * 100 ^ 16 ≤ LIM := by decide
  have limc : 1000000000 ≤ 100 ^ 16 := by decide
  rw [do_seq, do_asg, does_call, does_cons]
  refine Does.of v_var ?_
  rw [does_cons, does_op]
  refine Does.of v_c ?_
  refine pick_callB hP (n := 3) b1 (by omega) rfl v_c (by decide) (by decide) fun l S2 hl b2 k2 _ => ?_
  refine Does.of (show Vl (addD (.int 1) (.int (l : Int))) S2 (.int (l + 1 : Nat)) by show Vl (M.ret (D.int (1 + (l : Int)))) S2 _; rw [show (1 + (l : Int)) = ((l + 1 : Nat) : Int) by omega]; rfl) ?_
  refine Does.of (v_cons v_c v_nil) ?_
  rw [if_pos (show [D.ref 1, D.int (l + 1 : Nat), D.int 8].length = 3 from rfl)]
  have cl : cN (l + 1) ≤ 100000 := by
    have : l = 0 ∨ l = 1 ∨ l = 2 := by omega
    rcases this with rfl | rfl | rfl <;> simp [cN]
  refine (hT (1 + 1) l 8 S2 b2 (by omega) (by decide) (by omega)).imp fun v S3 ⟨⟨w, t1, t2, e3, w1, w3, g1, g2, n1, n2⟩, b3, k3⟩ => ?_
  subst e3
  refine Does.of v_g3 ?_
  simp only [List.set_cons_zero, List.set_cons_succ]
  have b3 : Bag 1000000 S3 := b3.mono (by omega)
  have h1 := gn_ht (l + 1) 0 (ones w) t1 (by omega) g1
  have h2 := gn_ht (l + 1) 0 (ones w) t2 (by omega) g2
  have tg1 := gn_tg (l + 1) 0 (ones w) t1 g1
  have tg2 := gn_tg (l + 1) 0 (ones w) t2 g2
  have ts1 := tg_ts _ _ tg1
  have ts2 := tg_ts _ _ tg2
  have fu : ∀ i j, i ≤ 3 → j ≤ 3 → 1 + j * (i + 2) ≤ 16 := fun i j hi hj => by
    have := Nat.mul_le_mul hj (show i + 2 ≤ 5 by omega)
    omega
  have fu2 : 1 + (l + 1) * ((l + 1) + 2) ≤ 16 := fu _ _ (by omega) (by omega)
  -- the houses
  rw [do_seq, do_asg]
  unfold mTup
  rw [does_bind, does_cons]
  refine mk_house hH (v_cons v_var (v_cons v_var v_nil)) w1 (by omega) (l := l + 1) (by omega) h1 (by omega) ?_
  rw [does_cons]
  refine mk_house hH (v_cons v_var (v_cons v_var v_nil)) w1 (by omega) (l := l + 1) (by omega) h2 (by omega) ?_
  refine Does.of (v_nil (ρ := [])) ?_
  rw [if_pos (by simp), does_ret]
  refine Does.of v_g2 ?_
  simp only [List.set_cons_zero, List.set_cons_succ]
  have hu1 : Hou ((S3 ++ [house w t1]) ++ [house w t2]) S3.length w t1 := hou_house (by rw [List.getElem?_append_left (by simp)]; simp)
  have hu2 : Hou ((S3 ++ [house w t1]) ++ [house w t2]) (S3 ++ [house w t1]).length w t2 := hou_house (by simp)
  have b4 := (b3.keep (Kp.push (xs := []) (o := house w t1)) (by simp) (by simp)).keep (Kp.push (xs := []) (o := house w t2)) (by simp) (by simp)
  have s3 := b3.two
  have hl4 : (S3 ++ [house w t1]).length = S3.length + 1 := by simp
  generalize (S3 ++ [house w t1]) ++ [house w t2] = S4 at *
  rw [hl4] at hu2 ⊢
  obtain ⟨n, hn⟩ : ∃ n, S3.length = n := ⟨_, rfl⟩
  rw [hn] at hu1 hu2 ⊢
  have nn : n ∉ [0, 1] := not01 (by omega)
  have nm : n + 1 ∉ [0, 1] := not01 (by omega)
  clear hl4 hn
  -- the turns
  rw [do_seq]
  refine do_for (does_rg (Does.of v_c ⟨8, rfl, by decide, _, fun i ρ S' => (∃ y7 y8 y9 y10, ρ = [some (.scr ns), some (.ref 1), some (.int w), some t1, some t2, some (.ref n), some (.ref (n + 1)), y7, y8, y9, y10] ∧ (0 < i → ∃ p, y8 = some p ∧ Fine p)) ∧ Bag (1000000 + i * (10 * 100 ^ 16)) S' ∧ Kp [0, 1] S4 S',
    ⟨⟨_, _, _, _, rfl, fun h => absurd h (by decide)⟩, by simpa using b4, Kp.refl⟩, fun _ _ _ _ => reads_rg, ?_, ?_⟩))
  · rintro i d ρ S5 hd ⟨⟨y7, y8, y9, y10, rfl, _⟩, b5, k5⟩
    have hi : i < 8 := by
      have := (List.getElem?_eq_some_iff.mp hd).1
      simpa using this
    rw [List.getElem?_map, List.getElem?_range (by simpa using hi)] at hd
    cases hd
    have hmul : (i + 1) * (10 * 100 ^ 16) = i * (10 * 100 ^ 16) + 10 * 100 ^ 16 := Nat.succ_mul _ _
    have hle : (i + 1) * (10 * 100 ^ 16) ≤ 8 * (10 * 100 ^ 16) := Nat.mul_le_mul_right _ (by omega)
    obtain ⟨C, hC⟩ : ∃ C, 100 ^ 16 = C := ⟨_, rfl⟩
    obtain ⟨c5, hc5⟩ : ∃ c, 1000000 + i * (10 * 100 ^ 16) = c := ⟨_, rfl⟩
    rw [hc5] at b5
    rw [do_seq, do_tg]
    refine Does.of v_nm ?_
    simp only [List.set_cons_zero, List.set_cons_succ]
    rw [do_seq, do_asg, does_call]
    rw [does_cons]
    refine Does.of v_var ?_
    rw [does_cons]
    refine Does.of v_var ?_
    rw [does_cons]
    refine Does.of v_var ?_
    rw [does_cons]
    refine Does.of (v_new (ds := [.int 30]) (v_cons v_c v_nil) (by simp)) ?_
    refine Does.of (v_nil (ρ := [])) ?_
    rw [if_pos (show [D.ref 1, t1, t2, D.ref S5.length].length = 4 from rfl)]
    have b6 := b5.keep (Kp.push (xs := []) (o := SO.lst [.int 30])) (by simp) (by simp)
    refine (hW c5 (l + 1) (l + 1) t1 t2 S5.length 30 _ b6 (by omega) (show (S5 ++ [SO.lst [.int 30]])[S5.length]? = some (.lst [.int 30]) by simp) b5.two tg1 tg2 fu2).imp fun pl S6 ⟨hpl, b7, k7, _⟩ => ?_
    have k56 : Kp [0, 1] S4 S6 := k5.trans k7.new
    refine Does.of v_nm ?_
    simp only [List.set_cons_zero, List.set_cons_succ]
    have sm := (plan_sml 16 (l + 1) (l + 1) t1 tg1).1 t2 pl tg2 hpl
    have fpl : Fine pl := sml_fine sm
    have a1 := hu1.keep k56 nn
    have a2 := hu2.keep k56 nm
    refine do_ifR (v_isnot (v_call3 v_var v_var v_var (hJ (l + 1) (l + 1) n (n + 1) w t1 t2 pl S6 a1 a2 ts1 ts2 fpl fu2)) hpl) (fun h => (nomatch h)) fun _ => ?_
    -- the bounds
    rw [do_seq]
    refine do_for (does_rg (Does.of v_c ⟨5, rfl, by decide, _, fun j ρ S' => (∃ y9 y10, ρ = [some (.scr ns), some (.ref 1), some (.int w), some t1, some t2, some (.ref n), some (.ref (n + 1)), some (.int (0 + (i : Int))), some pl, y9, y10]) ∧ Bag (c5 + 100 ^ 16 + j * 100 ^ 16) S' ∧ Kp [0, 1] S4 S',
      ⟨⟨_, _, rfl⟩, by simpa using b7, k56⟩, fun _ _ _ _ => reads_rg, ?_, ?_⟩))
    · rintro j d ρ S7 hd7 ⟨⟨y9, y10, rfl⟩, b8, k8⟩
      have hj : j < 5 := by
        have := (List.getElem?_eq_some_iff.mp hd7).1
        simpa using this
      have hmul2 : (j + 1) * 100 ^ 16 = j * 100 ^ 16 + 100 ^ 16 := Nat.succ_mul _ _
      have hle2 : (j + 1) * 100 ^ 16 ≤ 5 * 100 ^ 16 := Nat.mul_le_mul_right _ (by omega)
      rw [do_seq, do_tg]
      refine Does.of v_nm ?_
      simp only [List.set_cons_zero, List.set_cons_succ]
      rw [do_seq, do_asg]
      refine call_ok (ds := [.ref 1, t1, t2, pl]) (v_cons v_var (v_cons v_var (v_cons v_var (v_cons v_var v_nil)))) ((hE (c5 + 100 ^ 16 + j * 100 ^ 16) (l + 1) (l + 1) t1 t2 pl S7 b8 (by omega) tg1 tg2 hpl).imp fun x S8 ⟨fx, b9, k9⟩ => ?_)
      refine Does.of v_nm ?_
      simp only [List.set_cons_zero, List.set_cons_succ]
      have k89 := k8.trans k9
      have hx := hJ (l + 1) (l + 1) n (n + 1) w t1 t2 x S8 (hu1.keep k89 nn) (hu2.keep k89 nm) ts1 ts2 (fine_of fx) fu2
      have hx2 := hL (l + 1) (l + 1) t1 t2 x S8 ts1 ts2 (fine_of fx) fu2
      refine do_skip1 (Vl.to (v_not (v_B (v_call2 (v_call3 v_var v_var v_var hx) (v_call3 v_var v_var v_var hx2) (hF _ _ S8)))) (by simp)) ⟨⟨_, _, rfl⟩, by rw [hmul2]; exact b9.mono (by omega), k89⟩
    · rintro ρ S7 ⟨⟨y9, y10, rfl⟩, b8, k8⟩
      have b8 : Bag (c5 + 100 ^ 16 + 5 * 100 ^ 16) S7 := by simpa using b8
      dsimp only
      rw [do_seq, do_asg]
      have fin : ∀ (x : D) (S8 : Store), Fine x → Bag (c5 + 7 * 100 ^ 16) S8 → Kp [0, 1] S7 S8 → DoS (sIf (mNot (mB (mCall p12 2 (lCons (mCall p2 3 (lCons (mVar 5) (lCons (mVar 6) (lCons (mVar 10) lNil)))) (lCons (mCall p9 3 (lCons (mVar 3) (lCons (mVar 4) (lCons (mVar 10) lNil)))) lNil))))) (sRet (mC (.bl false))) sSkip)
          [some (.scr ns), some (.ref 1), some (.int w), some t1, some t2, some (.ref n), some (.ref (n + 1)), some (.int (0 + (i : Int))), some pl, y9, some x] S8 fun r S' => match r with
            | .nx ρ' => (∃ y7 y8 y9 y10, ρ' = [some (.scr ns), some (.ref 1), some (.int w), some t1, some t2, some (.ref n), some (.ref (n + 1)), y7, y8, y9, y10] ∧ (0 < i + 1 → ∃ p, y8 = some p ∧ Fine p)) ∧ Bag (1000000 + (i + 1) * (10 * 100 ^ 16)) S' ∧ Kp [0, 1] S4 S'
            | _ => False := fun x S8 fx b9 k9 => by
        have k89 := k8.trans k9
        have hx := hJ (l + 1) (l + 1) n (n + 1) w t1 t2 x S8 (hu1.keep k89 nn) (hu2.keep k89 nm) ts1 ts2 fx fu2
        have hx2 := hL (l + 1) (l + 1) t1 t2 x S8 ts1 ts2 fx fu2
        exact do_skip1 (Vl.to (v_not (v_B (v_call2 (v_call3 v_var v_var v_var hx) (v_call3 v_var v_var v_var hx2) (hF _ _ S8)))) (by simp)) ⟨⟨_, _, _, _, rfl, fun _ => ⟨pl, rfl, fpl⟩⟩, b9.mono (by omega), k89⟩
      refine does_ite (k := decide ((0 + (i : Int)) < 7)) (v_B (v_op v_var v_c rfl)) (fun z => ?_) fun z => ?_
      · refine call_ok (ds := [.ref 1, pl]) (v_cons v_var (v_cons v_var v_nil)) ((hS (c5 + 100 ^ 16 + 5 * 100 ^ 16) pl S7 b8 (by omega) sm.fg (by have := sm.dp; omega) ?_).imp fun x S8 ⟨fx, b9, k9⟩ => ?_)
        · have h4 : 3 * 4 ^ (l + 1 + (l + 1) + 1) ≤ 3 * 4 ^ 7 := Nat.mul_le_mul_left _ (Nat.pow_le_pow_right (by decide) (by omega))
          have h5 : 3 * 4 ^ 7 ≤ 400000 := by decide
          exact Nat.le_trans sm.sz (Nat.le_trans h4 h5)
        · refine Does.of v_nm ?_
          simp only [List.set_cons_zero, List.set_cons_succ]
          exact (fin x S8 (fine_of fx) (b9.mono (by omega)) k9).imp fun r S' h => by cases r <;> first | exact h | exact h.elim
      · refine call_ok (ds := [.ref 1]) (v_cons v_var v_nil) ((hO (c5 + 100 ^ 16 + 5 * 100 ^ 16) S7 b8 (by omega)).imp fun x S8 ⟨fx, b9, k9⟩ => ?_)
        refine Does.of v_nm ?_
        simp only [List.set_cons_zero, List.set_cons_succ]
        exact (fin x S8 (fine_of (fx.mono (by decide) (by decide))) (b9.mono (by omega)) k9).imp fun r S' h => by cases r <;> first | exact h | exact h.elim
  · rintro ρ S5 ⟨⟨y7, y8, y9, y10, rfl, hy⟩, b5, k5⟩
    obtain ⟨pl, rfl, fpl⟩ := hy (by simp)
    have b5 : Bag (1000000 + 8 * (10 * 100 ^ 16)) S5 := by simpa using b5
    dsimp only
    -- passing
    rw [do_seq]
    refine do_ifB (does_B (does_op.mpr ?_))
    refine (show Does (mCall p2 3 (lCons (mVar 5) (lCons (mVar 5) (lCons (mOp idxD (mOp idxD (mCall p3 1 (lCons (mVar 5) lNil)) (mC (.int 0))) (mC (.int 1))) lNil))) _) S5 fun d S6 => d = .bl true ∧ Kp [] S5 S6 from ?_).imp fun d S6 ⟨e, k6⟩ => ?_
    · rw [does_call, does_cons]
      refine Does.of v_var ?_
      rw [does_cons]
      refine Does.of v_var ?_
      rw [does_cons, does_op, does_op]
      refine call_ok (ds := [.ref n]) (v_cons v_var v_nil) ((hPs (l + 1) n w t1 S5 (by omega) tg1 (hu1.keep k5 nn)).imp fun v S6 ⟨⟨x, e, hx⟩, k6⟩ => ?_)
      subst e
      refine Does.of v_c (Does.of (show Vl (idxD (.tup [.tup [fr (1, 1), x]]) (.int 0)) S6 (.tup [fr (1, 1), x]) from rfl) (Does.of v_c (Does.of (show Vl (idxD (.tup [fr (1, 1), x]) (.int 1)) S6 x from rfl) ?_)))
      refine Does.of (v_nil (ρ := [])) ?_
      rw [if_pos (show [D.ref n, D.ref n, x].length = 3 from rfl)]
      have hw16 := hx 16 (by omega)
      have sm := (plan_sml 16 (l + 1) (l + 1) t1 tg1).1 t1 x tg1 hw16
      have a1 := (hu1.keep k5 nn).up k6
      have := hJ (l + 1) (l + 1) n n w t1 t1 x S6 a1 a1 ts1 ts1 (sml_fine sm) fu2
      rw [hw16] at this
      exact Does.of this ⟨rfl, k6⟩
    subst e
    refine Does.of v_c (Does.of (show Vl (isD true (.bl true) (.bl true)) S6 (.bl false) from rfl) ⟨false, rfl, ⟨false, rfl, fun h => (nomatch h), fun _ => ?_⟩⟩)
    rw [do_skip]
    dsimp only
    have b6 := b5.keep k6 (by simp) (by simp)
    have k46 : Kp [0, 1] S4 S6 := k5.trans (k6.more (by simp))
    have a1 := hu1.keep k46 nn
    have a2 := hu2.keep k46 nm
    refine do_ifR (k := false) (Vl.to (v_not (v_B (v_call2 (v_call3 v_var v_var v_var (hJ (l + 1) (l + 1) (n + 1) (n + 1) w t2 t2 pl S6 a2 a2 ts2 ts2 fpl fu2)) (v_call3 v_var v_var v_var (hL (l + 1) (l + 1) t2 t2 pl S6 ts2 ts2 fpl fu2)) (hF _ _ S6)))) (by simp)) (fun h => (nomatch h)) fun _ => ?_
    -- another number of worlds
    rw [do_seq, do_asg]
    have wp : Vl (mOp addD (mVar 2) (mC (.int 1)) [some (.scr ns), some (.ref 1), some (.int w), some t1, some t2, some (.ref n), some (.ref (n + 1)), y7, some pl, y9, y10]) S6 (.int (w + 1 : Nat)) := v_op v_var v_c rfl
    have hargs : Does ((lCons (mOp addD (mVar 2) (mC (.int 1))) (lCons (mCall p10 4 (lCons (mVar 1) (lCons (mOp addD (mVar 2) (mC (.int 1))) (lCons (mVar 3) (lCons (mOp mulD (mTup (lCons (mTup (lCons (mC (.int 1)) (lCons (mC (.int 1)) lNil))) lNil)) (mOp addD (mVar 2) (mC (.int 1)))) lNil))))) lNil)) [some (.scr ns), some (.ref 1), some (.int w), some t1, some t2, some (.ref n), some (.ref (n + 1)), y7, some pl, y9, y10]) S6
        fun ds S7 => ∃ t3, ds = [.int (w + 1 : Nat), t3] ∧ GN (w + 1) (l + 1) 0 (ones (w + 1)) t3 ∧ cntF (l + 1) t3 = cntF (l + 1) t1 ∧ Kp [0, 1] S6 S7 := by
      rw [does_cons]
      refine Does.of wp ?_
      rw [does_cons]
      have hm : Vl (mOp mulD (mTup (lCons (mTup (lCons (mC (.int 1)) (lCons (mC (.int 1)) lNil))) lNil)) (mOp addD (mVar 2) (mC (.int 1))) [some (.scr ns), some (.ref 1), some (.int w), some t1, some t2, some (.ref n), some (.ref (n + 1)), y7, some pl, y9, y10]) S6 (.tup ((ones (w + 1)).map fr)) := by
        refine Vl.to (v_op (x := .tup [fr (1, 1)]) (y := .int (w + 1 : Nat)) (v_tup (v_cons (v_tup (v_cons v_c (v_cons v_c v_nil)) (by simp)) v_nil) (by simp)) wp (v_mulT (by omega) (by simp))) ?_
        rw [ones_D]
      refine call_ok (ds := [.ref 1, .int (w + 1 : Nat), t1, .tup ((ones (w + 1)).map fr)]) (v_cons v_var (v_cons wp (v_cons v_var (v_cons hm v_nil)))) ?_
      have l100 : 100 ^ (l + 1) ≤ 100 ^ 3 := Nat.pow_le_pow_right (by decide) (by omega)
      have l3 : 100 ^ 3 = 1000000 := by decide
      refine (hR (l + 1) (by omega) (1000000 + 8 * (10 * 100 ^ 16)) w 0 (w + 1) 0 (ones w) (ones (w + 1)) t1 S6 b6 g1 (by simp [ones]) (by omega) (by omega) (fun p hp => by rw [List.eq_of_mem_replicate hp]; exact (⟨by decide, by decide, by decide, by decide, by decide⟩ : Ch 0 (1, 1))) (by omega) (by omega)).imp fun t3 S7 ⟨g3, c3, b7, k7⟩ => ?_
      exact Does.of (v_nil (ρ := [])) ⟨t3, rfl, g3, c3, k7⟩
    obtain ⟨ds, S7, ea, t3, rfl, g3, c3, k7⟩ := hargs
    have h3 := gn_ht (l + 1) 0 (ones (w + 1)) t3 (by omega) g3
    have ts3 := tg_ts _ _ (gn_tg (l + 1) 0 (ones (w + 1)) t3 g3)
    have mk := mk_house hH (fs := fun _ => M.ret [.int (w + 1 : Nat), t3]) (ρ := []) (S := S7) (w := w + 1) (l := l + 1) (tree := t3) (P := fun d S8 => d = .ref S7.length ∧ S8 = S7 ++ [house (w + 1 : Nat) t3]) rfl (by omega) (by omega) (by omega) h3 (by omega) ⟨rfl, rfl⟩
    have mk2 : Does (mMake 0 p1 3 (lCons (mOp addD (mVar 2) (mC (.int 1))) (lCons (mCall p10 4 (lCons (mVar 1) (lCons (mOp addD (mVar 2) (mC (.int 1))) (lCons (mVar 3) (lCons (mOp mulD (mTup (lCons (mTup (lCons (mC (.int 1)) (lCons (mC (.int 1)) lNil))) lNil)) (mOp addD (mVar 2) (mC (.int 1)))) lNil))))) lNil)) [some (.scr ns), some (.ref 1), some (.int w), some t1, some t2, some (.ref n), some (.ref (n + 1)), y7, some pl, y9, y10]) S6 fun d S8 => d = .ref S7.length ∧ S8 = S7 ++ [house (w + 1 : Nat) t3] := by
      unfold mMake at mk ⊢
      rw [does_bind] at mk ⊢
      refine Does.of ea ?_
      obtain ⟨a, b, e, h⟩ := mk
      cases (show some ((Rs.ok [D.int (w + 1 : Nat), t3] : Rs (List D)), S7) = some (.ok a, b) from e)
      exact h
    refine mk2.imp fun d S8 ⟨e, e8⟩ => ?_
    subst e
    refine Does.of v_nm ?_
    simp only [List.set_cons_zero, List.set_cons_succ]
    have k78 : Kp [] S7 S8 := by rw [e8]; exact Kp.push
    have a3 : Hou S8 S7.length (w + 1 : Nat) t3 := hou_house (by rw [e8]; simp)
    have a1' := (a1.keep k7 nn).up k78
    have n1w : (w : Int) ≠ ((w + 1 : Nat) : Int) := by omega
    have x1 := word_alike (th := mCall p2 3 (lCons (mVar 5) (lCons (mVar 9) (lCons (mVar 8) lNil))) [some (.scr ns), some (.ref 1), some (.int w), some t1, some t2, some (.ref n), some (.ref (n + 1)), y7, some pl, some (.ref S7.length), y10]) (S := S8) (by
      unfold Ex mCall
      exact hX n S7.length w (w + 1 : Nat) t1 t3 pl S8 a1' a3 n1w)
    have x2 := word_alike (th := mCall p2 3 (lCons (mVar 9) (lCons (mVar 5) (lCons (mC .non) lNil))) [some (.scr ns), some (.ref 1), some (.int w), some t1, some t2, some (.ref n), some (.ref (n + 1)), y7, some pl, some (.ref S7.length), y10]) (S := S8) (by
      unfold Ex mCall
      exact hX S7.length n (w + 1 : Nat) w t3 t1 .non S8 a3 a1' (Ne.symm n1w))
    have ca : PyData.canLay0 (.str ("alike" : Str)) = true := by decide +kernel
    refine do_ifR (k := false) (v_B (v_op x1 v_c (Vl.to (v_neS' ca ca) (by simp)))) (fun h => (nomatch h)) fun _ => ?_
    rw [do_ret]
    exact Does.of (v_op x2 v_c (v_eqS ca ca)) (by simp)
end Lw
set_option Elab.async false
set_option linter.all false
set_option maxRecDepth 100000
set_option maxHeartbeats 4000000
set_option autoImplicit false
namespace Lw
open PySem L2 Tl

/-! ### each def at its depth -/
theorem up {k n : Nat} (h : n + 1 ≤ k) : ∃ j, k = j + 1 ∧ n ≤ j := ⟨k - 1, by omega, by omega⟩
theorem r_is_integer (k : Nat) (h : 1 ≤ k) : IsInteger (run k 0) := by
  obtain ⟨j, rfl, hj⟩ := up h; rw [run0]; exact (fun d S hd => is_integer_ok hd S) 
theorem r_is_within (k : Nat) (h : 2 ≤ k) : IsWithin (run k 1) := by
  obtain ⟨j, rfl, hj⟩ := up h; rw [run1]; exact is_within_ok (r_is_integer j (by omega))
theorem r_is_sized (k : Nat) (h : 1 ≤ k) : IsSized (run k 2) := by
  obtain ⟨j, rfl, hj⟩ := up h; rw [run2]; exact is_sized_ok 
theorem r_is_triple (k : Nat) (h : 1 ≤ k) : IsTriple (run k 4) := by
  obtain ⟨j, rfl, hj⟩ := up h; rw [run4]; exact is_triple_ok 
theorem r_is_pair (k : Nat) (h : 1 ≤ k) : IsPair (run k 3) := by
  obtain ⟨j, rfl, hj⟩ := up h; rw [run3]; exact is_pair_ok 
theorem r_divisor (k : Nat) (h : 1 ≤ k) : IsDivisor (run k 6) := by
  obtain ⟨j, rfl, hj⟩ := up h; rw [run6]; exact is_divisor_ok 
theorem r_is_fraction (k : Nat) (h : 2 ≤ k) : IsFrac (run k 10) := by
  obtain ⟨j, rfl, hj⟩ := up h; rw [run10]; exact is_fraction_ok (r_is_integer j (by omega)) (r_is_pair j (by omega)) (r_divisor j (by omega))
theorem r_is_chance (k : Nat) (h : 3 ≤ k) : IsChance (run k 11) := by
  obtain ⟨j, rfl, hj⟩ := up h; rw [run11]; exact is_chance_ok (r_is_fraction j (by omega))
theorem r_is_word (k : Nat) (h : 3 ≤ k) : IsWord (run k 12) := by
  obtain ⟨j, rfl, hj⟩ := up h; rw [run12]; exact is_word_ok (r_is_within j (by omega)) (r_is_sized j (by omega))
theorem r_is_answer (k : Nat) (h : 4 ≤ k) : IsAns (run k 13) := by
  obtain ⟨j, rfl, hj⟩ := up h; rw [run13]; exact is_answer_ok (r_is_sized j (by omega)) (r_is_triple j (by omega)) (r_is_chance j (by omega)) (r_is_word j (by omega))
theorem r_lowest (k : Nat) (h : 2 ≤ k) : IsLowest (run k 7) := by
  obtain ⟨j, rfl, hj⟩ := up h; rw [run7]; exact is_lowest_ok (r_divisor j (by omega))
theorem r_plus (k : Nat) (h : 3 ≤ k) : IsPlus (run k 8) := by
  obtain ⟨j, rfl, hj⟩ := up h; rw [run8]; exact is_plus_ok (r_lowest j (by omega))
theorem r_total (k : Nat) (h : 4 ≤ k) : IsTotal (run k 9) := by
  obtain ⟨j, rfl, hj⟩ := up h; rw [run9]; exact is_total_ok (r_plus j (by omega))
theorem r_wrong_in_node_q : ∀ (l k : Nat), 8 + 2 * l ≤ k → IsWN l (run k 15) ∧ IsWQ l (run (k + 1) 16)
  | l, k, h => by
    have hn : IsWN l (run k 15) := by
      obtain ⟨j, rfl, hj⟩ : ∃ j, k = j + 1 ∧ 7 + 2 * l ≤ j := up (by omega)
      rw [run15]
      refine wrong_node_ok (r_is_sized j (by omega)) fun l' e => ?_
      subst e
      obtain ⟨i, rfl, hi⟩ : ∃ i, j = i + 1 ∧ 8 + 2 * l' ≤ i := up (by omega)
      exact (r_wrong_in_node_q l' i hi).2
    refine ⟨hn, ?_⟩
    rw [run16]
    obtain ⟨j, rfl, hj⟩ : ∃ j, k = j + 1 ∧ 7 + 2 * l ≤ j := up (by omega)
    exact wrong_ques_ok (r_is_sized _ (by omega)) (r_is_answer _ (by omega)) (r_total j (by omega)) hn
theorem r_wrong_in_node (l k : Nat) (h : 8 + 2 * l ≤ k) : IsWN l (run k 15) := (r_wrong_in_node_q l k h).1
theorem r_count_answers : ∀ (l k : Nat), 1 + l ≤ k → IsCnt l (run k 17)
  | l, k, h => by
    obtain ⟨j, rfl, hj⟩ : ∃ j, k = j + 1 ∧ 0 + l ≤ j := up (by omega)
    rw [run17]
    refine count_ok  fun l' e => ?_
    subst e
    exact r_count_answers l' j (by omega)
theorem r_House (k : Nat) (h : 23 ≤ k) : IsHouse (run k 18) := by
  obtain ⟨j, rfl, hj⟩ := up h; rw [run18]; exact house_ok (r_is_within j (by omega)) (fun l hl => (r_wrong_in_node l j (by omega))) (fun l hl => (r_count_answers l j (by omega)))
theorem r_check_alike (k : Nat) (h : 1 ≤ k) : IsAlk (run k 19) := by
  obtain ⟨j, rfl, hj⟩ := up h; rw [run19]; exact alike_ok 
theorem r_is_wait_m : ∀ (f k : Nat), 4 + f ≤ k → IsWait f (run k 20) ∧ IsMove f (run k 21)
  | 0, k, h => ⟨fun i j n g t S _ _ _ h => by omega, fun i j n g t S _ _ _ h => by omega⟩
  | f + 1, k, h => by
    obtain ⟨j, rfl, hj⟩ : ∃ j, k = j + 1 ∧ 4 + f ≤ j := up (by omega)
    have ih := r_is_wait_m f j hj
    rw [run20, run21]
    exact ⟨is_wait_ok (r_is_sized j (by omega)) ih.2, is_move_ok (r_is_within j (by omega)) (r_is_sized j (by omega)) (r_is_triple j (by omega)) ih.1 ih.2⟩
theorem r_is_wait (l k : Nat) (h : 4 + l ≤ k) : IsWait l (run k 20) := (r_is_wait_m l k h).1
theorem r_is_move (l k : Nat) (h : 4 + l ≤ k) : IsMove l (run k 21) := (r_is_wait_m l k h).2
theorem r_is_plan_of (k : Nat) (h : 21 ≤ k) : IsPlanOf 16 (run k 22) := by
  obtain ⟨j, rfl, hj⟩ := up h; rw [run22]; exact plan_of_ok (r_is_wait 16 j (by omega))
theorem r_is_plan (k : Nat) (h : 22 ≤ k) : (IsPlanY 16 (run k 23) ∧ IsPlanX (run k 23)) := by
  obtain ⟨j, rfl, hj⟩ := up h; rw [run23]; exact is_plan_ok (r_check_alike j (by omega)) (r_is_plan_of j (by omega))
theorem r_wait_passing : ∀ (l k : Nat), 1 + l ≤ k → IsPass l (run k 24)
  | l, k, h => by
    obtain ⟨j, rfl, hj⟩ : ∃ j, k = j + 1 ∧ 0 + l ≤ j := up (by omega)
    rw [run24]
    refine pass_ok  fun l' e => ?_
    subst e
    exact r_wait_passing l' j (by omega)
theorem r_passing (k : Nat) (h : 7 ≤ k) : IsPassing (run k 25) := by
  obtain ⟨j, rfl, hj⟩ := up h; rw [run25]; exact passing_ok (fun l hl => (r_wait_passing l j (by omega)))
theorem r_l_bag (k : Nat) (h : 1 ≤ k) : IsBag (run k 26) := by
  obtain ⟨j, rfl, hj⟩ := up h; rw [run26]; exact bag_ok 
theorem r_l_pick (k : Nat) (h : 1 ≤ k) : IsPick (run k 27) := by
  obtain ⟨j, rfl, hj⟩ := up h; rw [run27]; exact pick_ok 
theorem r_l_some (k : Nat) (h : 2 ≤ k) : IsSome (run k 28) := by
  obtain ⟨j, rfl, hj⟩ := up h; rw [run28]; exact some_ok (r_l_pick j (by omega))
theorem r_l_deep (k : Nat) (h : 1 ≤ k) : (∀ S, Does ((run k 36) []) S fun v S' => FG 1 1 v ∧ S' = S) := by
  obtain ⟨j, rfl, hj⟩ := up h; rw [run36]; exact l_deep_ok 
theorem r_l_odd (k : Nat) (h : 3 ≤ k) : IsOdd (run k 37) := by
  obtain ⟨j, rfl, hj⟩ := up h; rw [run37]; exact l_odd_ok (r_l_some j (by omega)) (r_l_deep j (by omega))
theorem r_l_parts : ∀ (l k : Nat), 1 + l ≤ k → IsParts l (run k 38)
  | l, k, h => by
    obtain ⟨j, rfl, hj⟩ : ∃ j, k = j + 1 ∧ 0 + l ≤ j := up (by omega)
    rw [run38]
    refine parts_ok  fun l' e => ?_
    subst e
    exact r_l_parts l' j (by omega)
theorem r_l_put : ∀ (l k : Nat), 1 + l ≤ k → IsPut l (run k 39)
  | l, k, h => by
    obtain ⟨j, rfl, hj⟩ : ∃ j, k = j + 1 ∧ 0 + l ≤ j := up (by omega)
    rw [run39]
    refine put_ok  fun l' e => ?_
    subst e
    exact r_l_put l' j (by omega)
theorem r_l_spoilt (k : Nat) (h : 18 ≤ k) : IsSpoilt 16 (run k 40) := by
  obtain ⟨j, rfl, hj⟩ := up h; rw [run40]; exact (fun a b c d e => spoilt_ok a b c d e (by decide)) (r_l_pick j (by omega)) (r_l_some j (by omega)) (r_l_odd j (by omega)) (r_l_parts 16 j (by omega)) (r_l_put 16 j (by omega))
theorem r_l_wait_m : ∀ (f k : Nat), 4 + f ≤ k → IsLWait f (run k 41) ∧ IsLMove f (run k 42)
  | 0, k, h => ⟨fun c i j n g t x S _ _ _ _ _ _ h => by omega, fun c i j n g t x S _ _ _ _ _ _ h => by omega⟩
  | f + 1, k, h => by
    obtain ⟨j, rfl, hj⟩ : ∃ j, k = j + 1 ∧ 4 + f ≤ j := up (by omega)
    have ih := r_l_wait_m f j hj
    rw [run41, run42]
    exact ⟨l_wait_ok ih.2, l_move_ok (r_l_pick j (by omega)) ih.1 ih.2⟩
theorem r_l_wait (l k : Nat) (h : 4 + l ≤ k) : IsLWait l (run k 41) := (r_l_wait_m l k h).1
theorem r_l_move (l k : Nat) (h : 4 + l ≤ k) : IsLMove l (run k 42) := (r_l_wait_m l k h).2
theorem r_l_is_int (k : Nat) (h : 1 ≤ k) : IsWithin (run k 43) := by
  obtain ⟨j, rfl, hj⟩ := up h; rw [run43]; exact l_is_int_ok 
theorem r_l_is_wait_m : ∀ (f k : Nat), 4 + f ≤ k → IsWait f (run k 44) ∧ IsMove f (run k 45)
  | 0, k, h => ⟨fun i j n g t S _ _ _ h => by omega, fun i j n g t S _ _ _ h => by omega⟩
  | f + 1, k, h => by
    obtain ⟨j, rfl, hj⟩ : ∃ j, k = j + 1 ∧ 4 + f ≤ j := up (by omega)
    have ih := r_l_is_wait_m f j hj
    rw [run44, run45]
    exact ⟨l_is_wait_ok ih.2, l_is_move_ok (r_l_is_int j (by omega)) ih.1 ih.2⟩
theorem r_l_is_wait (l k : Nat) (h : 4 + l ≤ k) : IsWait l (run k 44) := (r_l_is_wait_m l k h).1
theorem r_l_is_move (l k : Nat) (h : 4 + l ≤ k) : IsMove l (run k 45) := (r_l_is_wait_m l k h).2
theorem r_l_common (k : Nat) (h : 1 ≤ k) : IsLCommon (run k 29) := by
  obtain ⟨j, rfl, hj⟩ := up h; rw [run29]; exact l_common_ok 
theorem r_l_low (k : Nat) (h : 2 ≤ k) : IsLLow (run k 30) := by
  obtain ⟨j, rfl, hj⟩ := up h; rw [run30]; exact l_low_ok (r_l_common j (by omega))
theorem r_l_times (k : Nat) (h : 3 ≤ k) : IsTimes (run k 31) := by
  obtain ⟨j, rfl, hj⟩ := up h; rw [run31]; exact l_times_ok (r_l_low j (by omega))
theorem r_l_shares (k : Nat) (h : 3 ≤ k) : IsShares (run k 32) := by
  obtain ⟨j, rfl, hj⟩ := up h; rw [run32]; exact shares_ok (r_l_pick j (by omega)) (r_l_low j (by omega))
theorem r_l_reweighted : ∀ (l k : Nat), 5 + l ≤ k → IsRew l (run k 46)
  | l, k, h => by
    obtain ⟨j, rfl, hj⟩ : ∃ j, k = j + 1 ∧ 4 + l ≤ j := up (by omega)
    rw [run46]
    refine rew_ok (r_l_times j (by omega)) (r_l_shares j (by omega)) fun l' e => ?_
    subst e
    exact r_l_reweighted l' j (by omega)
theorem r_l_node_q : ∀ (l k : Nat), 6 + 2 * l ≤ k → IsNode l (run k 34) ∧ IsQuest l (run (k + 1) 33)
  | l, k, h => by
    have hn : IsNode l (run k 34) := by
      obtain ⟨j, rfl, hj⟩ : ∃ j, k = j + 1 ∧ 5 + 2 * l ≤ j := up (by omega)
      rw [run34]
      refine node_ok (r_l_pick j (by omega)) fun l' e => ?_
      subst e
      obtain ⟨i, rfl, hi⟩ : ∃ i, j = i + 1 ∧ 6 + 2 * l' ≤ i := up (by omega)
      exact (r_l_node_q l' i hi).2
    refine ⟨hn, ?_⟩
    rw [run33]
    exact question_ok (r_l_pick _ (by omega)) (r_l_some _ (by omega)) (r_l_times _ (by omega)) (r_l_shares _ (by omega)) hn
theorem r_l_question (l k : Nat) (h : 7 + 2 * l ≤ k) : IsQuest l (run k 33) := by
  obtain ⟨j, rfl, hj⟩ : ∃ j, k = j + 1 ∧ 6 + 2 * l ≤ j := up (by omega)
  exact (r_l_node_q l j hj).2
theorem r_l_node (l k : Nat) (h : 6 + 2 * l ≤ k) : IsNode l (run k 34) := (r_l_node_q l k h).1
theorem r_l_tree (k : Nat) (h : 24 ≤ k) : IsTree (run k 35) := by
  obtain ⟨j, rfl, hj⟩ := up h; rw [run35]; exact tree_ok (r_l_pick j (by omega)) (fun l hl => (r_l_question l j (by omega)))
theorem r_l_two (k : Nat) (h : 25 ≤ k) : IsTwo (run k 47) := by
  obtain ⟨j, rfl, hj⟩ := up h; rw [run47]; exact two_ok (r_l_pick j (by omega)) (r_l_tree j (by omega))
theorem r_l_flag (k : Nat) (h : 1 ≤ k) : IsFlag (run k 48) := by
  obtain ⟨j, rfl, hj⟩ := up h; rw [run48]; exact l_flag_ok 
theorem r_l_edge_m : ∀ (f k : Nat), 4 + f ≤ k → IsEdge f (run k 50) ∧ IsMEdge f (run k 51)
  | 0, k, h => ⟨fun c i j n g t S _ _ _ _ h => by simp [waitB] at h, fun c i j n g t S _ _ _ _ h => by simp [moveB] at h⟩
  | f + 1, k, h => by
    obtain ⟨j, rfl, hj⟩ : ∃ j, k = j + 1 ∧ 4 + f ≤ j := up (by omega)
    have ih := r_l_edge_m f j hj
    rw [run50, run51]
    exact ⟨l_edge_ok (r_l_pick j (by omega)) (r_l_some j (by omega)) ih.2, l_medge_ok (r_l_pick j (by omega)) (r_l_some j (by omega)) ih.1 ih.2⟩
theorem r_l_edge (l k : Nat) (h : 4 + l ≤ k) : IsEdge l (run k 50) := (r_l_edge_m l k h).1
theorem r_l_move_edge (l k : Nat) (h : 4 + l ≤ k) : IsMEdge l (run k 51) := (r_l_edge_m l k h).2
theorem holds : ∀ ns : List Int, ns.length ≤ 63 → ∃ S', run 40 52 [.scr ns] [] = some (.ok (.bl true), S') := by
  intro ns hl
  have := (fun a b c d e f g h i j k l m => law_ok a b.1 b.2 c d e f g h i j k l m) (r_House 39 (by omega)) (r_is_plan 39 (by omega)) (r_passing 39 (by omega)) (r_l_bag 39 (by omega)) (r_l_pick 39 (by omega)) (r_l_odd 39 (by omega)) (r_l_spoilt 39 (by omega)) (r_l_wait 16 39 (by omega)) (r_l_is_wait 16 39 (by omega)) (fun l hl => (r_l_reweighted l 39 (by omega))) (r_l_two 39 (by omega)) (r_l_flag 39 (by omega)) (r_l_edge 16 39 (by omega)) ns hl
  obtain ⟨v, S', e, rfl⟩ := this
  exact ⟨S', by rw [run52]; exact e⟩
end Lw
set_option Elab.async false
set_option linter.all false
set_option maxRecDepth 100000
set_option maxHeartbeats 40000000
set_option autoImplicit false
namespace Lw
open PySem L2 Tl PySem.Spec PyProof.Rows

def top (i : Nat) : Stmt := PySem.Challenge.pw_tellsless_k11_plans_judged.main.body.getD i (.Pass ⟨0, 0, 0, 0⟩)
def FF (K : PySem.W.Frag) (mg : Str → Option Value) (x : Str) (st : Stmt) : Prop := ∃ f fd, mg x = some (.ref f) ∧ PySem.W.keepIn K (.ref f) = true ∧ Fun K x x st f fd
def FI (K : PySem.W.Frag) (mg : Str → Option Value) (C : Addr) (c x q : Str) (st : Stmt) : Prop := ∃ f fd, Mk K C f ∧ mg c = some (.ref C) ∧ Fun K x q st f fd
def FE (K : PySem.W.Frag) (ca : CA) (N : Nat) (ok : Nat → Nat → Bool) (x q : Str) (st : Stmt) : Prop := ∃ f fd, PySem.W.isFn K (.ref f) = true ∧ Fun K x q st f fd ∧ (∀ c, c < N → PySem.W.findIn K (.ref (ca c)) "__eq__" = some (some (.ref f))) ∧ ∀ c c', c < N → c' < N → ok c c' = true → PySem.W.notFirst K (ca c) (.ref (ca c')) = true
structure Ft (K : PySem.W.Frag) (mg : Str → Option Value) (ca : CA) : Prop where
  n_tree : ∀ c, c < 2 → Cls K (ca c) ∧ NoAttr K (ca c) "tree"
  n_worlds : ∀ c, c < 2 → Cls K (ca c) ∧ NoAttr K (ca c) "worlds"
  x_HouseError : ExK K mg "HouseError" (ca 2)
  x_NotAlike : ExK K mg "NotAlike" (ca 3)
  xm_HouseError : ∀ c b, tbm_HouseError c = some b → PySem.W.exmOne K (.ref (ca c)) (.ref (ca 2)) = some b
  xm_NotAlike : ∀ c b, tbm_NotAlike c = some b → PySem.W.exmOne K (.ref (ca c)) (.ref (ca 3)) = some b
  f0 : FF K mg "is_integer" (top 5)
  f1 : FF K mg "is_within" (top 6)
  f2 : FF K mg "is_sized" (top 7)
  f3 : FF K mg "is_pair" (top 8)
  f4 : FF K mg "is_triple" (top 9)
  f5 : FF K mg "are_rising" (top 10)
  f6 : FF K mg "divisor" (top 14)
  f7 : FF K mg "lowest" (top 15)
  f8 : FF K mg "plus" (top 16)
  f9 : FF K mg "total" (top 17)
  f10 : FF K mg "is_fraction" (top 18)
  f11 : FF K mg "is_chance" (top 19)
  f12 : FF K mg "is_word" (top 28)
  f13 : FF K mg "is_answer" (top 29)
  f14 : FF K mg "added_weights" (top 30)
  f15 : FF K mg "wrong_in_node" (top 31)
  f16 : FF K mg "wrong_in_question" (top 32)
  f17 : FF K mg "count_answers" (top 33)
  f18 : FI K mg (ca 0) "House" "__init__" "House.__init__" (inClass (top 34) 0)
  f19 : FF K mg "check_alike" (top 35)
  f20 : FF K mg "is_wait" (top 37)
  f21 : FF K mg "is_move" (top 38)
  f22 : FF K mg "is_plan_of" (top 39)
  f23 : FF K mg "is_plan" (top 40)
  f24 : FF K mg "wait_passing" (top 41)
  f25 : FF K mg "passing" (top 42)
  f26 : FF K mg "_law_bag" (top 44)
  f27 : FF K mg "_law_pick" (top 45)
  f28 : FF K mg "_law_some" (top 46)
  f29 : FF K mg "_law_common" (top 47)
  f30 : FF K mg "_law_low" (top 48)
  f31 : FF K mg "_law_times" (top 49)
  f32 : FF K mg "_law_shares" (top 50)
  f33 : FF K mg "_law_question" (top 51)
  f34 : FF K mg "_law_node" (top 52)
  f35 : FF K mg "_law_tree" (top 53)
  f36 : FF K mg "_law_deep" (top 54)
  f37 : FF K mg "_law_odd" (top 55)
  f38 : FF K mg "_law_parts" (top 56)
  f39 : FF K mg "_law_put" (top 57)
  f40 : FF K mg "_law_spoilt" (top 58)
  f41 : FF K mg "_law_wait" (top 59)
  f42 : FF K mg "_law_move" (top 60)
  f43 : FF K mg "_law_is_int" (top 61)
  f44 : FF K mg "_law_is_wait" (top 62)
  f45 : FF K mg "_law_is_move" (top 63)
  f46 : FF K mg "_law_reweighted" (top 64)
  f47 : FF K mg "_law_two" (top 65)
  f48 : FF K mg "_law_flag" (top 66)
  f49 : FF K mg "_law_word" (top 67)
  f50 : FF K mg "_law_edge" (top 68)
  f51 : FF K mg "_law_move_edge" (top 69)
  f52 : FF K mg "law" (top 70)
  m_abs : mg "abs" = none
  m_all : mg "all" = none
  m_bool : mg "bool" = none
  m_enumerate : mg "enumerate" = none
  m_int : mg "int" = none
  m_isinstance : mg "isinstance" = none
  m_len : mg "len" = none
  m_list : mg "list" = none
  m_range : mg "range" = none
  m_str : mg "str" = none
  m_sum : mg "sum" = none
  m_tuple : mg "tuple" = none
  m_zip : mg "zip" = none
  c_MOST_ANSWERS : Con0 K mg "MOST_ANSWERS" (.int 12)
  c_MOST_IN_ALL : Con0 K mg "MOST_IN_ALL" (.int 1500)
  c_MOST_NUMBER : Con0 K mg "MOST_NUMBER" (.int 99)
  c_MOST_NUMBERS : Con0 K mg "MOST_NUMBERS" (.int 8)
  c_MOST_QUESTIONS : Con0 K mg "MOST_QUESTIONS" (.int 5)
  c_MOST_ROUNDS : Con0 K mg "MOST_ROUNDS" (.int 8)
  c_MOST_WORLDS : Con0 K mg "MOST_WORLDS" (.int 5)
  c_NOUGHT : Con0 K mg "NOUGHT" (.tup [(.int 0), (.int 1)])
  c_ONE : Con0 K mg "ONE" (.tup [(.int 1), (.int 1)])
structure LvW (P : Program) (w : World) (K : PySem.W.Frag) (mg : Str → Option Value) (base : Heap) (ca : CA) (k : Nat) : Prop where
  h0 : Cal P w K mg base ca (3 * k + 1) "is_integer" 1 (run k 0)
  h1 : Cal P w K mg base ca (3 * k + 1) "is_within" 3 (run k 1)
  h2 : Cal P w K mg base ca (3 * k + 1) "is_sized" 3 (run k 2)
  h3 : Cal P w K mg base ca (3 * k + 1) "is_pair" 1 (run k 3)
  h4 : Cal P w K mg base ca (3 * k + 1) "is_triple" 1 (run k 4)
  h5 : Cal P w K mg base ca (3 * k + 1) "are_rising" 1 (run k 5)
  h6 : Cal P w K mg base ca (3 * k + 1) "divisor" 2 (run k 6)
  h7 : Cal P w K mg base ca (3 * k + 1) "lowest" 2 (run k 7)
  h8 : Cal P w K mg base ca (3 * k + 1) "plus" 2 (run k 8)
  h9 : Cal P w K mg base ca (3 * k + 1) "total" 1 (run k 9)
  h10 : Cal P w K mg base ca (3 * k + 1) "is_fraction" 1 (run k 10)
  h11 : Cal P w K mg base ca (3 * k + 1) "is_chance" 1 (run k 11)
  h12 : Cal P w K mg base ca (3 * k + 1) "is_word" 1 (run k 12)
  h13 : Cal P w K mg base ca (3 * k + 1) "is_answer" 2 (run k 13)
  h14 : Cal P w K mg base ca (3 * k + 1) "added_weights" 2 (run k 14)
  h15 : Cal P w K mg base ca (3 * k + 1) "wrong_in_node" 4 (run k 15)
  h16 : Cal P w K mg base ca (3 * k + 1) "wrong_in_question" 4 (run k 16)
  h17 : Cal P w K mg base ca (3 * k + 1) "count_answers" 1 (run k 17)
  h18 : Mkd P w K mg base ca (3 * k + 1) "House" 0 3 (run k 18)
  h19 : Cal P w K mg base ca (3 * k + 1) "check_alike" 2 (run k 19)
  h20 : Cal P w K mg base ca (3 * k + 1) "is_wait" 3 (run k 20)
  h21 : Cal P w K mg base ca (3 * k + 1) "is_move" 3 (run k 21)
  h22 : Cal P w K mg base ca (3 * k + 1) "is_plan_of" 3 (run k 22)
  h23 : Cal P w K mg base ca (3 * k + 1) "is_plan" 3 (run k 23)
  h24 : Cal P w K mg base ca (3 * k + 1) "wait_passing" 1 (run k 24)
  h25 : Cal P w K mg base ca (3 * k + 1) "passing" 1 (run k 25)
  h26 : Cal P w K mg base ca (3 * k + 1) "_law_bag" 1 (run k 26)
  h27 : Cal P w K mg base ca (3 * k + 1) "_law_pick" 2 (run k 27)
  h28 : Cal P w K mg base ca (3 * k + 1) "_law_some" 2 (run k 28)
  h29 : Cal P w K mg base ca (3 * k + 1) "_law_common" 2 (run k 29)
  h30 : Cal P w K mg base ca (3 * k + 1) "_law_low" 2 (run k 30)
  h31 : Cal P w K mg base ca (3 * k + 1) "_law_times" 2 (run k 31)
  h32 : Cal P w K mg base ca (3 * k + 1) "_law_shares" 3 (run k 32)
  h33 : Cal P w K mg base ca (3 * k + 1) "_law_question" 5 (run k 33)
  h34 : Cal P w K mg base ca (3 * k + 1) "_law_node" 5 (run k 34)
  h35 : Cal P w K mg base ca (3 * k + 1) "_law_tree" 4 (run k 35)
  h36 : Cal P w K mg base ca (3 * k + 1) "_law_deep" 0 (run k 36)
  h37 : Cal P w K mg base ca (3 * k + 1) "_law_odd" 1 (run k 37)
  h38 : Cal P w K mg base ca (3 * k + 1) "_law_parts" 2 (run k 38)
  h39 : Cal P w K mg base ca (3 * k + 1) "_law_put" 3 (run k 39)
  h40 : Cal P w K mg base ca (3 * k + 1) "_law_spoilt" 2 (run k 40)
  h41 : Cal P w K mg base ca (3 * k + 1) "_law_wait" 4 (run k 41)
  h42 : Cal P w K mg base ca (3 * k + 1) "_law_move" 4 (run k 42)
  h43 : Cal P w K mg base ca (3 * k + 1) "_law_is_int" 3 (run k 43)
  h44 : Cal P w K mg base ca (3 * k + 1) "_law_is_wait" 3 (run k 44)
  h45 : Cal P w K mg base ca (3 * k + 1) "_law_is_move" 3 (run k 45)
  h46 : Cal P w K mg base ca (3 * k + 1) "_law_reweighted" 4 (run k 46)
  h47 : Cal P w K mg base ca (3 * k + 1) "_law_two" 3 (run k 47)
  h48 : Cal P w K mg base ca (3 * k + 1) "_law_flag" 2 (run k 48)
  h49 : Thd P w K mg base ca (3 * k + 2) "_law_word" TB_l_word
  h50 : Cal P w K mg base ca (3 * k + 1) "_law_edge" 4 (run k 50)
  h51 : Cal P w K mg base ca (3 * k + 1) "_law_move_edge" 4 (run k 51)
theorem spF_no {K : PySem.W.Frag} {ca : CA} {n : Nat} {vs : List V} {H : Hp} {Q : VK} {E : XK} (h : spF K ca n (fun _ => M.stuck) vs H Q E) : False := by
  obtain ⟨_, _, _, _, _, _, _, h, _⟩ := h
  cases h
variable {P : Program} {w : World} {K : PySem.W.Frag} {mg : Str → Option Value} {base : Heap} {ca : CA}
theorem sc0 : FnScope ["thing"] ["thing"] (defScope (top 5)) := ⟨rfl, rfl, rfl, by decide +kernel, rfl, by decide +kernel, by decide +kernel⟩
theorem dv0 (T : Ft K mg ca) {k : Nat} (L : LvW P w K mg base ca k) {f : Addr} {fd : FuncData} (F : Fun K "is_integer" "is_integer" (top 5) f fd) : FnOk P w K mg base (L2.CX P w) (3 * k + 4) f fd ["thing"] (spF K ca 1 (run (k + 1) 0)) := by
  rw [run0]
  refine fn_d (k := 3 * k + 3) (N := ["thing"]) F sc0 rfl fun cdv A outer s H E hrL => ?_
  have hrM := hrL.mono (show 3 * k + 2 ≤ 3 * k + 3 by omega)
  have hr : Room (3 * k + 1) (A.deeper (envOfC "is_integer" (defScope (top 5)) s.heap.objs.size f cdv)) := hrL.mono (by omega)
  have hu := hr.units
  have nd := sc0.nd
  have tk : Takes (cxOf (L2.CX P w) P w K mg base ["thing"] "is_integer" (defScope (top 5)) f cdv A outer s H E) (fun cls d _ H => E cls d H) := takes_of rfl rfl rfl rfl
  exact (dss_one (ds_ret (de_and (de_isi bb_int T.m_isinstance T.m_int (de_var 0)) (de_one (de_not (de_isi bb_bool T.m_isinstance T.m_bool (de_var 0)))))))
theorem ok0 (T : Ft K mg ca) {k : Nat} (L : LvW P w K mg base ca k) : Cal P w K mg base ca (3 * k + 4) "is_integer" 1 (run (k + 1) 0) := by
  obtain ⟨f, fd, h1, h2, F⟩ := T.f0
  exact ⟨f, fd, ["thing"], h1, h2, F.binds (ps := ["thing"]) fun _ _ _ _ _ _ us hl => match us, hl with | [_], _ => rfl, dv0 T L F⟩
theorem z0 (T : Ft K mg ca) : Cal P w K mg base ca 1 "is_integer" 1 (run 0 0) := by
  obtain ⟨f, fd, h1, h2, F⟩ := T.f0
  exact ⟨f, fd, ["thing"], h1, h2, F.binds (ps := ["thing"]) fun _ _ _ _ _ _ us hl => match us, hl with | [_], _ => rfl, F.okX sc0 (fun vs H Q E h => (spF_no h).elim) fun cdv A outer s H vs Q E hr h => (spF_no h).elim⟩
theorem sc1 : FnScope ["thing", "least", "most"] ["thing", "least", "most"] (defScope (top 6)) := ⟨rfl, rfl, rfl, by decide +kernel, rfl, by decide +kernel, by decide +kernel⟩
theorem dv1 (T : Ft K mg ca) {k : Nat} (L : LvW P w K mg base ca k) {f : Addr} {fd : FuncData} (F : Fun K "is_within" "is_within" (top 6) f fd) : FnOk P w K mg base (L2.CX P w) (3 * k + 4) f fd ["thing", "least", "most"] (spF K ca 3 (run (k + 1) 1)) := by
  rw [run1]
  refine fn_d (k := 3 * k + 3) (N := ["thing", "least", "most"]) F sc1 rfl fun cdv A outer s H E hrL => ?_
  have hrM := hrL.mono (show 3 * k + 2 ≤ 3 * k + 3 by omega)
  have hr : Room (3 * k + 1) (A.deeper (envOfC "is_within" (defScope (top 6)) s.heap.objs.size f cdv)) := hrL.mono (by omega)
  have hu := hr.units
  have nd := sc1.nd
  have tk : Takes (cxOf (L2.CX P w) P w K mg base ["thing", "least", "most"] "is_within" (defScope (top 6)) f cdv A outer s H E) (fun cls d _ H => E cls d H) := takes_of rfl rfl rfl rfl
  exact (dss_one (ds_ret (de_and (de_call L.h0 hr tk (da_cons (de_var 0) da_nil)) (de_one (de_chain op_le (q_ord fun i j => decide (i ≤ j)) op_le (q_ord fun i j => decide (i ≤ j)) (de_var 1) (de_var 0) (de_var 2))))))
theorem ok1 (T : Ft K mg ca) {k : Nat} (L : LvW P w K mg base ca k) : Cal P w K mg base ca (3 * k + 4) "is_within" 3 (run (k + 1) 1) := by
  obtain ⟨f, fd, h1, h2, F⟩ := T.f1
  exact ⟨f, fd, ["thing", "least", "most"], h1, h2, F.binds (ps := ["thing", "least", "most"]) fun _ _ _ _ _ _ us hl => match us, hl with | [_, _, _], _ => rfl, dv1 T L F⟩
theorem z1 (T : Ft K mg ca) : Cal P w K mg base ca 1 "is_within" 3 (run 0 1) := by
  obtain ⟨f, fd, h1, h2, F⟩ := T.f1
  exact ⟨f, fd, ["thing", "least", "most"], h1, h2, F.binds (ps := ["thing", "least", "most"]) fun _ _ _ _ _ _ us hl => match us, hl with | [_, _, _], _ => rfl, F.okX sc1 (fun vs H Q E h => (spF_no h).elim) fun cdv A outer s H vs Q E hr h => (spF_no h).elim⟩
theorem sc2 : FnScope ["thing", "least", "most"] ["thing", "least", "most"] (defScope (top 7)) := ⟨rfl, rfl, rfl, by decide +kernel, rfl, by decide +kernel, by decide +kernel⟩
theorem dv2 (T : Ft K mg ca) {k : Nat} (L : LvW P w K mg base ca k) {f : Addr} {fd : FuncData} (F : Fun K "is_sized" "is_sized" (top 7) f fd) : FnOk P w K mg base (L2.CX P w) (3 * k + 4) f fd ["thing", "least", "most"] (spF K ca 3 (run (k + 1) 2)) := by
  rw [run2]
  refine fn_d (k := 3 * k + 3) (N := ["thing", "least", "most"]) F sc2 rfl fun cdv A outer s H E hrL => ?_
  have hrM := hrL.mono (show 3 * k + 2 ≤ 3 * k + 3 by omega)
  have hr : Room (3 * k + 1) (A.deeper (envOfC "is_sized" (defScope (top 7)) s.heap.objs.size f cdv)) := hrL.mono (by omega)
  have hu := hr.units
  have nd := sc2.nd
  have tk : Takes (cxOf (L2.CX P w) P w K mg base ["thing", "least", "most"] "is_sized" (defScope (top 7)) f cdv A outer s H E) (fun cls d _ H => E cls d H) := takes_of rfl rfl rfl rfl
  exact (dss_one (ds_ret (de_and (de_isi bb_tuple T.m_isinstance T.m_tuple (de_var 0)) (de_one (de_chain op_le (q_ord fun i j => decide (i ≤ j)) op_le (q_ord fun i j => decide (i ≤ j)) (de_var 1) (de_bi bb_len call_len q_len T.m_len (da_cons (de_var 0) da_nil)) (de_var 2))))))
theorem ok2 (T : Ft K mg ca) {k : Nat} (L : LvW P w K mg base ca k) : Cal P w K mg base ca (3 * k + 4) "is_sized" 3 (run (k + 1) 2) := by
  obtain ⟨f, fd, h1, h2, F⟩ := T.f2
  exact ⟨f, fd, ["thing", "least", "most"], h1, h2, F.binds (ps := ["thing", "least", "most"]) fun _ _ _ _ _ _ us hl => match us, hl with | [_, _, _], _ => rfl, dv2 T L F⟩
theorem z2 (T : Ft K mg ca) : Cal P w K mg base ca 1 "is_sized" 3 (run 0 2) := by
  obtain ⟨f, fd, h1, h2, F⟩ := T.f2
  exact ⟨f, fd, ["thing", "least", "most"], h1, h2, F.binds (ps := ["thing", "least", "most"]) fun _ _ _ _ _ _ us hl => match us, hl with | [_, _, _], _ => rfl, F.okX sc2 (fun vs H Q E h => (spF_no h).elim) fun cdv A outer s H vs Q E hr h => (spF_no h).elim⟩
theorem sc3 : FnScope ["thing"] ["thing"] (defScope (top 8)) := ⟨rfl, rfl, rfl, by decide +kernel, rfl, by decide +kernel, by decide +kernel⟩
theorem dv3 (T : Ft K mg ca) {k : Nat} (L : LvW P w K mg base ca k) {f : Addr} {fd : FuncData} (F : Fun K "is_pair" "is_pair" (top 8) f fd) : FnOk P w K mg base (L2.CX P w) (3 * k + 4) f fd ["thing"] (spF K ca 1 (run (k + 1) 3)) := by
  rw [run3]
  refine fn_d (k := 3 * k + 3) (N := ["thing"]) F sc3 rfl fun cdv A outer s H E hrL => ?_
  have hrM := hrL.mono (show 3 * k + 2 ≤ 3 * k + 3 by omega)
  have hr : Room (3 * k + 1) (A.deeper (envOfC "is_pair" (defScope (top 8)) s.heap.objs.size f cdv)) := hrL.mono (by omega)
  have hu := hr.units
  have nd := sc3.nd
  have tk : Takes (cxOf (L2.CX P w) P w K mg base ["thing"] "is_pair" (defScope (top 8)) f cdv A outer s H E) (fun cls d _ H => E cls d H) := takes_of rfl rfl rfl rfl
  exact (dss_one (ds_ret (de_and (de_isi bb_tuple T.m_isinstance T.m_tuple (de_var 0)) (de_one (de_cmp (cm_eq hu) q_eq (de_bi bb_len call_len q_len T.m_len (da_cons (de_var 0) da_nil)) de_int (nomark _))))))
theorem ok3 (T : Ft K mg ca) {k : Nat} (L : LvW P w K mg base ca k) : Cal P w K mg base ca (3 * k + 4) "is_pair" 1 (run (k + 1) 3) := by
  obtain ⟨f, fd, h1, h2, F⟩ := T.f3
  exact ⟨f, fd, ["thing"], h1, h2, F.binds (ps := ["thing"]) fun _ _ _ _ _ _ us hl => match us, hl with | [_], _ => rfl, dv3 T L F⟩
theorem z3 (T : Ft K mg ca) : Cal P w K mg base ca 1 "is_pair" 1 (run 0 3) := by
  obtain ⟨f, fd, h1, h2, F⟩ := T.f3
  exact ⟨f, fd, ["thing"], h1, h2, F.binds (ps := ["thing"]) fun _ _ _ _ _ _ us hl => match us, hl with | [_], _ => rfl, F.okX sc3 (fun vs H Q E h => (spF_no h).elim) fun cdv A outer s H vs Q E hr h => (spF_no h).elim⟩
theorem sc4 : FnScope ["thing"] ["thing"] (defScope (top 9)) := ⟨rfl, rfl, rfl, by decide +kernel, rfl, by decide +kernel, by decide +kernel⟩
theorem dv4 (T : Ft K mg ca) {k : Nat} (L : LvW P w K mg base ca k) {f : Addr} {fd : FuncData} (F : Fun K "is_triple" "is_triple" (top 9) f fd) : FnOk P w K mg base (L2.CX P w) (3 * k + 4) f fd ["thing"] (spF K ca 1 (run (k + 1) 4)) := by
  rw [run4]
  refine fn_d (k := 3 * k + 3) (N := ["thing"]) F sc4 rfl fun cdv A outer s H E hrL => ?_
  have hrM := hrL.mono (show 3 * k + 2 ≤ 3 * k + 3 by omega)
  have hr : Room (3 * k + 1) (A.deeper (envOfC "is_triple" (defScope (top 9)) s.heap.objs.size f cdv)) := hrL.mono (by omega)
  have hu := hr.units
  have nd := sc4.nd
  have tk : Takes (cxOf (L2.CX P w) P w K mg base ["thing"] "is_triple" (defScope (top 9)) f cdv A outer s H E) (fun cls d _ H => E cls d H) := takes_of rfl rfl rfl rfl
  exact (dss_one (ds_ret (de_and (de_isi bb_tuple T.m_isinstance T.m_tuple (de_var 0)) (de_one (de_cmp (cm_eq hu) q_eq (de_bi bb_len call_len q_len T.m_len (da_cons (de_var 0) da_nil)) de_int (nomark _))))))
theorem ok4 (T : Ft K mg ca) {k : Nat} (L : LvW P w K mg base ca k) : Cal P w K mg base ca (3 * k + 4) "is_triple" 1 (run (k + 1) 4) := by
  obtain ⟨f, fd, h1, h2, F⟩ := T.f4
  exact ⟨f, fd, ["thing"], h1, h2, F.binds (ps := ["thing"]) fun _ _ _ _ _ _ us hl => match us, hl with | [_], _ => rfl, dv4 T L F⟩
theorem z4 (T : Ft K mg ca) : Cal P w K mg base ca 1 "is_triple" 1 (run 0 4) := by
  obtain ⟨f, fd, h1, h2, F⟩ := T.f4
  exact ⟨f, fd, ["thing"], h1, h2, F.binds (ps := ["thing"]) fun _ _ _ _ _ _ us hl => match us, hl with | [_], _ => rfl, F.okX sc4 (fun vs H Q E h => (spF_no h).elim) fun cdv A outer s H vs Q E hr h => (spF_no h).elim⟩
theorem sc5 : FnScope ["things", "one", "other"] ["things"] (defScope (top 10)) := ⟨rfl, rfl, rfl, by decide +kernel, rfl, by decide +kernel, by decide +kernel⟩
theorem dv5 (T : Ft K mg ca) {k : Nat} (L : LvW P w K mg base ca k) {f : Addr} {fd : FuncData} (F : Fun K "are_rising" "are_rising" (top 10) f fd) : FnOk P w K mg base (L2.CX P w) (3 * k + 4) f fd ["things"] (spF K ca 1 (run (k + 1) 5)) := by
  rw [run5]
  refine fn_d (k := 3 * k + 3) (N := ["things", "one", "other"]) F sc5 rfl fun cdv A outer s H E hrL => ?_
  have hrM := hrL.mono (show 3 * k + 2 ≤ 3 * k + 3 by omega)
  have hr : Room (3 * k + 1) (A.deeper (envOfC "are_rising" (defScope (top 10)) s.heap.objs.size f cdv)) := hrL.mono (by omega)
  have hu := hr.units
  have nd := sc5.nd
  have tk : Takes (cxOf (L2.CX P w) P w K mg base ["things", "one", "other"] "are_rising" (defScope (top 10)) f cdv A outer s H E) (fun cls d _ H => E cls d H) := takes_of rfl rfl rfl rfl
  exact (dss_one (ds_ret (de_bi bb_all (cr_all rfl) q_all T.m_all (da_cons (de_lc [("one", 1), ("other", 2)] rfl nd (by refine blkOk_by ?_; dsimp only [cxOf, Cx.blk, envOfC, compEnvC, relabel, Env.kindOf]; first | decide +kernel | kernel_rfl | rfl) (di_zip T.m_zip (de_var 0) (de_sl (de_var 0) (dp_some de_int) dp_no)) (fun _ _ _ _ _ => (dg_tup rfl (dgs_cons (dgn 1 nd) (dgs_cons (dgn 2 nd) dgs_nil)))) (by decide) (fun _ _ _ _ _ => dts_nil) (fun _ _ _ _ _ => (de_cmp (cm_lt hu) q_lt (de_var 1) (de_var 2) (nomark _)))) da_nil))))
theorem ok5 (T : Ft K mg ca) {k : Nat} (L : LvW P w K mg base ca k) : Cal P w K mg base ca (3 * k + 4) "are_rising" 1 (run (k + 1) 5) := by
  obtain ⟨f, fd, h1, h2, F⟩ := T.f5
  exact ⟨f, fd, ["things"], h1, h2, F.binds (ps := ["things"]) fun _ _ _ _ _ _ us hl => match us, hl with | [_], _ => rfl, dv5 T L F⟩
theorem z5 (T : Ft K mg ca) : Cal P w K mg base ca 1 "are_rising" 1 (run 0 5) := by
  obtain ⟨f, fd, h1, h2, F⟩ := T.f5
  exact ⟨f, fd, ["things"], h1, h2, F.binds (ps := ["things"]) fun _ _ _ _ _ _ us hl => match us, hl with | [_], _ => rfl, F.okX sc5 (fun vs H Q E h => (spF_no h).elim) fun cdv A outer s H vs Q E hr h => (spF_no h).elim⟩
theorem sc6 : FnScope ["one", "other"] ["one", "other"] (defScope (top 14)) := ⟨rfl, rfl, rfl, by decide +kernel, rfl, by decide +kernel, by decide +kernel⟩
theorem dv6 (T : Ft K mg ca) {k : Nat} (L : LvW P w K mg base ca k) {f : Addr} {fd : FuncData} (F : Fun K "divisor" "divisor" (top 14) f fd) : FnOk P w K mg base (L2.CX P w) (3 * k + 4) f fd ["one", "other"] (spF K ca 2 (run (k + 1) 6)) := by
  rw [run6]
  refine fn_d (k := 3 * k + 3) (N := ["one", "other"]) F sc6 rfl fun cdv A outer s H E hrL => ?_
  have hrM := hrL.mono (show 3 * k + 2 ≤ 3 * k + 3 by omega)
  have hr : Room (3 * k + 1) (A.deeper (envOfC "divisor" (defScope (top 14)) s.heap.objs.size f cdv)) := hrL.mono (by omega)
  have hu := hr.units
  have nd := sc6.nd
  have tk : Takes (cxOf (L2.CX P w) P w K mg base ["one", "other"] "divisor" (defScope (top 14)) f cdv A outer s H E) (fun cls d _ H => E cls d H) := takes_of rfl rfl rfl rfl
  exact (dss_cons (ds_par 0 1 rfl nd (da_cons (de_bi bb_abs call_abs q_abs T.m_abs (da_cons (de_var 0) da_nil)) (da_cons (de_bi bb_abs call_abs q_abs T.m_abs (da_cons (de_var 1) da_nil)) da_nil)))
  (dss_cons (ds_wh (passes_of rfl) (dt_cmp (cm_ne hu) q_ne (de_var 1) de_int (nomark _)) (dss_one (ds_par 0 1 rfl nd (da_cons (de_var 1) (da_cons (de_mod (de_var 0) (de_var 1)) da_nil)))))
  (dss_one (ds_ret (de_var 0)))))
theorem ok6 (T : Ft K mg ca) {k : Nat} (L : LvW P w K mg base ca k) : Cal P w K mg base ca (3 * k + 4) "divisor" 2 (run (k + 1) 6) := by
  obtain ⟨f, fd, h1, h2, F⟩ := T.f6
  exact ⟨f, fd, ["one", "other"], h1, h2, F.binds (ps := ["one", "other"]) fun _ _ _ _ _ _ us hl => match us, hl with | [_, _], _ => rfl, dv6 T L F⟩
theorem z6 (T : Ft K mg ca) : Cal P w K mg base ca 1 "divisor" 2 (run 0 6) := by
  obtain ⟨f, fd, h1, h2, F⟩ := T.f6
  exact ⟨f, fd, ["one", "other"], h1, h2, F.binds (ps := ["one", "other"]) fun _ _ _ _ _ _ us hl => match us, hl with | [_, _], _ => rfl, F.okX sc6 (fun vs H Q E h => (spF_no h).elim) fun cdv A outer s H vs Q E hr h => (spF_no h).elim⟩
theorem sc7 : FnScope ["top", "bottom", "common"] ["top", "bottom"] (defScope (top 15)) := ⟨rfl, rfl, rfl, by decide +kernel, rfl, by decide +kernel, by decide +kernel⟩
theorem dv7 (T : Ft K mg ca) {k : Nat} (L : LvW P w K mg base ca k) {f : Addr} {fd : FuncData} (F : Fun K "lowest" "lowest" (top 15) f fd) : FnOk P w K mg base (L2.CX P w) (3 * k + 4) f fd ["top", "bottom"] (spF K ca 2 (run (k + 1) 7)) := by
  rw [run7]
  refine fn_d (k := 3 * k + 3) (N := ["top", "bottom", "common"]) F sc7 rfl fun cdv A outer s H E hrL => ?_
  have hrM := hrL.mono (show 3 * k + 2 ≤ 3 * k + 3 by omega)
  have hr : Room (3 * k + 1) (A.deeper (envOfC "lowest" (defScope (top 15)) s.heap.objs.size f cdv)) := hrL.mono (by omega)
  have hu := hr.units
  have nd := sc7.nd
  have tk : Takes (cxOf (L2.CX P w) P w K mg base ["top", "bottom", "common"] "lowest" (defScope (top 15)) f cdv A outer s H E) (fun cls d _ H => E cls d H) := takes_of rfl rfl rfl rfl
  exact (dss_cons (ds_set 2 nd (de_ite (dt_cmp op_gt (q_ord fun i j => decide (j < i)) (de_var 1) de_int (nomark _)) (de_call L.h6 hr tk (da_cons (de_var 0) (da_cons (de_var 1) da_nil))) (de_neg (de_call L.h6 hr tk (da_cons (de_var 0) (da_cons (de_var 1) da_nil))))))
  (dss_one (ds_ret (de_tup (da_cons (de_fdiv (de_var 0) (de_var 2)) (da_cons (de_fdiv (de_var 1) (de_var 2)) da_nil))))))
theorem ok7 (T : Ft K mg ca) {k : Nat} (L : LvW P w K mg base ca k) : Cal P w K mg base ca (3 * k + 4) "lowest" 2 (run (k + 1) 7) := by
  obtain ⟨f, fd, h1, h2, F⟩ := T.f7
  exact ⟨f, fd, ["top", "bottom"], h1, h2, F.binds (ps := ["top", "bottom"]) fun _ _ _ _ _ _ us hl => match us, hl with | [_, _], _ => rfl, dv7 T L F⟩
theorem z7 (T : Ft K mg ca) : Cal P w K mg base ca 1 "lowest" 2 (run 0 7) := by
  obtain ⟨f, fd, h1, h2, F⟩ := T.f7
  exact ⟨f, fd, ["top", "bottom"], h1, h2, F.binds (ps := ["top", "bottom"]) fun _ _ _ _ _ _ us hl => match us, hl with | [_, _], _ => rfl, F.okX sc7 (fun vs H Q E h => (spF_no h).elim) fun cdv A outer s H vs Q E hr h => (spF_no h).elim⟩
theorem sc8 : FnScope ["one", "other"] ["one", "other"] (defScope (top 16)) := ⟨rfl, rfl, rfl, by decide +kernel, rfl, by decide +kernel, by decide +kernel⟩
theorem dv8 (T : Ft K mg ca) {k : Nat} (L : LvW P w K mg base ca k) {f : Addr} {fd : FuncData} (F : Fun K "plus" "plus" (top 16) f fd) : FnOk P w K mg base (L2.CX P w) (3 * k + 4) f fd ["one", "other"] (spF K ca 2 (run (k + 1) 8)) := by
  rw [run8]
  refine fn_d (k := 3 * k + 3) (N := ["one", "other"]) F sc8 rfl fun cdv A outer s H E hrL => ?_
  have hrM := hrL.mono (show 3 * k + 2 ≤ 3 * k + 3 by omega)
  have hr : Room (3 * k + 1) (A.deeper (envOfC "plus" (defScope (top 16)) s.heap.objs.size f cdv)) := hrL.mono (by omega)
  have hu := hr.units
  have nd := sc8.nd
  have tk : Takes (cxOf (L2.CX P w) P w K mg base ["one", "other"] "plus" (defScope (top 16)) f cdv A outer s H E) (fun cls d _ H => E cls d H) := takes_of rfl rfl rfl rfl
  exact (dss_one (ds_ret (de_call L.h7 hr tk (da_cons (de_add (de_mul (de_idx (de_var 0) de_int) (de_idx (de_var 1) de_int)) (de_mul (de_idx (de_var 1) de_int) (de_idx (de_var 0) de_int))) (da_cons (de_mul (de_idx (de_var 0) de_int) (de_idx (de_var 1) de_int)) da_nil)))))
theorem ok8 (T : Ft K mg ca) {k : Nat} (L : LvW P w K mg base ca k) : Cal P w K mg base ca (3 * k + 4) "plus" 2 (run (k + 1) 8) := by
  obtain ⟨f, fd, h1, h2, F⟩ := T.f8
  exact ⟨f, fd, ["one", "other"], h1, h2, F.binds (ps := ["one", "other"]) fun _ _ _ _ _ _ us hl => match us, hl with | [_, _], _ => rfl, dv8 T L F⟩
theorem z8 (T : Ft K mg ca) : Cal P w K mg base ca 1 "plus" 2 (run 0 8) := by
  obtain ⟨f, fd, h1, h2, F⟩ := T.f8
  exact ⟨f, fd, ["one", "other"], h1, h2, F.binds (ps := ["one", "other"]) fun _ _ _ _ _ _ us hl => match us, hl with | [_, _], _ => rfl, F.okX sc8 (fun vs H Q E h => (spF_no h).elim) fun cdv A outer s H vs Q E hr h => (spF_no h).elim⟩
theorem sc9 : FnScope ["fractions", "found", "one"] ["fractions"] (defScope (top 17)) := ⟨rfl, rfl, rfl, by decide +kernel, rfl, by decide +kernel, by decide +kernel⟩
theorem dv9 (T : Ft K mg ca) {k : Nat} (L : LvW P w K mg base ca k) {f : Addr} {fd : FuncData} (F : Fun K "total" "total" (top 17) f fd) : FnOk P w K mg base (L2.CX P w) (3 * k + 4) f fd ["fractions"] (spF K ca 1 (run (k + 1) 9)) := by
  rw [run9]
  refine fn_d (k := 3 * k + 3) (N := ["fractions", "found", "one"]) F sc9 rfl fun cdv A outer s H E hrL => ?_
  have hrM := hrL.mono (show 3 * k + 2 ≤ 3 * k + 3 by omega)
  have hr : Room (3 * k + 1) (A.deeper (envOfC "total" (defScope (top 17)) s.heap.objs.size f cdv)) := hrL.mono (by omega)
  have hu := hr.units
  have nd := sc9.nd
  have tk : Takes (cxOf (L2.CX P w) P w K mg base ["fractions", "found", "one"] "total" (defScope (top 17)) f cdv A outer s H E) (fun cls d _ H => E cls d H) := takes_of rfl rfl rfl rfl
  exact (dss_cons (ds_set 1 nd (de_glob T.c_NOUGHT))
  (dss_cons (ds_for (passes_of rfl) rfl (di_any (de_var 0)) (dgn 2 nd) (dss_one (ds_set 1 nd (de_call L.h8 hr tk (da_cons (de_var 1) (da_cons (de_var 2) da_nil))))))
  (dss_one (ds_ret (de_var 1)))))
theorem ok9 (T : Ft K mg ca) {k : Nat} (L : LvW P w K mg base ca k) : Cal P w K mg base ca (3 * k + 4) "total" 1 (run (k + 1) 9) := by
  obtain ⟨f, fd, h1, h2, F⟩ := T.f9
  exact ⟨f, fd, ["fractions"], h1, h2, F.binds (ps := ["fractions"]) fun _ _ _ _ _ _ us hl => match us, hl with | [_], _ => rfl, dv9 T L F⟩
theorem z9 (T : Ft K mg ca) : Cal P w K mg base ca 1 "total" 1 (run 0 9) := by
  obtain ⟨f, fd, h1, h2, F⟩ := T.f9
  exact ⟨f, fd, ["fractions"], h1, h2, F.binds (ps := ["fractions"]) fun _ _ _ _ _ _ us hl => match us, hl with | [_], _ => rfl, F.okX sc9 (fun vs H Q E h => (spF_no h).elim) fun cdv A outer s H vs Q E hr h => (spF_no h).elim⟩
theorem sc10 : FnScope ["thing"] ["thing"] (defScope (top 18)) := ⟨rfl, rfl, rfl, by decide +kernel, rfl, by decide +kernel, by decide +kernel⟩
theorem dv10 (T : Ft K mg ca) {k : Nat} (L : LvW P w K mg base ca k) {f : Addr} {fd : FuncData} (F : Fun K "is_fraction" "is_fraction" (top 18) f fd) : FnOk P w K mg base (L2.CX P w) (3 * k + 4) f fd ["thing"] (spF K ca 1 (run (k + 1) 10)) := by
  rw [run10]
  refine fn_d (k := 3 * k + 3) (N := ["thing"]) F sc10 rfl fun cdv A outer s H E hrL => ?_
  have hrM := hrL.mono (show 3 * k + 2 ≤ 3 * k + 3 by omega)
  have hr : Room (3 * k + 1) (A.deeper (envOfC "is_fraction" (defScope (top 18)) s.heap.objs.size f cdv)) := hrL.mono (by omega)
  have hu := hr.units
  have nd := sc10.nd
  have tk : Takes (cxOf (L2.CX P w) P w K mg base ["thing"] "is_fraction" (defScope (top 18)) f cdv A outer s H E) (fun cls d _ H => E cls d H) := takes_of rfl rfl rfl rfl
  exact (dss_cons (ds_if (dt_w (dw_or (dt_not (dt_val (de_call L.h3 hr tk (da_cons (de_var 0) da_nil)))) (dw_or (dt_not (dt_val (de_call L.h0 hr tk (da_cons (de_idx (de_var 0) de_int) da_nil)))) (dw_or1 (dt_not (dt_val (de_call L.h0 hr tk (da_cons (de_idx (de_var 0) de_int) da_nil)))))))) (dss_one (ds_ret de_bl)) dss_nil)
  (dss_one (ds_ret (de_and (de_cmp op_gt (q_ord fun i j => decide (j < i)) (de_idx (de_var 0) de_int) de_int (nomark _)) (de_one (de_cmp (cm_eq hu) q_eq (de_call L.h6 hr tk (da_cons (de_idx (de_var 0) de_int) (da_cons (de_idx (de_var 0) de_int) da_nil))) de_int (nomark _)))))))
theorem ok10 (T : Ft K mg ca) {k : Nat} (L : LvW P w K mg base ca k) : Cal P w K mg base ca (3 * k + 4) "is_fraction" 1 (run (k + 1) 10) := by
  obtain ⟨f, fd, h1, h2, F⟩ := T.f10
  exact ⟨f, fd, ["thing"], h1, h2, F.binds (ps := ["thing"]) fun _ _ _ _ _ _ us hl => match us, hl with | [_], _ => rfl, dv10 T L F⟩
theorem z10 (T : Ft K mg ca) : Cal P w K mg base ca 1 "is_fraction" 1 (run 0 10) := by
  obtain ⟨f, fd, h1, h2, F⟩ := T.f10
  exact ⟨f, fd, ["thing"], h1, h2, F.binds (ps := ["thing"]) fun _ _ _ _ _ _ us hl => match us, hl with | [_], _ => rfl, F.okX sc10 (fun vs H Q E h => (spF_no h).elim) fun cdv A outer s H vs Q E hr h => (spF_no h).elim⟩
theorem sc11 : FnScope ["thing"] ["thing"] (defScope (top 19)) := ⟨rfl, rfl, rfl, by decide +kernel, rfl, by decide +kernel, by decide +kernel⟩
theorem dv11 (T : Ft K mg ca) {k : Nat} (L : LvW P w K mg base ca k) {f : Addr} {fd : FuncData} (F : Fun K "is_chance" "is_chance" (top 19) f fd) : FnOk P w K mg base (L2.CX P w) (3 * k + 4) f fd ["thing"] (spF K ca 1 (run (k + 1) 11)) := by
  rw [run11]
  refine fn_d (k := 3 * k + 3) (N := ["thing"]) F sc11 rfl fun cdv A outer s H E hrL => ?_
  have hrM := hrL.mono (show 3 * k + 2 ≤ 3 * k + 3 by omega)
  have hr : Room (3 * k + 1) (A.deeper (envOfC "is_chance" (defScope (top 19)) s.heap.objs.size f cdv)) := hrL.mono (by omega)
  have hu := hr.units
  have nd := sc11.nd
  have tk : Takes (cxOf (L2.CX P w) P w K mg base ["thing"] "is_chance" (defScope (top 19)) f cdv A outer s H E) (fun cls d _ H => E cls d H) := takes_of rfl rfl rfl rfl
  exact (dss_one (ds_ret (de_and (de_call L.h10 hr tk (da_cons (de_var 0) da_nil)) (de_one (de_chain op_le (q_ord fun i j => decide (i ≤ j)) op_le (q_ord fun i j => decide (i ≤ j)) de_int (de_idx (de_var 0) de_int) (de_idx (de_var 0) de_int))))))
theorem ok11 (T : Ft K mg ca) {k : Nat} (L : LvW P w K mg base ca k) : Cal P w K mg base ca (3 * k + 4) "is_chance" 1 (run (k + 1) 11) := by
  obtain ⟨f, fd, h1, h2, F⟩ := T.f11
  exact ⟨f, fd, ["thing"], h1, h2, F.binds (ps := ["thing"]) fun _ _ _ _ _ _ us hl => match us, hl with | [_], _ => rfl, dv11 T L F⟩
theorem z11 (T : Ft K mg ca) : Cal P w K mg base ca 1 "is_chance" 1 (run 0 11) := by
  obtain ⟨f, fd, h1, h2, F⟩ := T.f11
  exact ⟨f, fd, ["thing"], h1, h2, F.binds (ps := ["thing"]) fun _ _ _ _ _ _ us hl => match us, hl with | [_], _ => rfl, F.okX sc11 (fun vs H Q E h => (spF_no h).elim) fun cdv A outer s H vs Q E hr h => (spF_no h).elim⟩
theorem sc12 : FnScope ["thing", "number"] ["thing"] (defScope (top 28)) := ⟨rfl, rfl, rfl, by decide +kernel, rfl, by decide +kernel, by decide +kernel⟩
theorem dv12 (T : Ft K mg ca) {k : Nat} (L : LvW P w K mg base ca k) {f : Addr} {fd : FuncData} (F : Fun K "is_word" "is_word" (top 28) f fd) : FnOk P w K mg base (L2.CX P w) (3 * k + 4) f fd ["thing"] (spF K ca 1 (run (k + 1) 12)) := by
  rw [run12]
  refine fn_d (k := 3 * k + 3) (N := ["thing", "number"]) F sc12 rfl fun cdv A outer s H E hrL => ?_
  have hrM := hrL.mono (show 3 * k + 2 ≤ 3 * k + 3 by omega)
  have hr : Room (3 * k + 1) (A.deeper (envOfC "is_word" (defScope (top 28)) s.heap.objs.size f cdv)) := hrL.mono (by omega)
  have hu := hr.units
  have nd := sc12.nd
  have tk : Takes (cxOf (L2.CX P w) P w K mg base ["thing", "number"] "is_word" (defScope (top 28)) f cdv A outer s H E) (fun cls d _ H => E cls d H) := takes_of rfl rfl rfl rfl
  exact (dss_one (ds_ret (de_and (de_call L.h2 hr tk (da_cons (de_var 0) (da_cons de_int (da_cons (de_glob T.c_MOST_NUMBERS) da_nil)))) (de_one (de_bi bb_all (cr_all rfl) q_all T.m_all (da_cons (de_lc [("number", 1)] rfl nd (by refine blkOk_by ?_; dsimp only [cxOf, Cx.blk, envOfC, compEnvC, relabel, Env.kindOf]; first | decide +kernel | kernel_rfl | rfl) (di_any (de_var 0)) (fun _ _ _ _ _ => (dgn 1 nd)) (by decide) (fun _ _ _ _ _ => dts_nil) (fun _ _ _ _ _ => (de_call L.h1 hr takes0 (da_cons (de_var 1) (da_cons de_int (da_cons (de_glob T.c_MOST_NUMBER) da_nil)))))) da_nil))))))
theorem ok12 (T : Ft K mg ca) {k : Nat} (L : LvW P w K mg base ca k) : Cal P w K mg base ca (3 * k + 4) "is_word" 1 (run (k + 1) 12) := by
  obtain ⟨f, fd, h1, h2, F⟩ := T.f12
  exact ⟨f, fd, ["thing"], h1, h2, F.binds (ps := ["thing"]) fun _ _ _ _ _ _ us hl => match us, hl with | [_], _ => rfl, dv12 T L F⟩
theorem z12 (T : Ft K mg ca) : Cal P w K mg base ca 1 "is_word" 1 (run 0 12) := by
  obtain ⟨f, fd, h1, h2, F⟩ := T.f12
  exact ⟨f, fd, ["thing"], h1, h2, F.binds (ps := ["thing"]) fun _ _ _ _ _ _ us hl => match us, hl with | [_], _ => rfl, F.okX sc12 (fun vs H Q E h => (spF_no h).elim) fun cdv A outer s H vs Q E hr h => (spF_no h).elim⟩
theorem sc13 : FnScope ["worlds", "thing", "chance"] ["worlds", "thing"] (defScope (top 29)) := ⟨rfl, rfl, rfl, by decide +kernel, rfl, by decide +kernel, by decide +kernel⟩
theorem dv13 (T : Ft K mg ca) {k : Nat} (L : LvW P w K mg base ca k) {f : Addr} {fd : FuncData} (F : Fun K "is_answer" "is_answer" (top 29) f fd) : FnOk P w K mg base (L2.CX P w) (3 * k + 4) f fd ["worlds", "thing"] (spF K ca 2 (run (k + 1) 13)) := by
  rw [run13]
  refine fn_d (k := 3 * k + 3) (N := ["worlds", "thing", "chance"]) F sc13 rfl fun cdv A outer s H E hrL => ?_
  have hrM := hrL.mono (show 3 * k + 2 ≤ 3 * k + 3 by omega)
  have hr : Room (3 * k + 1) (A.deeper (envOfC "is_answer" (defScope (top 29)) s.heap.objs.size f cdv)) := hrL.mono (by omega)
  have hu := hr.units
  have nd := sc13.nd
  have tk : Takes (cxOf (L2.CX P w) P w K mg base ["worlds", "thing", "chance"] "is_answer" (defScope (top 29)) f cdv A outer s H E) (fun cls d _ H => E cls d H) := takes_of rfl rfl rfl rfl
  exact (dss_cons (ds_if (dt_w (dw_or (dt_not (dt_val (de_call L.h4 hr tk (da_cons (de_var 1) da_nil)))) (dw_or (dt_not (dt_val (de_call L.h12 hr tk (da_cons (de_idx (de_var 1) de_int) da_nil)))) (dw_or1 (dt_not (dt_val (de_call L.h2 hr tk (da_cons (de_idx (de_var 1) de_int) (da_cons (de_var 0) (da_cons (de_var 0) da_nil)))))))))) (dss_one (ds_ret de_bl)) dss_nil)
  (dss_one (ds_ret (de_bi bb_all (cr_all rfl) q_all T.m_all (da_cons (de_lc [("chance", 2)] rfl nd (by refine blkOk_by ?_; dsimp only [cxOf, Cx.blk, envOfC, compEnvC, relabel, Env.kindOf]; first | decide +kernel | kernel_rfl | rfl) (di_any (de_idx (de_var 1) de_int)) (fun _ _ _ _ _ => (dgn 2 nd)) (by decide) (fun _ _ _ _ _ => dts_nil) (fun _ _ _ _ _ => (de_call L.h11 hr takes0 (da_cons (de_var 2) da_nil)))) da_nil)))))
theorem ok13 (T : Ft K mg ca) {k : Nat} (L : LvW P w K mg base ca k) : Cal P w K mg base ca (3 * k + 4) "is_answer" 2 (run (k + 1) 13) := by
  obtain ⟨f, fd, h1, h2, F⟩ := T.f13
  exact ⟨f, fd, ["worlds", "thing"], h1, h2, F.binds (ps := ["worlds", "thing"]) fun _ _ _ _ _ _ us hl => match us, hl with | [_, _], _ => rfl, dv13 T L F⟩
theorem z13 (T : Ft K mg ca) : Cal P w K mg base ca 1 "is_answer" 2 (run 0 13) := by
  obtain ⟨f, fd, h1, h2, F⟩ := T.f13
  exact ⟨f, fd, ["worlds", "thing"], h1, h2, F.binds (ps := ["worlds", "thing"]) fun _ _ _ _ _ _ us hl => match us, hl with | [_, _], _ => rfl, F.okX sc13 (fun vs H Q E h => (spF_no h).elim) fun cdv A outer s H vs Q E hr h => (spF_no h).elim⟩
theorem sc14 : FnScope ["worlds", "question", "world", "answer"] ["worlds", "question"] (defScope (top 30)) := ⟨rfl, rfl, rfl, by decide +kernel, rfl, by decide +kernel, by decide +kernel⟩
theorem dv14 (T : Ft K mg ca) {k : Nat} (L : LvW P w K mg base ca k) {f : Addr} {fd : FuncData} (F : Fun K "added_weights" "added_weights" (top 30) f fd) : FnOk P w K mg base (L2.CX P w) (3 * k + 4) f fd ["worlds", "question"] (spF K ca 2 (run (k + 1) 14)) := by
  rw [run14]
  refine fn_d (k := 3 * k + 3) (N := ["worlds", "question", "world", "answer"]) F sc14 rfl fun cdv A outer s H E hrL => ?_
  have hrM := hrL.mono (show 3 * k + 2 ≤ 3 * k + 3 by omega)
  have hr : Room (3 * k + 1) (A.deeper (envOfC "added_weights" (defScope (top 30)) s.heap.objs.size f cdv)) := hrL.mono (by omega)
  have hu := hr.units
  have nd := sc14.nd
  have tk : Takes (cxOf (L2.CX P w) P w K mg base ["worlds", "question", "world", "answer"] "added_weights" (defScope (top 30)) f cdv A outer s H E) (fun cls d _ H => E cls d H) := takes_of rfl rfl rfl rfl
  exact (dss_one (ds_ret (de_ty bb_tuple call_tuple_of q_tuple T.m_tuple (da_cons (de_lc [("world", 2)] rfl nd (by refine blkOk_by ?_; dsimp only [cxOf, Cx.blk, envOfC, compEnvC, relabel, Env.kindOf]; first | decide +kernel | kernel_rfl | rfl) (di_rg1 T.m_range (de_var 0)) (fun _ _ _ _ _ => (dgn 2 nd)) (by decide) (fun _ _ _ _ _ => dts_nil) (fun _ _ _ _ _ => (de_call L.h9 hr takes0 (da_cons (de_lc [("answer", 3)] rfl nd (by refine blkOk_by ?_; dsimp only [cxOf, Cx.blk, envOfC, compEnvC, relabel, Env.kindOf]; first | decide +kernel | kernel_rfl | rfl) (di_any (de_var 1)) (fun _ _ _ _ _ => (dgn 3 nd)) (by decide) (fun _ _ _ _ _ => dts_nil) (fun _ _ _ _ _ => (de_idx (de_idx (de_var 3) de_int) (de_var 2)))) da_nil)))) da_nil))))
theorem ok14 (T : Ft K mg ca) {k : Nat} (L : LvW P w K mg base ca k) : Cal P w K mg base ca (3 * k + 4) "added_weights" 2 (run (k + 1) 14) := by
  obtain ⟨f, fd, h1, h2, F⟩ := T.f14
  exact ⟨f, fd, ["worlds", "question"], h1, h2, F.binds (ps := ["worlds", "question"]) fun _ _ _ _ _ _ us hl => match us, hl with | [_, _], _ => rfl, dv14 T L F⟩
theorem z14 (T : Ft K mg ca) : Cal P w K mg base ca 1 "added_weights" 2 (run 0 14) := by
  obtain ⟨f, fd, h1, h2, F⟩ := T.f14
  exact ⟨f, fd, ["worlds", "question"], h1, h2, F.binds (ps := ["worlds", "question"]) fun _ _ _ _ _ _ us hl => match us, hl with | [_, _], _ => rfl, F.okX sc14 (fun vs H Q E h => (spF_no h).elim) fun cdv A outer s H vs Q E hr h => (spF_no h).elim⟩
theorem sc15 : FnScope ["worlds", "node", "ahead", "place", "number", "question", "wrong"] ["worlds", "node", "ahead", "place"] (defScope (top 31)) := ⟨rfl, rfl, rfl, by decide +kernel, rfl, by decide +kernel, by decide +kernel⟩
theorem dv15 (T : Ft K mg ca) {k : Nat} (L : LvW P w K mg base ca k) {f : Addr} {fd : FuncData} (F : Fun K "wrong_in_node" "wrong_in_node" (top 31) f fd) : FnOk P w K mg base (L2.CX P w) (3 * k + 4) f fd ["worlds", "node", "ahead", "place"] (spF K ca 4 (run (k + 1) 15)) := by
  rw [run15]
  refine fn_d (k := 3 * k + 3) (N := ["worlds", "node", "ahead", "place", "number", "question", "wrong"]) F sc15 rfl fun cdv A outer s H E hrL => ?_
  have hrM := hrL.mono (show 3 * k + 2 ≤ 3 * k + 3 by omega)
  have hr : Room (3 * k + 1) (A.deeper (envOfC "wrong_in_node" (defScope (top 31)) s.heap.objs.size f cdv)) := hrL.mono (by omega)
  have hu := hr.units
  have nd := sc15.nd
  have tk : Takes (cxOf (L2.CX P w) P w K mg base ["worlds", "node", "ahead", "place", "number", "question", "wrong"] "wrong_in_node" (defScope (top 31)) f cdv A outer s H E) (fun cls d _ H => E cls d H) := takes_of rfl rfl rfl rfl
  exact (dss_cons (ds_if (dt_w (dw_or (dt_not (dt_val (de_call L.h2 hr tk (da_cons (de_var 1) (da_cons de_int (da_cons (de_glob T.c_MOST_QUESTIONS) da_nil)))))) (dw_or1 (dt_w (dw_and (dt_cmp (cm_eq hu) q_eq (de_bi bb_len call_len q_len T.m_len (da_cons (de_var 3) da_nil)) (de_mul de_int (de_glob T.c_MOST_ROUNDS)) (nomark _)) (dw_and1 (dt_cmp op_gt (q_ord fun i j => decide (j < i)) (de_bi bb_len call_len q_len T.m_len (da_cons (de_var 1) da_nil)) de_int (nomark _)))))))) (dss_one (ds_ret (de_var 3))) dss_nil)
  (dss_cons (ds_for (passes_of rfl) rfl (di_en T.m_enumerate (de_var 1)) (dg_tup rfl (dgs_cons (dgn 4 nd) (dgs_cons (dgn 5 nd) dgs_nil))) (dss_cons (ds_set 6 nd (de_call L.h16 hr tk (da_cons (de_var 0) (da_cons (de_var 5) (da_cons (de_var 2) (da_cons (de_add (de_var 3) (de_tup (da_cons (de_var 4) da_nil))) da_nil))))))
  (dss_one (ds_if (dt_cmp op_isnotA (q_is true) (de_var 6) de_non (nomark _)) (dss_one (ds_ret (de_var 6))) dss_nil))))
  (dss_one (ds_ret de_non))))
theorem ok15 (T : Ft K mg ca) {k : Nat} (L : LvW P w K mg base ca k) : Cal P w K mg base ca (3 * k + 4) "wrong_in_node" 4 (run (k + 1) 15) := by
  obtain ⟨f, fd, h1, h2, F⟩ := T.f15
  exact ⟨f, fd, ["worlds", "node", "ahead", "place"], h1, h2, F.binds (ps := ["worlds", "node", "ahead", "place"]) fun _ _ _ _ _ _ us hl => match us, hl with | [_, _, _, _], _ => rfl, dv15 T L F⟩
theorem z15 (T : Ft K mg ca) : Cal P w K mg base ca 1 "wrong_in_node" 4 (run 0 15) := by
  obtain ⟨f, fd, h1, h2, F⟩ := T.f15
  exact ⟨f, fd, ["worlds", "node", "ahead", "place"], h1, h2, F.binds (ps := ["worlds", "node", "ahead", "place"]) fun _ _ _ _ _ _ us hl => match us, hl with | [_, _, _, _], _ => rfl, F.okX sc15 (fun vs H Q E h => (spF_no h).elim) fun cdv A outer s H vs Q E hr h => (spF_no h).elim⟩
theorem sc16 : FnScope ["worlds", "question", "ahead", "place", "number", "answer", "wrong"] ["worlds", "question", "ahead", "place"] (defScope (top 32)) := ⟨rfl, rfl, rfl, by decide +kernel, rfl, by decide +kernel, by decide +kernel⟩
theorem dv16 (T : Ft K mg ca) {k : Nat} (L : LvW P w K mg base ca k) {f : Addr} {fd : FuncData} (F : Fun K "wrong_in_question" "wrong_in_question" (top 32) f fd) : FnOk P w K mg base (L2.CX P w) (3 * k + 4) f fd ["worlds", "question", "ahead", "place"] (spF K ca 4 (run (k + 1) 16)) := by
  rw [run16]
  refine fn_d (k := 3 * k + 3) (N := ["worlds", "question", "ahead", "place", "number", "answer", "wrong"]) F sc16 rfl fun cdv A outer s H E hrL => ?_
  have hrM := hrL.mono (show 3 * k + 2 ≤ 3 * k + 3 by omega)
  have hr : Room (3 * k + 1) (A.deeper (envOfC "wrong_in_question" (defScope (top 32)) s.heap.objs.size f cdv)) := hrL.mono (by omega)
  have hu := hr.units
  have nd := sc16.nd
  have tk : Takes (cxOf (L2.CX P w) P w K mg base ["worlds", "question", "ahead", "place", "number", "answer", "wrong"] "wrong_in_question" (defScope (top 32)) f cdv A outer s H E) (fun cls d _ H => E cls d H) := takes_of rfl rfl rfl rfl
  exact (dss_cons (ds_if (dt_not (dt_val (de_call L.h2 hr tk (da_cons (de_var 1) (da_cons de_int (da_cons (de_glob T.c_MOST_ANSWERS) da_nil)))))) (dss_one (ds_ret (de_var 3))) dss_nil)
  (dss_cons (ds_for (passes_of rfl) rfl (di_en T.m_enumerate (de_var 1)) (dg_tup rfl (dgs_cons (dgn 4 nd) (dgs_cons (dgn 5 nd) dgs_nil))) (dss_one (ds_if (dt_not (dt_val (de_call L.h13 hr tk (da_cons (de_var 0) (da_cons (de_var 5) da_nil))))) (dss_one (ds_ret (de_add (de_var 3) (de_tup (da_cons (de_var 4) da_nil))))) dss_nil)))
  (dss_cons (ds_if (dt_w (dw_or (dt_not (dt_val (de_call L.h5 hr tk (da_cons (de_lc [("answer", 5)] rfl nd (by refine blkOk_by ?_; dsimp only [cxOf, Cx.blk, envOfC, compEnvC, relabel, Env.kindOf]; first | decide +kernel | kernel_rfl | rfl) (di_any (de_var 1)) (fun _ _ _ _ _ => (dgn 5 nd)) (by decide) (fun _ _ _ _ _ => dts_nil) (fun _ _ _ _ _ => (de_idx (de_var 5) de_int))) da_nil)))) (dw_or1 (dt_cmp (cm_ne hu) q_ne (de_call L.h14 hr tk (da_cons (de_var 0) (da_cons (de_var 1) da_nil))) (de_var 2) (nomark _))))) (dss_one (ds_ret (de_var 3))) dss_nil)
  (dss_cons (ds_for (passes_of rfl) rfl (di_en T.m_enumerate (de_var 1)) (dg_tup rfl (dgs_cons (dgn 4 nd) (dgs_cons (dgn 5 nd) dgs_nil))) (dss_cons (ds_set 6 nd (de_call L.h15 hr tk (da_cons (de_var 0) (da_cons (de_idx (de_var 5) de_int) (da_cons (de_idx (de_var 5) de_int) (da_cons (de_add (de_var 3) (de_tup (da_cons (de_var 4) da_nil))) da_nil))))))
  (dss_one (ds_if (dt_cmp op_isnotA (q_is true) (de_var 6) de_non (nomark _)) (dss_one (ds_ret (de_var 6))) dss_nil))))
  (dss_one (ds_ret de_non))))))
theorem ok16 (T : Ft K mg ca) {k : Nat} (L : LvW P w K mg base ca k) : Cal P w K mg base ca (3 * k + 4) "wrong_in_question" 4 (run (k + 1) 16) := by
  obtain ⟨f, fd, h1, h2, F⟩ := T.f16
  exact ⟨f, fd, ["worlds", "question", "ahead", "place"], h1, h2, F.binds (ps := ["worlds", "question", "ahead", "place"]) fun _ _ _ _ _ _ us hl => match us, hl with | [_, _, _, _], _ => rfl, dv16 T L F⟩
theorem z16 (T : Ft K mg ca) : Cal P w K mg base ca 1 "wrong_in_question" 4 (run 0 16) := by
  obtain ⟨f, fd, h1, h2, F⟩ := T.f16
  exact ⟨f, fd, ["worlds", "question", "ahead", "place"], h1, h2, F.binds (ps := ["worlds", "question", "ahead", "place"]) fun _ _ _ _ _ _ us hl => match us, hl with | [_, _, _, _], _ => rfl, F.okX sc16 (fun vs H Q E h => (spF_no h).elim) fun cdv A outer s H vs Q E hr h => (spF_no h).elim⟩
theorem sc17 : FnScope ["node", "question", "answer"] ["node"] (defScope (top 33)) := ⟨rfl, rfl, rfl, by decide +kernel, rfl, by decide +kernel, by decide +kernel⟩
theorem dv17 (T : Ft K mg ca) {k : Nat} (L : LvW P w K mg base ca k) {f : Addr} {fd : FuncData} (F : Fun K "count_answers" "count_answers" (top 33) f fd) : FnOk P w K mg base (L2.CX P w) (3 * k + 4) f fd ["node"] (spF K ca 1 (run (k + 1) 17)) := by
  rw [run17]
  refine fn_d (k := 3 * k + 3) (N := ["node", "question", "answer"]) F sc17 rfl fun cdv A outer s H E hrL => ?_
  have hrM := hrL.mono (show 3 * k + 2 ≤ 3 * k + 3 by omega)
  have hr : Room (3 * k + 1) (A.deeper (envOfC "count_answers" (defScope (top 33)) s.heap.objs.size f cdv)) := hrL.mono (by omega)
  have hu := hr.units
  have nd := sc17.nd
  have tk : Takes (cxOf (L2.CX P w) P w K mg base ["node", "question", "answer"] "count_answers" (defScope (top 33)) f cdv A outer s H E) (fun cls d _ H => E cls d H) := takes_of rfl rfl rfl rfl
  exact (dss_one (ds_ret (de_bi bb_sum (cr_sum rfl) q_sum T.m_sum (da_cons (de_lc2 [("question", 1), ("answer", 2)] [2] (by decide) rfl nd (by refine blkOk_by ?_; dsimp only [cxOf, Cx.blk, envOfC, compEnvC, relabel, Env.kindOf]; first | decide +kernel | kernel_rfl | rfl) (di_any (de_var 0)) (fun _ _ _ _ _ => (dgn 1 nd)) (by decide) (fun _ _ _ _ _ => dts_nil) (fun _ _ _ _ _ => (di_any (de_var 1))) (fun _ _ _ _ _ => (dgn 2 nd)) (by decide) (fun _ _ _ _ _ => dts_nil) (fun _ _ _ _ _ => (de_add de_int (de_call L.h17 hr takes0 (da_cons (de_idx (de_var 2) de_int) da_nil))))) da_nil))))
theorem ok17 (T : Ft K mg ca) {k : Nat} (L : LvW P w K mg base ca k) : Cal P w K mg base ca (3 * k + 4) "count_answers" 1 (run (k + 1) 17) := by
  obtain ⟨f, fd, h1, h2, F⟩ := T.f17
  exact ⟨f, fd, ["node"], h1, h2, F.binds (ps := ["node"]) fun _ _ _ _ _ _ us hl => match us, hl with | [_], _ => rfl, dv17 T L F⟩
theorem z17 (T : Ft K mg ca) : Cal P w K mg base ca 1 "count_answers" 1 (run 0 17) := by
  obtain ⟨f, fd, h1, h2, F⟩ := T.f17
  exact ⟨f, fd, ["node"], h1, h2, F.binds (ps := ["node"]) fun _ _ _ _ _ _ us hl => match us, hl with | [_], _ => rfl, F.okX sc17 (fun vs H Q E h => (spF_no h).elim) fun cdv A outer s H vs Q E hr h => (spF_no h).elim⟩
theorem sc18 : FnScope ["self", "worlds", "tree", "wrong"] ["self", "worlds", "tree"] (defScope (inClass (top 34) 0)) := ⟨rfl, rfl, rfl, by decide +kernel, rfl, by decide +kernel, by decide +kernel⟩
theorem dv18 (T : Ft K mg ca) {k : Nat} (L : LvW P w K mg base ca k) {f : Addr} {fd : FuncData} (F : Fun K "__init__" "House.__init__" (inClass (top 34) 0) f fd) : FnOk P w K mg base (L2.CX P w) (3 * k + 4) f fd ["self", "worlds", "tree"] (spF K ca 3 (run (k + 1) 18)) := by
  rw [run18]
  refine fn_d (k := 3 * k + 3) (N := ["self", "worlds", "tree", "wrong"]) F sc18 rfl fun cdv A outer s H E hrL => ?_
  have hrM := hrL.mono (show 3 * k + 2 ≤ 3 * k + 3 by omega)
  have hr : Room (3 * k + 1) (A.deeper (envOfC "House.__init__" (defScope (inClass (top 34) 0)) s.heap.objs.size f cdv)) := hrL.mono (by omega)
  have hu := hr.units
  have nd := sc18.nd
  have tk : Takes (cxOf (L2.CX P w) P w K mg base ["self", "worlds", "tree", "wrong"] "House.__init__" (defScope (inClass (top 34) 0)) f cdv A outer s H E) (fun cls d _ H => E cls d H) := takes_of rfl rfl rfl rfl
  exact (dss_cons (ds_if (dt_not (dt_val (de_call L.h1 hr tk (da_cons (de_var 1) (da_cons de_int (da_cons (de_glob T.c_MOST_WORLDS) da_nil)))))) (dss_one ds_never) dss_nil)
  (dss_cons (ds_set 3 nd (de_call L.h15 hr tk (da_cons (de_var 1) (da_cons (de_var 2) (da_cons (de_mul (de_tup (da_cons (de_glob T.c_ONE) da_nil)) (de_var 1)) (da_cons (de_tup da_nil) da_nil))))))
  (dss_cons (ds_if (dt_cmp op_isnotA (q_is true) (de_var 3) de_non (nomark _)) (dss_one ds_never) dss_nil)
  (dss_cons (ds_if (dt_cmp op_gt (q_ord fun i j => decide (j < i)) (de_call L.h17 hr tk (da_cons (de_var 2) da_nil)) (de_glob T.c_MOST_IN_ALL) (nomark _)) (dss_one ds_never) dss_nil)
  (dss_cons (ds_fldS (T.n_worlds 0 (by decide)).1 (T.n_worlds 0 (by decide)).2 (de_var 0) (de_var 1))
  (dss_one (ds_fldS (T.n_tree 0 (by decide)).1 (T.n_tree 0 (by decide)).2 (de_var 0) (de_var 2))))))))
theorem ok18 (T : Ft K mg ca) {k : Nat} (L : LvW P w K mg base ca k) : Mkd P w K mg base ca (3 * k + 4) "House" 0 3 (run (k + 1) 18) := by
  obtain ⟨f, fd, h1, h2, F⟩ := T.f18
  exact ⟨f, fd, ["self", "worlds", "tree"], h1, h2, F.binds (ps := ["self", "worlds", "tree"]) fun _ _ _ _ _ _ us hl => match us, hl with | [_, _, _], _ => rfl, dv18 T L F⟩
theorem z18 (T : Ft K mg ca) : Mkd P w K mg base ca 1 "House" 0 3 (run 0 18) := by
  obtain ⟨f, fd, h1, h2, F⟩ := T.f18
  exact ⟨f, fd, ["self", "worlds", "tree"], h1, h2, F.binds (ps := ["self", "worlds", "tree"]) fun _ _ _ _ _ _ us hl => match us, hl with | [_, _, _], _ => rfl, F.okX sc18 (fun vs H Q E h => (spF_no h).elim) fun cdv A outer s H vs Q E hr h => (spF_no h).elim⟩
theorem sc19 : FnScope ["one", "other"] ["one", "other"] (defScope (top 35)) := ⟨rfl, rfl, rfl, by decide +kernel, rfl, by decide +kernel, by decide +kernel⟩
theorem dv19 (T : Ft K mg ca) {k : Nat} (L : LvW P w K mg base ca k) {f : Addr} {fd : FuncData} (F : Fun K "check_alike" "check_alike" (top 35) f fd) : FnOk P w K mg base (L2.CX P w) (3 * k + 4) f fd ["one", "other"] (spF K ca 2 (run (k + 1) 19)) := by
  rw [run19]
  refine fn_d (k := 3 * k + 3) (N := ["one", "other"]) F sc19 rfl fun cdv A outer s H E hrL => ?_
  have hrM := hrL.mono (show 3 * k + 2 ≤ 3 * k + 3 by omega)
  have hr : Room (3 * k + 1) (A.deeper (envOfC "check_alike" (defScope (top 35)) s.heap.objs.size f cdv)) := hrL.mono (by omega)
  have hu := hr.units
  have nd := sc19.nd
  have tk : Takes (cxOf (L2.CX P w) P w K mg base ["one", "other"] "check_alike" (defScope (top 35)) f cdv A outer s H E) (fun cls d _ H => E cls d H) := takes_of rfl rfl rfl rfl
  exact (dss_one (ds_if (dt_cmp (cm_ne hu) q_ne (de_fldN T.n_worlds (de_var 0)) (de_fldN T.n_worlds (de_var 1)) (nomark _)) (dss_one (ds_raise0 T.x_NotAlike rfl tk)) dss_nil))
theorem ok19 (T : Ft K mg ca) {k : Nat} (L : LvW P w K mg base ca k) : Cal P w K mg base ca (3 * k + 4) "check_alike" 2 (run (k + 1) 19) := by
  obtain ⟨f, fd, h1, h2, F⟩ := T.f19
  exact ⟨f, fd, ["one", "other"], h1, h2, F.binds (ps := ["one", "other"]) fun _ _ _ _ _ _ us hl => match us, hl with | [_, _], _ => rfl, dv19 T L F⟩
theorem z19 (T : Ft K mg ca) : Cal P w K mg base ca 1 "check_alike" 2 (run 0 19) := by
  obtain ⟨f, fd, h1, h2, F⟩ := T.f19
  exact ⟨f, fd, ["one", "other"], h1, h2, F.binds (ps := ["one", "other"]) fun _ _ _ _ _ _ us hl => match us, hl with | [_, _], _ => rfl, F.okX sc19 (fun vs H Q E h => (spF_no h).elim) fun cdv A outer s H vs Q E hr h => (spF_no h).elim⟩
theorem sc20 : FnScope ["node", "goal", "thing", "question", "move"] ["node", "goal", "thing"] (defScope (top 37)) := ⟨rfl, rfl, rfl, by decide +kernel, rfl, by decide +kernel, by decide +kernel⟩
theorem dv20 (T : Ft K mg ca) {k : Nat} (L : LvW P w K mg base ca k) {f : Addr} {fd : FuncData} (F : Fun K "is_wait" "is_wait" (top 37) f fd) : FnOk P w K mg base (L2.CX P w) (3 * k + 4) f fd ["node", "goal", "thing"] (spF K ca 3 (run (k + 1) 20)) := by
  rw [run20]
  refine fn_d (k := 3 * k + 3) (N := ["node", "goal", "thing", "question", "move"]) F sc20 rfl fun cdv A outer s H E hrL => ?_
  have hrM := hrL.mono (show 3 * k + 2 ≤ 3 * k + 3 by omega)
  have hr : Room (3 * k + 1) (A.deeper (envOfC "is_wait" (defScope (top 37)) s.heap.objs.size f cdv)) := hrL.mono (by omega)
  have hu := hr.units
  have nd := sc20.nd
  have tk : Takes (cxOf (L2.CX P w) P w K mg base ["node", "goal", "thing", "question", "move"] "is_wait" (defScope (top 37)) f cdv A outer s H E) (fun cls d _ H => E cls d H) := takes_of rfl rfl rfl rfl
  exact (dss_cons (ds_if (dt_not (dt_val (de_call L.h2 hr tk (da_cons (de_var 2) (da_cons (de_bi bb_len call_len q_len T.m_len (da_cons (de_var 1) da_nil)) (da_cons (de_bi bb_len call_len q_len T.m_len (da_cons (de_var 1) da_nil)) da_nil)))))) (dss_one (ds_ret de_bl)) dss_nil)
  (dss_one (ds_ret (de_bi bb_all (cr_all rfl) q_all T.m_all (da_cons (de_lc [("question", 3), ("move", 4)] rfl nd (by refine blkOk_by ?_; dsimp only [cxOf, Cx.blk, envOfC, compEnvC, relabel, Env.kindOf]; first | decide +kernel | kernel_rfl | rfl) (di_zip T.m_zip (de_var 1) (de_var 2)) (fun _ _ _ _ _ => (dg_tup rfl (dgs_cons (dgn 3 nd) (dgs_cons (dgn 4 nd) dgs_nil)))) (by decide) (fun _ _ _ _ _ => dts_nil) (fun _ _ _ _ _ => (de_call L.h21 hr takes0 (da_cons (de_var 0) (da_cons (de_var 3) (da_cons (de_var 4) da_nil)))))) da_nil)))))
theorem ok20 (T : Ft K mg ca) {k : Nat} (L : LvW P w K mg base ca k) : Cal P w K mg base ca (3 * k + 4) "is_wait" 3 (run (k + 1) 20) := by
  obtain ⟨f, fd, h1, h2, F⟩ := T.f20
  exact ⟨f, fd, ["node", "goal", "thing"], h1, h2, F.binds (ps := ["node", "goal", "thing"]) fun _ _ _ _ _ _ us hl => match us, hl with | [_, _, _], _ => rfl, dv20 T L F⟩
theorem z20 (T : Ft K mg ca) : Cal P w K mg base ca 1 "is_wait" 3 (run 0 20) := by
  obtain ⟨f, fd, h1, h2, F⟩ := T.f20
  exact ⟨f, fd, ["node", "goal", "thing"], h1, h2, F.binds (ps := ["node", "goal", "thing"]) fun _ _ _ _ _ _ us hl => match us, hl with | [_, _, _], _ => rfl, F.okX sc20 (fun vs H Q E h => (spF_no h).elim) fun cdv A outer s H vs Q E hr h => (spF_no h).elim⟩
theorem sc21 : FnScope ["node", "question", "thing", "word", "number", "rest", "answer", "move"] ["node", "question", "thing"] (defScope (top 38)) := ⟨rfl, rfl, rfl, by decide +kernel, rfl, by decide +kernel, by decide +kernel⟩
theorem dv21 (T : Ft K mg ca) {k : Nat} (L : LvW P w K mg base ca k) {f : Addr} {fd : FuncData} (F : Fun K "is_move" "is_move" (top 38) f fd) : FnOk P w K mg base (L2.CX P w) (3 * k + 4) f fd ["node", "question", "thing"] (spF K ca 3 (run (k + 1) 21)) := by
  rw [run21]
  refine fn_d (k := 3 * k + 3) (N := ["node", "question", "thing", "word", "number", "rest", "answer", "move"]) F sc21 rfl fun cdv A outer s H E hrL => ?_
  have hrM := hrL.mono (show 3 * k + 2 ≤ 3 * k + 3 by omega)
  have hr : Room (3 * k + 1) (A.deeper (envOfC "is_move" (defScope (top 38)) s.heap.objs.size f cdv)) := hrL.mono (by omega)
  have hu := hr.units
  have nd := sc21.nd
  have tk : Takes (cxOf (L2.CX P w) P w K mg base ["node", "question", "thing", "word", "number", "rest", "answer", "move"] "is_move" (defScope (top 38)) f cdv A outer s H E) (fun cls d _ H => E cls d H) := takes_of rfl rfl rfl rfl
  exact (dss_cons (ds_if (dt_w (dw_or (dt_not (dt_val (de_call L.h4 hr tk (da_cons (de_var 2) da_nil)))) (dw_or1 (dt_not (dt_val (de_isi bb_str T.m_isinstance T.m_str (de_idx (de_var 2) de_int))))))) (dss_one (ds_ret de_bl)) dss_nil)
  (dss_cons (ds_asg (de_var 2) (dg_tup rfl (dgs_cons (dgn 3 nd) (dgs_cons (dgn 4 nd) (dgs_cons (dgn 5 nd) dgs_nil)))))
  (dss_cons (ds_if (dt_cmp (cm_eq hu) q_eq (de_var 3) de_str (nomark _)) (dss_one (ds_ret (de_and (de_call L.h1 hr tk (da_cons (de_var 4) (da_cons de_int (da_cons (de_sub (de_bi bb_len call_len q_len T.m_len (da_cons (de_var 1) da_nil)) de_int) da_nil)))) (de_one (de_call L.h20 hr tk (da_cons (de_var 0) (da_cons (de_idx (de_idx (de_var 1) (de_var 4)) de_int) (da_cons (de_var 5) da_nil)))))))) dss_nil)
  (dss_cons (ds_if (dt_w (dw_or (dt_cmp (cm_ne hu) q_ne (de_var 3) de_str (nomark _)) (dw_or1 (dt_not (dt_val (de_call L.h1 hr tk (da_cons (de_var 4) (da_cons de_int (da_cons (de_sub (de_bi bb_len call_len q_len T.m_len (da_cons (de_var 0) da_nil)) de_int) da_nil))))))))) (dss_one (ds_ret de_bl)) dss_nil)
  (dss_cons (ds_if (dt_not (dt_val (de_call L.h2 hr tk (da_cons (de_var 5) (da_cons (de_bi bb_len call_len q_len T.m_len (da_cons (de_idx (de_var 0) (de_var 4)) da_nil)) (da_cons (de_bi bb_len call_len q_len T.m_len (da_cons (de_idx (de_var 0) (de_var 4)) da_nil)) da_nil)))))) (dss_one (ds_ret de_bl)) dss_nil)
  (dss_one (ds_ret (de_bi bb_all (cr_all rfl) q_all T.m_all (da_cons (de_lc [("answer", 6), ("move", 7)] rfl nd (by refine blkOk_by ?_; dsimp only [cxOf, Cx.blk, envOfC, compEnvC, relabel, Env.kindOf]; first | decide +kernel | kernel_rfl | rfl) (di_zip T.m_zip (de_idx (de_var 0) (de_var 4)) (de_var 5)) (fun _ _ _ _ _ => (dg_tup rfl (dgs_cons (dgn 6 nd) (dgs_cons (dgn 7 nd) dgs_nil)))) (by decide) (fun _ _ _ _ _ => dts_nil) (fun _ _ _ _ _ => (de_call L.h21 hr takes0 (da_cons (de_idx (de_var 6) de_int) (da_cons (de_var 1) (da_cons (de_var 7) da_nil)))))) da_nil)))))))))
theorem ok21 (T : Ft K mg ca) {k : Nat} (L : LvW P w K mg base ca k) : Cal P w K mg base ca (3 * k + 4) "is_move" 3 (run (k + 1) 21) := by
  obtain ⟨f, fd, h1, h2, F⟩ := T.f21
  exact ⟨f, fd, ["node", "question", "thing"], h1, h2, F.binds (ps := ["node", "question", "thing"]) fun _ _ _ _ _ _ us hl => match us, hl with | [_, _, _], _ => rfl, dv21 T L F⟩
theorem z21 (T : Ft K mg ca) : Cal P w K mg base ca 1 "is_move" 3 (run 0 21) := by
  obtain ⟨f, fd, h1, h2, F⟩ := T.f21
  exact ⟨f, fd, ["node", "question", "thing"], h1, h2, F.binds (ps := ["node", "question", "thing"]) fun _ _ _ _ _ _ us hl => match us, hl with | [_, _, _], _ => rfl, F.okX sc21 (fun vs H Q E h => (spF_no h).elim) fun cdv A outer s H vs Q E hr h => (spF_no h).elim⟩
theorem sc22 : FnScope ["house", "other", "thing"] ["house", "other", "thing"] (defScope (top 39)) := ⟨rfl, rfl, rfl, by decide +kernel, rfl, by decide +kernel, by decide +kernel⟩
theorem dv22 (T : Ft K mg ca) {k : Nat} (L : LvW P w K mg base ca k) {f : Addr} {fd : FuncData} (F : Fun K "is_plan_of" "is_plan_of" (top 39) f fd) : FnOk P w K mg base (L2.CX P w) (3 * k + 4) f fd ["house", "other", "thing"] (spF K ca 3 (run (k + 1) 22)) := by
  rw [run22]
  refine fn_d (k := 3 * k + 3) (N := ["house", "other", "thing"]) F sc22 rfl fun cdv A outer s H E hrL => ?_
  have hrM := hrL.mono (show 3 * k + 2 ≤ 3 * k + 3 by omega)
  have hr : Room (3 * k + 1) (A.deeper (envOfC "is_plan_of" (defScope (top 39)) s.heap.objs.size f cdv)) := hrL.mono (by omega)
  have hu := hr.units
  have nd := sc22.nd
  have tk : Takes (cxOf (L2.CX P w) P w K mg base ["house", "other", "thing"] "is_plan_of" (defScope (top 39)) f cdv A outer s H E) (fun cls d _ H => E cls d H) := takes_of rfl rfl rfl rfl
  exact (dss_one (ds_ret (de_call L.h20 hr tk (da_cons (de_fldN T.n_tree (de_var 0)) (da_cons (de_fldN T.n_tree (de_var 1)) (da_cons (de_var 2) da_nil))))))
theorem ok22 (T : Ft K mg ca) {k : Nat} (L : LvW P w K mg base ca k) : Cal P w K mg base ca (3 * k + 4) "is_plan_of" 3 (run (k + 1) 22) := by
  obtain ⟨f, fd, h1, h2, F⟩ := T.f22
  exact ⟨f, fd, ["house", "other", "thing"], h1, h2, F.binds (ps := ["house", "other", "thing"]) fun _ _ _ _ _ _ us hl => match us, hl with | [_, _, _], _ => rfl, dv22 T L F⟩
theorem z22 (T : Ft K mg ca) : Cal P w K mg base ca 1 "is_plan_of" 3 (run 0 22) := by
  obtain ⟨f, fd, h1, h2, F⟩ := T.f22
  exact ⟨f, fd, ["house", "other", "thing"], h1, h2, F.binds (ps := ["house", "other", "thing"]) fun _ _ _ _ _ _ us hl => match us, hl with | [_, _, _], _ => rfl, F.okX sc22 (fun vs H Q E h => (spF_no h).elim) fun cdv A outer s H vs Q E hr h => (spF_no h).elim⟩
theorem sc23 : FnScope ["house", "other", "thing"] ["house", "other", "thing"] (defScope (top 40)) := ⟨rfl, rfl, rfl, by decide +kernel, rfl, by decide +kernel, by decide +kernel⟩
theorem dv23 (T : Ft K mg ca) {k : Nat} (L : LvW P w K mg base ca k) {f : Addr} {fd : FuncData} (F : Fun K "is_plan" "is_plan" (top 40) f fd) : FnOk P w K mg base (L2.CX P w) (3 * k + 4) f fd ["house", "other", "thing"] (spF K ca 3 (run (k + 1) 23)) := by
  rw [run23]
  refine fn_d (k := 3 * k + 3) (N := ["house", "other", "thing"]) F sc23 rfl fun cdv A outer s H E hrL => ?_
  have hrM := hrL.mono (show 3 * k + 2 ≤ 3 * k + 3 by omega)
  have hr : Room (3 * k + 1) (A.deeper (envOfC "is_plan" (defScope (top 40)) s.heap.objs.size f cdv)) := hrL.mono (by omega)
  have hu := hr.units
  have nd := sc23.nd
  have tk : Takes (cxOf (L2.CX P w) P w K mg base ["house", "other", "thing"] "is_plan" (defScope (top 40)) f cdv A outer s H E) (fun cls d _ H => E cls d H) := takes_of rfl rfl rfl rfl
  exact (dss_cons (ds_expr (de_call L.h19 hr tk (da_cons (de_var 0) (da_cons (de_var 1) da_nil))))
  (dss_one (ds_ret (de_call L.h22 hr tk (da_cons (de_var 0) (da_cons (de_var 1) (da_cons (de_var 2) da_nil)))))))
theorem ok23 (T : Ft K mg ca) {k : Nat} (L : LvW P w K mg base ca k) : Cal P w K mg base ca (3 * k + 4) "is_plan" 3 (run (k + 1) 23) := by
  obtain ⟨f, fd, h1, h2, F⟩ := T.f23
  exact ⟨f, fd, ["house", "other", "thing"], h1, h2, F.binds (ps := ["house", "other", "thing"]) fun _ _ _ _ _ _ us hl => match us, hl with | [_, _, _], _ => rfl, dv23 T L F⟩
theorem z23 (T : Ft K mg ca) : Cal P w K mg base ca 1 "is_plan" 3 (run 0 23) := by
  obtain ⟨f, fd, h1, h2, F⟩ := T.f23
  exact ⟨f, fd, ["house", "other", "thing"], h1, h2, F.binds (ps := ["house", "other", "thing"]) fun _ _ _ _ _ _ us hl => match us, hl with | [_, _, _], _ => rfl, F.okX sc23 (fun vs H Q E h => (spF_no h).elim) fun cdv A outer s H vs Q E hr h => (spF_no h).elim⟩
theorem sc24 : FnScope ["node", "found", "number", "question", "told", "at", "answer"] ["node"] (defScope (top 41)) := ⟨rfl, rfl, rfl, by decide +kernel, rfl, by decide +kernel, by decide +kernel⟩
theorem dv24 (T : Ft K mg ca) {k : Nat} (L : LvW P w K mg base ca k) {f : Addr} {fd : FuncData} (F : Fun K "wait_passing" "wait_passing" (top 41) f fd) : FnOk P w K mg base (L2.CX P w) (3 * k + 4) f fd ["node"] (spF K ca 1 (run (k + 1) 24)) := by
  rw [run24]
  refine fn_d (k := 3 * k + 3) (N := ["node", "found", "number", "question", "told", "at", "answer"]) F sc24 rfl fun cdv A outer s H E hrL => ?_
  have hrM := hrL.mono (show 3 * k + 2 ≤ 3 * k + 3 by omega)
  have hr : Room (3 * k + 1) (A.deeper (envOfC "wait_passing" (defScope (top 41)) s.heap.objs.size f cdv)) := hrL.mono (by omega)
  have hu := hr.units
  have nd := sc24.nd
  have tk : Takes (cxOf (L2.CX P w) P w K mg base ["node", "found", "number", "question", "told", "at", "answer"] "wait_passing" (defScope (top 41)) f cdv A outer s H E) (fun cls d _ H => E cls d H) := takes_of rfl rfl rfl rfl
  exact (dss_cons (ds_set 1 nd (de_new da_nil))
  (dss_cons (ds_for (passes_of rfl) rfl (di_en T.m_enumerate (de_var 0)) (dg_tup rfl (dgs_cons (dgn 2 nd) (dgs_cons (dgn 3 nd) dgs_nil))) (dss_cons (ds_setLc 4 [("at", 5), ("answer", 6)] rfl nd rfl rfl (sw_true rfl rfl rfl (by decide +kernel)) (by refine blkOk_by ?_; dsimp only [cxOf, Cx.blk, envOfC, compEnvC, relabel, Env.kindOf]; first | decide +kernel | kernel_rfl | rfl) (di_en T.m_enumerate (de_var 3)) (fun _ _ _ _ _ => (dg_tup rfl (dgs_cons (dgn 5 nd) (dgs_cons (dgn 6 nd) dgs_nil)))) (by decide) (fun _ _ _ _ _ => dts_nil) (fun _ _ _ _ _ => (de_tup (da_cons de_str (da_cons (de_var 5) (da_cons (de_call L.h24 hr takes0 (da_cons (de_idx (de_var 6) de_int) da_nil)) da_nil))))))
  (dss_one (ds_expr (de_mt PySem.F.slot_list_append PySem.F.type_list_append mt_append ok_app (de_var 1) (de_tup (da_cons de_str (da_cons (de_var 2) (da_cons (de_ty bb_tuple call_tuple_of q_tuple T.m_tuple (da_cons (de_var 4) da_nil)) da_nil)))))))))
  (dss_one (ds_ret (de_ty bb_tuple call_tuple_of q_tuple T.m_tuple (da_cons (de_var 1) da_nil))))))
theorem ok24 (T : Ft K mg ca) {k : Nat} (L : LvW P w K mg base ca k) : Cal P w K mg base ca (3 * k + 4) "wait_passing" 1 (run (k + 1) 24) := by
  obtain ⟨f, fd, h1, h2, F⟩ := T.f24
  exact ⟨f, fd, ["node"], h1, h2, F.binds (ps := ["node"]) fun _ _ _ _ _ _ us hl => match us, hl with | [_], _ => rfl, dv24 T L F⟩
theorem z24 (T : Ft K mg ca) : Cal P w K mg base ca 1 "wait_passing" 1 (run 0 24) := by
  obtain ⟨f, fd, h1, h2, F⟩ := T.f24
  exact ⟨f, fd, ["node"], h1, h2, F.binds (ps := ["node"]) fun _ _ _ _ _ _ us hl => match us, hl with | [_], _ => rfl, F.okX sc24 (fun vs H Q E h => (spF_no h).elim) fun cdv A outer s H vs Q E hr h => (spF_no h).elim⟩
theorem sc25 : FnScope ["house"] ["house"] (defScope (top 42)) := ⟨rfl, rfl, rfl, by decide +kernel, rfl, by decide +kernel, by decide +kernel⟩
theorem dv25 (T : Ft K mg ca) {k : Nat} (L : LvW P w K mg base ca k) {f : Addr} {fd : FuncData} (F : Fun K "passing" "passing" (top 42) f fd) : FnOk P w K mg base (L2.CX P w) (3 * k + 4) f fd ["house"] (spF K ca 1 (run (k + 1) 25)) := by
  rw [run25]
  refine fn_d (k := 3 * k + 3) (N := ["house"]) F sc25 rfl fun cdv A outer s H E hrL => ?_
  have hrM := hrL.mono (show 3 * k + 2 ≤ 3 * k + 3 by omega)
  have hr : Room (3 * k + 1) (A.deeper (envOfC "passing" (defScope (top 42)) s.heap.objs.size f cdv)) := hrL.mono (by omega)
  have hu := hr.units
  have nd := sc25.nd
  have tk : Takes (cxOf (L2.CX P w) P w K mg base ["house"] "passing" (defScope (top 42)) f cdv A outer s H E) (fun cls d _ H => E cls d H) := takes_of rfl rfl rfl rfl
  exact (dss_one (ds_ret (de_tup (da_cons (de_tup (da_cons (de_glob T.c_ONE) (da_cons (de_call L.h24 hr tk (da_cons (de_fldN T.n_tree (de_var 0)) da_nil)) da_nil))) da_nil))))
theorem ok25 (T : Ft K mg ca) {k : Nat} (L : LvW P w K mg base ca k) : Cal P w K mg base ca (3 * k + 4) "passing" 1 (run (k + 1) 25) := by
  obtain ⟨f, fd, h1, h2, F⟩ := T.f25
  exact ⟨f, fd, ["house"], h1, h2, F.binds (ps := ["house"]) fun _ _ _ _ _ _ us hl => match us, hl with | [_], _ => rfl, dv25 T L F⟩
theorem z25 (T : Ft K mg ca) : Cal P w K mg base ca 1 "passing" 1 (run 0 25) := by
  obtain ⟨f, fd, h1, h2, F⟩ := T.f25
  exact ⟨f, fd, ["house"], h1, h2, F.binds (ps := ["house"]) fun _ _ _ _ _ _ us hl => match us, hl with | [_], _ => rfl, F.okX sc25 (fun vs H Q E h => (spF_no h).elim) fun cdv A outer s H vs Q E hr h => (spF_no h).elim⟩
theorem sc26 : FnScope ["_law_script", "_law_seed", "_law_cell", "_law_great", "_law_always"] ["_law_script"] (defScope (top 44)) := ⟨rfl, rfl, rfl, by decide +kernel, rfl, by decide +kernel, by decide +kernel⟩
theorem dv26 (T : Ft K mg ca) {k : Nat} (L : LvW P w K mg base ca k) {f : Addr} {fd : FuncData} (F : Fun K "_law_bag" "_law_bag" (top 44) f fd) : FnOk P w K mg base (L2.CX P w) (3 * k + 4) f fd ["_law_script"] (spF K ca 1 (run (k + 1) 26)) := by
  rw [run26]
  refine fn_d (k := 3 * k + 3) (N := ["_law_script", "_law_seed", "_law_cell", "_law_great", "_law_always"]) F sc26 rfl fun cdv A outer s H E hrL => ?_
  have hrM := hrL.mono (show 3 * k + 2 ≤ 3 * k + 3 by omega)
  have hr : Room (3 * k + 1) (A.deeper (envOfC "_law_bag" (defScope (top 44)) s.heap.objs.size f cdv)) := hrL.mono (by omega)
  have hu := hr.units
  have nd := sc26.nd
  have tk : Takes (cxOf (L2.CX P w) P w K mg base ["_law_script", "_law_seed", "_law_cell", "_law_great", "_law_always"] "_law_bag" (defScope (top 44)) f cdv A outer s H E) (fun cls d _ H => E cls d H) := takes_of rfl rfl rfl rfl
  exact (dss_cons (ds_set 1 nd (de_add de_int (de_bi bb_len call_len q_len T.m_len (da_cons (de_var 0) da_nil))))
  (dss_cons (ds_for (passes_of rfl) rfl (di_any (de_sl (de_var 0) dp_no (dp_some de_int))) (dgn 2 nd) (dss_one (ds_set 1 nd (de_mod (de_ty bb_int call_int1 q_int T.m_int (da_cons (de_add (de_add (de_mul (de_var 1) de_int) (de_mod (de_ty bb_int call_int1 q_int T.m_int (da_cons (de_var 2) da_nil)) de_int)) de_int) da_nil)) de_int))))
  (dss_cons (ds_setLcR 3 [("_law_cell", 2)] rfl nd rfl rfl (sw_true rfl rfl rfl (by decide +kernel)) (by refine blkOk_by ?_; dsimp only [cxOf, Cx.blk, envOfC, compEnvC, relabel, Env.kindOf]; first | decide +kernel | kernel_rfl | rfl) (di_any (de_sl (de_var 0) dp_no (dp_some de_int))) (fun _ _ _ _ _ => (dgn 2 nd)) (by decide) (fun _ _ _ _ _ => (dts_one (dt_cmp op_ge (q_ord fun i j => decide (j ≤ i)) (de_bi bb_abs call_abs q_abs T.m_abs (da_cons (de_ty bb_int call_int1 q_int T.m_int (da_cons (de_var 2) da_nil)) da_nil)) (de_pow de_int de_int) (nomark _)))) (fun _ _ _ _ _ => (de_bi bb_abs call_abs q_abs T.m_abs (da_cons (de_ty bb_int call_int1 q_int T.m_int (da_cons (de_var 2) da_nil)) da_nil))))
  (dss_cons (ds_set 4 nd de_non)
  (dss_cons (ds_if (dt_w (dw_and (dt_cmp (cm_lt hu) q_lt (de_bi bb_len call_len q_len T.m_len (da_cons (de_var 0) da_nil)) de_int (nomark _)) (dw_and1 (dt_cmp (cm_eq hu) q_eq (de_bi bb_len call_len q_len T.m_len (da_cons (de_var 3) da_nil)) de_int (nomark _))))) (dss_one (ds_set 4 nd (de_bi bb_abs call_abs q_abs T.m_abs (da_cons (de_bi bb_sum (cr_sum rfl) q_sum T.m_sum (da_cons (de_lc [("_law_cell", 2)] rfl nd (by refine blkOk_by ?_; dsimp only [cxOf, Cx.blk, envOfC, compEnvC, relabel, Env.kindOf]; first | decide +kernel | kernel_rfl | rfl) (di_any (de_var 0)) (fun _ _ _ _ _ => (dgn 2 nd)) (by decide) (fun _ _ _ _ _ => dts_nil) (fun _ _ _ _ _ => (de_ty bb_int call_int1 q_int T.m_int (da_cons (de_var 2) da_nil)))) da_nil)) da_nil)))) dss_nil)
  (dss_one (ds_ret (de_new (da_cons (de_var 1) (da_cons de_int (da_cons (de_var 3) (da_cons (de_var 4) da_nil))))))))))))
theorem ok26 (T : Ft K mg ca) {k : Nat} (L : LvW P w K mg base ca k) : Cal P w K mg base ca (3 * k + 4) "_law_bag" 1 (run (k + 1) 26) := by
  obtain ⟨f, fd, h1, h2, F⟩ := T.f26
  exact ⟨f, fd, ["_law_script"], h1, h2, F.binds (ps := ["_law_script"]) fun _ _ _ _ _ _ us hl => match us, hl with | [_], _ => rfl, dv26 T L F⟩
theorem z26 (T : Ft K mg ca) : Cal P w K mg base ca 1 "_law_bag" 1 (run 0 26) := by
  obtain ⟨f, fd, h1, h2, F⟩ := T.f26
  exact ⟨f, fd, ["_law_script"], h1, h2, F.binds (ps := ["_law_script"]) fun _ _ _ _ _ _ us hl => match us, hl with | [_], _ => rfl, F.okX sc26 (fun vs H Q E h => (spF_no h).elim) fun cdv A outer s H vs Q E hr h => (spF_no h).elim⟩
theorem sc27 : FnScope ["_law_bag_here", "_law_many", "_law_great", "_law_digit", "_law_number"] ["_law_bag_here", "_law_many"] (defScope (top 45)) := ⟨rfl, rfl, rfl, by decide +kernel, rfl, by decide +kernel, by decide +kernel⟩
theorem dv27 (T : Ft K mg ca) {k : Nat} (L : LvW P w K mg base ca k) {f : Addr} {fd : FuncData} (F : Fun K "_law_pick" "_law_pick" (top 45) f fd) : FnOk P w K mg base (L2.CX P w) (3 * k + 4) f fd ["_law_bag_here", "_law_many"] (spF K ca 2 (run (k + 1) 27)) := by
  rw [run27]
  refine fn_d (k := 3 * k + 3) (N := ["_law_bag_here", "_law_many", "_law_great", "_law_digit", "_law_number"]) F sc27 rfl fun cdv A outer s H E hrL => ?_
  have hrM := hrL.mono (show 3 * k + 2 ≤ 3 * k + 3 by omega)
  have hr : Room (3 * k + 1) (A.deeper (envOfC "_law_pick" (defScope (top 45)) s.heap.objs.size f cdv)) := hrL.mono (by omega)
  have hu := hr.units
  have nd := sc27.nd
  have tk : Takes (cxOf (L2.CX P w) P w K mg base ["_law_bag_here", "_law_many", "_law_great", "_law_digit", "_law_number"] "_law_pick" (defScope (top 45)) f cdv A outer s H E) (fun cls d _ H => E cls d H) := takes_of rfl rfl rfl rfl
  exact (dss_cons (ds_if (dt_cmp op_isnotA (q_is true) (de_idx (de_var 0) de_int) de_non (nomark _)) (dss_one (ds_ret (de_mod (de_ty bb_int call_int1 q_int T.m_int (da_cons (de_idx (de_var 0) de_int) da_nil)) (de_var 1)))) dss_nil)
  (dss_cons (ds_asg (de_add (de_idx (de_var 0) de_int) de_int) (dg_sub (W := W0) (de_var 0) de_int))
  (dss_cons (ds_set 2 nd (de_idx (de_var 0) de_int))
  (dss_cons (ds_if (dt_cmp op_gt (q_ord fun i j => decide (j < i)) (de_bi bb_len call_len q_len T.m_len (da_cons (de_var 2) da_nil)) de_int (nomark _)) (dss_cons (ds_set 3 nd (de_mod (de_ty bb_int call_int1 q_int T.m_int (da_cons (de_idx (de_var 2) de_int) da_nil)) (de_var 1)))
  (dss_cons (ds_asg (de_fdiv (de_ty bb_int call_int1 q_int T.m_int (da_cons (de_idx (de_var 2) de_int) da_nil)) (de_var 1)) (dg_sub (W := W0) (de_var 2) de_int))
  (dss_cons (ds_if (dt_cmp (cm_eq hu) q_eq (de_idx (de_var 2) de_int) de_int (nomark _)) (dss_one (ds_expr (de_mt PySem.F.slot_list_pop PySem.F.type_list_pop mt_popAt ok_pop (de_var 2) de_int))) dss_nil)
  (dss_one (ds_ret (de_var 3)))))) dss_nil)
  (dss_cons (ds_set 4 nd (de_mod (de_ty bb_int call_int1 q_int T.m_int (da_cons (de_mul (de_add (de_idx (de_var 0) de_int) (de_mul de_int (de_idx (de_var 0) de_int))) de_int) da_nil)) de_int))
  (dss_cons (ds_set 4 nd (de_mod (de_ty bb_int call_int1 q_int T.m_int (da_cons (de_mul (de_var 4) (de_add (de_fdiv (de_var 4) de_int) de_int)) da_nil)) de_int))
  (dss_cons (ds_set 4 nd (de_mod (de_ty bb_int call_int1 q_int T.m_int (da_cons (de_mul (de_var 4) (de_add (de_fdiv (de_var 4) de_int) de_int)) da_nil)) de_int))
  (dss_one (ds_ret (de_mod (de_ty bb_int call_int1 q_int T.m_int (da_cons (de_fdiv (de_var 4) de_int) da_nil)) (de_var 1)))))))))))
theorem ok27 (T : Ft K mg ca) {k : Nat} (L : LvW P w K mg base ca k) : Cal P w K mg base ca (3 * k + 4) "_law_pick" 2 (run (k + 1) 27) := by
  obtain ⟨f, fd, h1, h2, F⟩ := T.f27
  exact ⟨f, fd, ["_law_bag_here", "_law_many"], h1, h2, F.binds (ps := ["_law_bag_here", "_law_many"]) fun _ _ _ _ _ _ us hl => match us, hl with | [_, _], _ => rfl, dv27 T L F⟩
theorem z27 (T : Ft K mg ca) : Cal P w K mg base ca 1 "_law_pick" 2 (run 0 27) := by
  obtain ⟨f, fd, h1, h2, F⟩ := T.f27
  exact ⟨f, fd, ["_law_bag_here", "_law_many"], h1, h2, F.binds (ps := ["_law_bag_here", "_law_many"]) fun _ _ _ _ _ _ us hl => match us, hl with | [_, _], _ => rfl, F.okX sc27 (fun vs H Q E h => (spF_no h).elim) fun cdv A outer s H vs Q E hr h => (spF_no h).elim⟩
theorem sc28 : FnScope ["_law_bag_here", "_law_things"] ["_law_bag_here", "_law_things"] (defScope (top 46)) := ⟨rfl, rfl, rfl, by decide +kernel, rfl, by decide +kernel, by decide +kernel⟩
theorem dv28 (T : Ft K mg ca) {k : Nat} (L : LvW P w K mg base ca k) {f : Addr} {fd : FuncData} (F : Fun K "_law_some" "_law_some" (top 46) f fd) : FnOk P w K mg base (L2.CX P w) (3 * k + 4) f fd ["_law_bag_here", "_law_things"] (spF K ca 2 (run (k + 1) 28)) := by
  rw [run28]
  refine fn_d (k := 3 * k + 3) (N := ["_law_bag_here", "_law_things"]) F sc28 rfl fun cdv A outer s H E hrL => ?_
  have hrM := hrL.mono (show 3 * k + 2 ≤ 3 * k + 3 by omega)
  have hr : Room (3 * k + 1) (A.deeper (envOfC "_law_some" (defScope (top 46)) s.heap.objs.size f cdv)) := hrL.mono (by omega)
  have hu := hr.units
  have nd := sc28.nd
  have tk : Takes (cxOf (L2.CX P w) P w K mg base ["_law_bag_here", "_law_things"] "_law_some" (defScope (top 46)) f cdv A outer s H E) (fun cls d _ H => E cls d H) := takes_of rfl rfl rfl rfl
  exact (dss_one (ds_ret (de_idx (de_var 1) (de_call L.h27 hr tk (da_cons (de_var 0) (da_cons (de_bi bb_len call_len q_len T.m_len (da_cons (de_var 1) da_nil)) da_nil))))))
theorem ok28 (T : Ft K mg ca) {k : Nat} (L : LvW P w K mg base ca k) : Cal P w K mg base ca (3 * k + 4) "_law_some" 2 (run (k + 1) 28) := by
  obtain ⟨f, fd, h1, h2, F⟩ := T.f28
  exact ⟨f, fd, ["_law_bag_here", "_law_things"], h1, h2, F.binds (ps := ["_law_bag_here", "_law_things"]) fun _ _ _ _ _ _ us hl => match us, hl with | [_, _], _ => rfl, dv28 T L F⟩
theorem z28 (T : Ft K mg ca) : Cal P w K mg base ca 1 "_law_some" 2 (run 0 28) := by
  obtain ⟨f, fd, h1, h2, F⟩ := T.f28
  exact ⟨f, fd, ["_law_bag_here", "_law_things"], h1, h2, F.binds (ps := ["_law_bag_here", "_law_things"]) fun _ _ _ _ _ _ us hl => match us, hl with | [_, _], _ => rfl, F.okX sc28 (fun vs H Q E h => (spF_no h).elim) fun cdv A outer s H vs Q E hr h => (spF_no h).elim⟩
theorem sc29 : FnScope ["_law_one", "_law_other"] ["_law_one", "_law_other"] (defScope (top 47)) := ⟨rfl, rfl, rfl, by decide +kernel, rfl, by decide +kernel, by decide +kernel⟩
theorem dv29 (T : Ft K mg ca) {k : Nat} (L : LvW P w K mg base ca k) {f : Addr} {fd : FuncData} (F : Fun K "_law_common" "_law_common" (top 47) f fd) : FnOk P w K mg base (L2.CX P w) (3 * k + 4) f fd ["_law_one", "_law_other"] (spF K ca 2 (run (k + 1) 29)) := by
  rw [run29]
  refine fn_d (k := 3 * k + 3) (N := ["_law_one", "_law_other"]) F sc29 rfl fun cdv A outer s H E hrL => ?_
  have hrM := hrL.mono (show 3 * k + 2 ≤ 3 * k + 3 by omega)
  have hr : Room (3 * k + 1) (A.deeper (envOfC "_law_common" (defScope (top 47)) s.heap.objs.size f cdv)) := hrL.mono (by omega)
  have hu := hr.units
  have nd := sc29.nd
  have tk : Takes (cxOf (L2.CX P w) P w K mg base ["_law_one", "_law_other"] "_law_common" (defScope (top 47)) f cdv A outer s H E) (fun cls d _ H => E cls d H) := takes_of rfl rfl rfl rfl
  exact (dss_cons (ds_wh (passes_of rfl) (dt_cmp (cm_ne hu) q_ne (de_var 1) de_int (nomark _)) (dss_one (ds_par 0 1 rfl nd (da_cons (de_var 1) (da_cons (de_mod (de_var 0) (de_var 1)) da_nil)))))
  (dss_one (ds_ret (de_var 0))))
theorem ok29 (T : Ft K mg ca) {k : Nat} (L : LvW P w K mg base ca k) : Cal P w K mg base ca (3 * k + 4) "_law_common" 2 (run (k + 1) 29) := by
  obtain ⟨f, fd, h1, h2, F⟩ := T.f29
  exact ⟨f, fd, ["_law_one", "_law_other"], h1, h2, F.binds (ps := ["_law_one", "_law_other"]) fun _ _ _ _ _ _ us hl => match us, hl with | [_, _], _ => rfl, dv29 T L F⟩
theorem z29 (T : Ft K mg ca) : Cal P w K mg base ca 1 "_law_common" 2 (run 0 29) := by
  obtain ⟨f, fd, h1, h2, F⟩ := T.f29
  exact ⟨f, fd, ["_law_one", "_law_other"], h1, h2, F.binds (ps := ["_law_one", "_law_other"]) fun _ _ _ _ _ _ us hl => match us, hl with | [_, _], _ => rfl, F.okX sc29 (fun vs H Q E h => (spF_no h).elim) fun cdv A outer s H vs Q E hr h => (spF_no h).elim⟩
theorem sc30 : FnScope ["_law_top", "_law_bottom", "_law_common_here"] ["_law_top", "_law_bottom"] (defScope (top 48)) := ⟨rfl, rfl, rfl, by decide +kernel, rfl, by decide +kernel, by decide +kernel⟩
theorem dv30 (T : Ft K mg ca) {k : Nat} (L : LvW P w K mg base ca k) {f : Addr} {fd : FuncData} (F : Fun K "_law_low" "_law_low" (top 48) f fd) : FnOk P w K mg base (L2.CX P w) (3 * k + 4) f fd ["_law_top", "_law_bottom"] (spF K ca 2 (run (k + 1) 30)) := by
  rw [run30]
  refine fn_d (k := 3 * k + 3) (N := ["_law_top", "_law_bottom", "_law_common_here"]) F sc30 rfl fun cdv A outer s H E hrL => ?_
  have hrM := hrL.mono (show 3 * k + 2 ≤ 3 * k + 3 by omega)
  have hr : Room (3 * k + 1) (A.deeper (envOfC "_law_low" (defScope (top 48)) s.heap.objs.size f cdv)) := hrL.mono (by omega)
  have hu := hr.units
  have nd := sc30.nd
  have tk : Takes (cxOf (L2.CX P w) P w K mg base ["_law_top", "_law_bottom", "_law_common_here"] "_law_low" (defScope (top 48)) f cdv A outer s H E) (fun cls d _ H => E cls d H) := takes_of rfl rfl rfl rfl
  exact (dss_cons (ds_set 2 nd (de_call L.h29 hr tk (da_cons (de_bi bb_abs call_abs q_abs T.m_abs (da_cons (de_var 0) da_nil)) (da_cons (de_var 1) da_nil))))
  (dss_one (ds_ret (de_tup (da_cons (de_fdiv (de_var 0) (de_var 2)) (da_cons (de_fdiv (de_var 1) (de_var 2)) da_nil))))))
theorem ok30 (T : Ft K mg ca) {k : Nat} (L : LvW P w K mg base ca k) : Cal P w K mg base ca (3 * k + 4) "_law_low" 2 (run (k + 1) 30) := by
  obtain ⟨f, fd, h1, h2, F⟩ := T.f30
  exact ⟨f, fd, ["_law_top", "_law_bottom"], h1, h2, F.binds (ps := ["_law_top", "_law_bottom"]) fun _ _ _ _ _ _ us hl => match us, hl with | [_, _], _ => rfl, dv30 T L F⟩
theorem z30 (T : Ft K mg ca) : Cal P w K mg base ca 1 "_law_low" 2 (run 0 30) := by
  obtain ⟨f, fd, h1, h2, F⟩ := T.f30
  exact ⟨f, fd, ["_law_top", "_law_bottom"], h1, h2, F.binds (ps := ["_law_top", "_law_bottom"]) fun _ _ _ _ _ _ us hl => match us, hl with | [_, _], _ => rfl, F.okX sc30 (fun vs H Q E h => (spF_no h).elim) fun cdv A outer s H vs Q E hr h => (spF_no h).elim⟩
theorem sc31 : FnScope ["_law_one", "_law_other"] ["_law_one", "_law_other"] (defScope (top 49)) := ⟨rfl, rfl, rfl, by decide +kernel, rfl, by decide +kernel, by decide +kernel⟩
theorem dv31 (T : Ft K mg ca) {k : Nat} (L : LvW P w K mg base ca k) {f : Addr} {fd : FuncData} (F : Fun K "_law_times" "_law_times" (top 49) f fd) : FnOk P w K mg base (L2.CX P w) (3 * k + 4) f fd ["_law_one", "_law_other"] (spF K ca 2 (run (k + 1) 31)) := by
  rw [run31]
  refine fn_d (k := 3 * k + 3) (N := ["_law_one", "_law_other"]) F sc31 rfl fun cdv A outer s H E hrL => ?_
  have hrM := hrL.mono (show 3 * k + 2 ≤ 3 * k + 3 by omega)
  have hr : Room (3 * k + 1) (A.deeper (envOfC "_law_times" (defScope (top 49)) s.heap.objs.size f cdv)) := hrL.mono (by omega)
  have hu := hr.units
  have nd := sc31.nd
  have tk : Takes (cxOf (L2.CX P w) P w K mg base ["_law_one", "_law_other"] "_law_times" (defScope (top 49)) f cdv A outer s H E) (fun cls d _ H => E cls d H) := takes_of rfl rfl rfl rfl
  exact (dss_one (ds_ret (de_call L.h30 hr tk (da_cons (de_mul (de_idx (de_var 0) de_int) (de_idx (de_var 1) de_int)) (da_cons (de_mul (de_idx (de_var 0) de_int) (de_idx (de_var 1) de_int)) da_nil)))))
theorem ok31 (T : Ft K mg ca) {k : Nat} (L : LvW P w K mg base ca k) : Cal P w K mg base ca (3 * k + 4) "_law_times" 2 (run (k + 1) 31) := by
  obtain ⟨f, fd, h1, h2, F⟩ := T.f31
  exact ⟨f, fd, ["_law_one", "_law_other"], h1, h2, F.binds (ps := ["_law_one", "_law_other"]) fun _ _ _ _ _ _ us hl => match us, hl with | [_, _], _ => rfl, dv31 T L F⟩
theorem z31 (T : Ft K mg ca) : Cal P w K mg base ca 1 "_law_times" 2 (run 0 31) := by
  obtain ⟨f, fd, h1, h2, F⟩ := T.f31
  exact ⟨f, fd, ["_law_one", "_law_other"], h1, h2, F.binds (ps := ["_law_one", "_law_other"]) fun _ _ _ _ _ _ us hl => match us, hl with | [_, _], _ => rfl, F.okX sc31 (fun vs H Q E h => (spF_no h).elim) fun cdv A outer s H vs Q E hr h => (spF_no h).elim⟩
theorem sc32 : FnScope ["_law_bag_here", "_law_many", "_law_least", "_law_parts_here", "_law_k", "_law_part"] ["_law_bag_here", "_law_many", "_law_least"] (defScope (top 50)) := ⟨rfl, rfl, rfl, by decide +kernel, rfl, by decide +kernel, by decide +kernel⟩
theorem dv32 (T : Ft K mg ca) {k : Nat} (L : LvW P w K mg base ca k) {f : Addr} {fd : FuncData} (F : Fun K "_law_shares" "_law_shares" (top 50) f fd) : FnOk P w K mg base (L2.CX P w) (3 * k + 4) f fd ["_law_bag_here", "_law_many", "_law_least"] (spF K ca 3 (run (k + 1) 32)) := by
  rw [run32]
  refine fn_d (k := 3 * k + 3) (N := ["_law_bag_here", "_law_many", "_law_least", "_law_parts_here", "_law_k", "_law_part"]) F sc32 rfl fun cdv A outer s H E hrL => ?_
  have hrM := hrL.mono (show 3 * k + 2 ≤ 3 * k + 3 by omega)
  have hr : Room (3 * k + 1) (A.deeper (envOfC "_law_shares" (defScope (top 50)) s.heap.objs.size f cdv)) := hrL.mono (by omega)
  have hu := hr.units
  have nd := sc32.nd
  have tk : Takes (cxOf (L2.CX P w) P w K mg base ["_law_bag_here", "_law_many", "_law_least", "_law_parts_here", "_law_k", "_law_part"] "_law_shares" (defScope (top 50)) f cdv A outer s H E) (fun cls d _ H => E cls d H) := takes_of rfl rfl rfl rfl
  exact (dss_cons (ds_set 3 nd (de_lcR [("_law_k", 4)] rfl nd (by refine blkOk_by ?_; dsimp only [cxOf, Cx.blk, envOfC, compEnvC, relabel, Env.kindOf]; first | decide +kernel | kernel_rfl | rfl) (di_rg1 T.m_range (de_var 1)) (fun _ _ _ _ _ => (dgn 4 nd)) (by decide) (fun _ _ _ _ _ => dts_nil) (fun _ _ _ _ _ => (de_add (de_var 2) (de_call L.h27 hr takes0 (da_cons (de_var 0) (da_cons de_int da_nil)))))))
  (dss_cons (ds_augS ip_add (de_var 3) (de_call L.h27 hr tk (da_cons (de_var 0) (da_cons (de_var 1) da_nil))) de_int)
  (dss_one (ds_ret (de_lc [("_law_part", 5)] rfl nd (by refine blkOk_by ?_; dsimp only [cxOf, Cx.blk, envOfC, compEnvC, relabel, Env.kindOf]; first | decide +kernel | kernel_rfl | rfl) (di_any (de_var 3)) (fun _ _ _ _ _ => (dgn 5 nd)) (by decide) (fun _ _ _ _ _ => dts_nil) (fun _ _ _ _ _ => (de_call L.h30 hr takes0 (da_cons (de_var 5) (da_cons (de_bi bb_sum (cr_sum rfl) q_sum T.m_sum (da_cons (de_var 3) da_nil)) da_nil)))))))))
theorem ok32 (T : Ft K mg ca) {k : Nat} (L : LvW P w K mg base ca k) : Cal P w K mg base ca (3 * k + 4) "_law_shares" 3 (run (k + 1) 32) := by
  obtain ⟨f, fd, h1, h2, F⟩ := T.f32
  exact ⟨f, fd, ["_law_bag_here", "_law_many", "_law_least"], h1, h2, F.binds (ps := ["_law_bag_here", "_law_many", "_law_least"]) fun _ _ _ _ _ _ us hl => match us, hl with | [_, _, _], _ => rfl, dv32 T L F⟩
theorem z32 (T : Ft K mg ca) : Cal P w K mg base ca 1 "_law_shares" 3 (run 0 32) := by
  obtain ⟨f, fd, h1, h2, F⟩ := T.f32
  exact ⟨f, fd, ["_law_bag_here", "_law_many", "_law_least"], h1, h2, F.binds (ps := ["_law_bag_here", "_law_many", "_law_least"]) fun _ _ _ _ _ _ us hl => match us, hl with | [_, _, _], _ => rfl, F.okX sc32 (fun vs H Q E h => (spF_no h).elim) fun cdv A outer s H vs Q E hr h => (spF_no h).elim⟩
theorem sc33 : FnScope ["_law_bag_here", "_law_worlds", "_law_ahead", "_law_levels", "_law_left", "_law_many", "_law_rows", "_law_found", "_law_k", "_law_word_here", "_law_weights", "_law_world"] ["_law_bag_here", "_law_worlds", "_law_ahead", "_law_levels", "_law_left"] (defScope (top 51)) := ⟨rfl, rfl, rfl, by decide +kernel, rfl, by decide +kernel, by decide +kernel⟩
theorem dv33 (T : Ft K mg ca) {k : Nat} (L : LvW P w K mg base ca k) {f : Addr} {fd : FuncData} (F : Fun K "_law_question" "_law_question" (top 51) f fd) : FnOk P w K mg base (L2.CX P w) (3 * k + 4) f fd ["_law_bag_here", "_law_worlds", "_law_ahead", "_law_levels", "_law_left"] (spF K ca 5 (run (k + 1) 33)) := by
  rw [run33]
  refine fn_d (k := 3 * k + 3) (N := ["_law_bag_here", "_law_worlds", "_law_ahead", "_law_levels", "_law_left", "_law_many", "_law_rows", "_law_found", "_law_k", "_law_word_here", "_law_weights", "_law_world"]) F sc33 rfl fun cdv A outer s H E hrL => ?_
  have hrM := hrL.mono (show 3 * k + 2 ≤ 3 * k + 3 by omega)
  have hr : Room (3 * k + 1) (A.deeper (envOfC "_law_question" (defScope (top 51)) s.heap.objs.size f cdv)) := hrL.mono (by omega)
  have hu := hr.units
  have nd := sc33.nd
  have tk : Takes (cxOf (L2.CX P w) P w K mg base ["_law_bag_here", "_law_worlds", "_law_ahead", "_law_levels", "_law_left", "_law_many", "_law_rows", "_law_found", "_law_k", "_law_word_here", "_law_weights", "_law_world"] "_law_question" (defScope (top 51)) f cdv A outer s H E) (fun cls d _ H => E cls d H) := takes_of rfl rfl rfl rfl
  exact (dss_cons (ds_set 5 nd (de_add de_int (de_call L.h27 hr tk (da_cons (de_var 0) (da_cons de_int da_nil)))))
  (dss_cons (ds_augS ip_sub (de_var 4) de_int (de_var 5))
  (dss_cons (ds_set 6 nd (de_lc [("_law_world", 11)] rfl nd (by refine blkOk_by ?_; dsimp only [cxOf, Cx.blk, envOfC, compEnvC, relabel, Env.kindOf]; first | decide +kernel | kernel_rfl | rfl) (di_rg1 T.m_range (de_var 1)) (fun _ _ _ _ _ => (dgn 11 nd)) (by decide) (fun _ _ _ _ _ => dts_nil) (fun _ _ _ _ _ => (de_call L.h32 hr takes0 (da_cons (de_var 0) (da_cons (de_var 5) (da_cons (de_call L.h27 hr takes0 (da_cons (de_var 0) (da_cons de_int da_nil))) da_nil)))))))
  (dss_cons (ds_set 7 nd (de_new da_nil))
  (dss_cons (ds_for (passes_of rfl) rfl (di_rg1 T.m_range (de_var 5)) (dgn 8 nd) (dss_cons (ds_set 9 nd (de_call L.h28 hr tk (da_cons (de_var 0) (da_cons (de_lst (da_cons (de_tup (da_cons (de_var 8) da_nil)) (da_cons (de_tup (da_cons (de_mul de_int (de_var 8)) (da_cons de_int da_nil))) (da_cons (de_tup (da_cons (de_add (de_mul de_int (de_var 8)) de_int) (da_cons de_int (da_cons de_int da_nil)))) (da_cons (de_mul (de_tup (da_cons (de_add de_int (de_var 8)) da_nil)) de_int) (da_cons (de_tup da_nil) da_nil)))))) da_nil))))
  (dss_cons (ds_set 10 nd (de_ty bb_tuple call_tuple_of q_tuple T.m_tuple (da_cons (de_lc [("_law_world", 11)] rfl nd (by refine blkOk_by ?_; dsimp only [cxOf, Cx.blk, envOfC, compEnvC, relabel, Env.kindOf]; first | decide +kernel | kernel_rfl | rfl) (di_rg1 T.m_range (de_var 1)) (fun _ _ _ _ _ => (dgn 11 nd)) (by decide) (fun _ _ _ _ _ => dts_nil) (fun _ _ _ _ _ => (de_call L.h31 hr takes0 (da_cons (de_idx (de_var 2) (de_var 11)) (da_cons (de_idx (de_idx (de_var 6) (de_var 11)) (de_var 8)) da_nil))))) da_nil)))
  (dss_one (ds_expr (de_mt PySem.F.slot_list_append PySem.F.type_list_append mt_append ok_app (de_var 7) (de_tup (da_cons (de_add (de_tup (da_cons (de_mul de_int (de_var 8)) da_nil)) (de_var 9)) (da_cons (de_var 10) (da_cons (de_call L.h34 hr tk (da_cons (de_var 0) (da_cons (de_var 1) (da_cons (de_var 10) (da_cons (de_sub (de_var 3) de_int) (da_cons (de_var 4) da_nil)))))) da_nil))))))))))
  (dss_one (ds_ret (de_ty bb_tuple call_tuple_of q_tuple T.m_tuple (da_cons (de_var 7) da_nil)))))))))
theorem ok33 (T : Ft K mg ca) {k : Nat} (L : LvW P w K mg base ca k) : Cal P w K mg base ca (3 * k + 4) "_law_question" 5 (run (k + 1) 33) := by
  obtain ⟨f, fd, h1, h2, F⟩ := T.f33
  exact ⟨f, fd, ["_law_bag_here", "_law_worlds", "_law_ahead", "_law_levels", "_law_left"], h1, h2, F.binds (ps := ["_law_bag_here", "_law_worlds", "_law_ahead", "_law_levels", "_law_left"]) fun _ _ _ _ _ _ us hl => match us, hl with | [_, _, _, _, _], _ => rfl, dv33 T L F⟩
theorem z33 (T : Ft K mg ca) : Cal P w K mg base ca 1 "_law_question" 5 (run 0 33) := by
  obtain ⟨f, fd, h1, h2, F⟩ := T.f33
  exact ⟨f, fd, ["_law_bag_here", "_law_worlds", "_law_ahead", "_law_levels", "_law_left"], h1, h2, F.binds (ps := ["_law_bag_here", "_law_worlds", "_law_ahead", "_law_levels", "_law_left"]) fun _ _ _ _ _ _ us hl => match us, hl with | [_, _, _, _, _], _ => rfl, F.okX sc33 (fun vs H Q E h => (spF_no h).elim) fun cdv A outer s H vs Q E hr h => (spF_no h).elim⟩
theorem sc34 : FnScope ["_law_bag_here", "_law_worlds", "_law_ahead", "_law_levels", "_law_left", "_law_k"] ["_law_bag_here", "_law_worlds", "_law_ahead", "_law_levels", "_law_left"] (defScope (top 52)) := ⟨rfl, rfl, rfl, by decide +kernel, rfl, by decide +kernel, by decide +kernel⟩
theorem dv34 (T : Ft K mg ca) {k : Nat} (L : LvW P w K mg base ca k) {f : Addr} {fd : FuncData} (F : Fun K "_law_node" "_law_node" (top 52) f fd) : FnOk P w K mg base (L2.CX P w) (3 * k + 4) f fd ["_law_bag_here", "_law_worlds", "_law_ahead", "_law_levels", "_law_left"] (spF K ca 5 (run (k + 1) 34)) := by
  rw [run34]
  refine fn_d (k := 3 * k + 3) (N := ["_law_bag_here", "_law_worlds", "_law_ahead", "_law_levels", "_law_left", "_law_k"]) F sc34 rfl fun cdv A outer s H E hrL => ?_
  have hrM := hrL.mono (show 3 * k + 2 ≤ 3 * k + 3 by omega)
  have hr : Room (3 * k + 1) (A.deeper (envOfC "_law_node" (defScope (top 52)) s.heap.objs.size f cdv)) := hrL.mono (by omega)
  have hu := hr.units
  have nd := sc34.nd
  have tk : Takes (cxOf (L2.CX P w) P w K mg base ["_law_bag_here", "_law_worlds", "_law_ahead", "_law_levels", "_law_left", "_law_k"] "_law_node" (defScope (top 52)) f cdv A outer s H E) (fun cls d _ H => E cls d H) := takes_of rfl rfl rfl rfl
  exact (dss_cons (ds_if (dt_w (dw_or (dt_cmp (cm_eq hu) q_eq (de_var 3) de_int (nomark _)) (dw_or1 (dt_cmp op_le (q_ord fun i j => decide (i ≤ j)) (de_idx (de_var 4) de_int) de_int (nomark _))))) (dss_one (ds_ret (de_tup da_nil))) dss_nil)
  (dss_one (ds_ret (de_ty bb_tuple call_tuple_of q_tuple T.m_tuple (da_cons (de_lc [("_law_k", 5)] rfl nd (by refine blkOk_by ?_; dsimp only [cxOf, Cx.blk, envOfC, compEnvC, relabel, Env.kindOf]; first | decide +kernel | kernel_rfl | rfl) (di_rg1 T.m_range (de_call L.h27 hr tk (da_cons (de_var 0) (da_cons de_int da_nil)))) (fun _ _ _ _ _ => (dgn 5 nd)) (by decide) (fun _ _ _ _ _ => dts_nil) (fun _ _ _ _ _ => (de_call L.h33 hr takes0 (da_cons (de_var 0) (da_cons (de_var 1) (da_cons (de_var 2) (da_cons (de_var 3) (da_cons (de_var 4) da_nil)))))))) da_nil)))))
theorem ok34 (T : Ft K mg ca) {k : Nat} (L : LvW P w K mg base ca k) : Cal P w K mg base ca (3 * k + 4) "_law_node" 5 (run (k + 1) 34) := by
  obtain ⟨f, fd, h1, h2, F⟩ := T.f34
  exact ⟨f, fd, ["_law_bag_here", "_law_worlds", "_law_ahead", "_law_levels", "_law_left"], h1, h2, F.binds (ps := ["_law_bag_here", "_law_worlds", "_law_ahead", "_law_levels", "_law_left"]) fun _ _ _ _ _ _ us hl => match us, hl with | [_, _, _, _, _], _ => rfl, dv34 T L F⟩
theorem z34 (T : Ft K mg ca) : Cal P w K mg base ca 1 "_law_node" 5 (run 0 34) := by
  obtain ⟨f, fd, h1, h2, F⟩ := T.f34
  exact ⟨f, fd, ["_law_bag_here", "_law_worlds", "_law_ahead", "_law_levels", "_law_left"], h1, h2, F.binds (ps := ["_law_bag_here", "_law_worlds", "_law_ahead", "_law_levels", "_law_left"]) fun _ _ _ _ _ _ us hl => match us, hl with | [_, _, _, _, _], _ => rfl, F.okX sc34 (fun vs H Q E h => (spF_no h).elim) fun cdv A outer s H vs Q E hr h => (spF_no h).elim⟩
theorem sc35 : FnScope ["_law_bag_here", "_law_worlds", "_law_levels", "_law_answers", "_law_ahead", "_law_left", "_law_some_here", "_law_k"] ["_law_bag_here", "_law_worlds", "_law_levels", "_law_answers"] (defScope (top 53)) := ⟨rfl, rfl, rfl, by decide +kernel, rfl, by decide +kernel, by decide +kernel⟩
theorem dv35 (T : Ft K mg ca) {k : Nat} (L : LvW P w K mg base ca k) {f : Addr} {fd : FuncData} (F : Fun K "_law_tree" "_law_tree" (top 53) f fd) : FnOk P w K mg base (L2.CX P w) (3 * k + 4) f fd ["_law_bag_here", "_law_worlds", "_law_levels", "_law_answers"] (spF K ca 4 (run (k + 1) 35)) := by
  rw [run35]
  refine fn_d (k := 3 * k + 3) (N := ["_law_bag_here", "_law_worlds", "_law_levels", "_law_answers", "_law_ahead", "_law_left", "_law_some_here", "_law_k"]) F sc35 rfl fun cdv A outer s H E hrL => ?_
  have hrM := hrL.mono (show 3 * k + 2 ≤ 3 * k + 3 by omega)
  have hr : Room (3 * k + 1) (A.deeper (envOfC "_law_tree" (defScope (top 53)) s.heap.objs.size f cdv)) := hrL.mono (by omega)
  have hu := hr.units
  have nd := sc35.nd
  have tk : Takes (cxOf (L2.CX P w) P w K mg base ["_law_bag_here", "_law_worlds", "_law_levels", "_law_answers", "_law_ahead", "_law_left", "_law_some_here", "_law_k"] "_law_tree" (defScope (top 53)) f cdv A outer s H E) (fun cls d _ H => E cls d H) := takes_of rfl rfl rfl rfl
  exact (dss_cons (ds_asg (de_tup (da_cons (de_mul (de_tup (da_cons (de_tup (da_cons de_int (da_cons de_int da_nil))) da_nil)) (de_var 1)) (da_cons (de_new (da_cons (de_var 3) da_nil)) da_nil))) (dg_tup rfl (dgs_cons (dgn 4 nd) (dgs_cons (dgn 5 nd) dgs_nil))))
  (dss_cons (ds_setLc 6 [("_law_k", 7)] rfl nd rfl rfl (sw_true rfl rfl rfl (by decide +kernel)) (by refine blkOk_by ?_; dsimp only [cxOf, Cx.blk, envOfC, compEnvC, relabel, Env.kindOf]; first | decide +kernel | kernel_rfl | rfl) (di_rg1 T.m_range (de_add de_int (de_call L.h27 hr tk (da_cons (de_var 0) (da_cons de_int da_nil))))) (fun _ _ _ _ _ => (dgn 7 nd)) (by decide) (fun _ _ _ _ _ => dts_nil) (fun _ _ _ _ _ => (de_call L.h33 hr takes0 (da_cons (de_var 0) (da_cons (de_var 1) (da_cons (de_var 4) (da_cons (de_var 2) (da_cons (de_var 5) da_nil))))))))
  (dss_one (ds_ret (de_ty bb_tuple call_tuple_of q_tuple T.m_tuple (da_cons (de_var 6) da_nil))))))
theorem ok35 (T : Ft K mg ca) {k : Nat} (L : LvW P w K mg base ca k) : Cal P w K mg base ca (3 * k + 4) "_law_tree" 4 (run (k + 1) 35) := by
  obtain ⟨f, fd, h1, h2, F⟩ := T.f35
  exact ⟨f, fd, ["_law_bag_here", "_law_worlds", "_law_levels", "_law_answers"], h1, h2, F.binds (ps := ["_law_bag_here", "_law_worlds", "_law_levels", "_law_answers"]) fun _ _ _ _ _ _ us hl => match us, hl with | [_, _, _, _], _ => rfl, dv35 T L F⟩
theorem z35 (T : Ft K mg ca) : Cal P w K mg base ca 1 "_law_tree" 4 (run 0 35) := by
  obtain ⟨f, fd, h1, h2, F⟩ := T.f35
  exact ⟨f, fd, ["_law_bag_here", "_law_worlds", "_law_levels", "_law_answers"], h1, h2, F.binds (ps := ["_law_bag_here", "_law_worlds", "_law_levels", "_law_answers"]) fun _ _ _ _ _ _ us hl => match us, hl with | [_, _, _, _], _ => rfl, F.okX sc35 (fun vs H Q E h => (spF_no h).elim) fun cdv A outer s H vs Q E hr h => (spF_no h).elim⟩
theorem sc36 : FnScope ["_law_thing", "_law_turn"] [] (defScope (top 54)) := ⟨rfl, rfl, rfl, by decide +kernel, rfl, by decide +kernel, by decide +kernel⟩
theorem dv36 (T : Ft K mg ca) {k : Nat} (L : LvW P w K mg base ca k) {f : Addr} {fd : FuncData} (F : Fun K "_law_deep" "_law_deep" (top 54) f fd) : FnOk P w K mg base (L2.CX P w) (3 * k + 4) f fd [] (spF K ca 0 (run (k + 1) 36)) := by
  rw [run36]
  refine fn_d (k := 3 * k + 3) (N := ["_law_thing", "_law_turn"]) F sc36 rfl fun cdv A outer s H E hrL => ?_
  have hrM := hrL.mono (show 3 * k + 2 ≤ 3 * k + 3 by omega)
  have hr : Room (3 * k + 1) (A.deeper (envOfC "_law_deep" (defScope (top 54)) s.heap.objs.size f cdv)) := hrL.mono (by omega)
  have hu := hr.units
  have nd := sc36.nd
  have tk : Takes (cxOf (L2.CX P w) P w K mg base ["_law_thing", "_law_turn"] "_law_deep" (defScope (top 54)) f cdv A outer s H E) (fun cls d _ H => E cls d H) := takes_of rfl rfl rfl rfl
  exact (dss_cons (ds_set 0 nd (de_lst (da_cons de_non da_nil)))
  (dss_cons (ds_for (passes_of rfl) rfl (di_rg1 T.m_range de_int) (dgn 1 nd) (dss_one (ds_set 0 nd (de_ite (dt_cmp (cm_eq hu) q_eq (de_mod (de_var 1) de_int) de_int (nomark _)) (de_lst (da_cons (de_var 0) da_nil)) (de_tup (da_cons (de_var 0) da_nil))))))
  (dss_one (ds_ret (de_var 0)))))
theorem ok36 (T : Ft K mg ca) {k : Nat} (L : LvW P w K mg base ca k) : Cal P w K mg base ca (3 * k + 4) "_law_deep" 0 (run (k + 1) 36) := by
  obtain ⟨f, fd, h1, h2, F⟩ := T.f36
  exact ⟨f, fd, [], h1, h2, F.binds (ps := []) fun _ _ _ _ _ _ us hl => match us, hl with | [], _ => rfl, dv36 T L F⟩
theorem z36 (T : Ft K mg ca) : Cal P w K mg base ca 1 "_law_deep" 0 (run 0 36) := by
  obtain ⟨f, fd, h1, h2, F⟩ := T.f36
  exact ⟨f, fd, [], h1, h2, F.binds (ps := []) fun _ _ _ _ _ _ us hl => match us, hl with | [], _ => rfl, F.okX sc36 (fun vs H Q E h => (spF_no h).elim) fun cdv A outer s H vs Q E hr h => (spF_no h).elim⟩
theorem sc37 : FnScope ["_law_bag_here", "_law_some_here"] ["_law_bag_here"] (defScope (top 55)) := ⟨rfl, rfl, rfl, by decide +kernel, rfl, by decide +kernel, by decide +kernel⟩
theorem dv37 (T : Ft K mg ca) {k : Nat} (L : LvW P w K mg base ca k) {f : Addr} {fd : FuncData} (F : Fun K "_law_odd" "_law_odd" (top 55) f fd) : FnOk P w K mg base (L2.CX P w) (3 * k + 4) f fd ["_law_bag_here"] (spF K ca 1 (run (k + 1) 37)) := by
  rw [run37]
  refine fn_d (k := 3 * k + 3) (N := ["_law_bag_here", "_law_some_here"]) F sc37 rfl fun cdv A outer s H E hrL => ?_
  have hrM := hrL.mono (show 3 * k + 2 ≤ 3 * k + 3 by omega)
  have hr : Room (3 * k + 1) (A.deeper (envOfC "_law_odd" (defScope (top 55)) s.heap.objs.size f cdv)) := hrL.mono (by omega)
  have hu := hr.units
  have nd := sc37.nd
  have tk : Takes (cxOf (L2.CX P w) P w K mg base ["_law_bag_here", "_law_some_here"] "_law_odd" (defScope (top 55)) f cdv A outer s H E) (fun cls d _ H => E cls d H) := takes_of rfl rfl rfl rfl
  exact (dss_cons (ds_set 1 nd (de_lst (da_cons de_non (da_cons de_bl (da_cons de_bl (da_cons de_int (da_cons de_int (da_cons (de_neg de_int) (da_cons de_int (da_cons (de_pow de_int de_int) (da_cons de_str (da_cons de_str (da_cons de_str (da_cons (de_tup da_nil) (da_cons (de_lst da_nil) (da_cons de_dct0 (da_cons (de_tup (da_cons (de_tup da_nil) da_nil)) (da_cons (de_tup (da_cons de_int da_nil)) (da_cons (de_tup (da_cons de_int (da_cons de_int da_nil))) (da_cons (de_tup (da_cons de_int (da_cons de_int da_nil))) da_nil))))))))))))))))))))
  (dss_cons (ds_set 1 nd (de_add (de_var 1) (de_lst (da_cons (de_tup (da_cons de_int (da_cons de_int da_nil))) (da_cons (de_lst (da_cons de_int (da_cons de_int da_nil))) (da_cons (de_tup (da_cons de_int (da_cons de_int da_nil))) (da_cons (de_tup (da_cons (de_neg de_int) (da_cons de_int da_nil))) (da_cons (de_tup (da_cons de_int (da_cons de_int da_nil))) (da_cons (de_tup (da_cons de_bl (da_cons de_int da_nil))) (da_cons (de_tup (da_cons (de_tup (da_cons de_int (da_cons de_int da_nil))) da_nil)) (da_cons (de_dct1 hu) (da_cons (de_tup (da_cons de_non (da_cons de_non da_nil))) (da_cons (de_call0 L.h36 hr) da_nil)))))))))))))
  (dss_one (ds_ret (de_call L.h28 hr tk (da_cons (de_var 0) (da_cons (de_var 1) da_nil)))))))
theorem ok37 (T : Ft K mg ca) {k : Nat} (L : LvW P w K mg base ca k) : Cal P w K mg base ca (3 * k + 4) "_law_odd" 1 (run (k + 1) 37) := by
  obtain ⟨f, fd, h1, h2, F⟩ := T.f37
  exact ⟨f, fd, ["_law_bag_here"], h1, h2, F.binds (ps := ["_law_bag_here"]) fun _ _ _ _ _ _ us hl => match us, hl with | [_], _ => rfl, dv37 T L F⟩
theorem z37 (T : Ft K mg ca) : Cal P w K mg base ca 1 "_law_odd" 1 (run 0 37) := by
  obtain ⟨f, fd, h1, h2, F⟩ := T.f37
  exact ⟨f, fd, ["_law_bag_here"], h1, h2, F.binds (ps := ["_law_bag_here"]) fun _ _ _ _ _ _ us hl => match us, hl with | [_], _ => rfl, F.okX sc37 (fun vs H Q E h => (spF_no h).elim) fun cdv A outer s H vs Q E hr h => (spF_no h).elim⟩
theorem sc38 : FnScope ["_law_node_here", "_law_place", "_law_found", "_law_k", "_law_thing"] ["_law_node_here", "_law_place"] (defScope (top 56)) := ⟨rfl, rfl, rfl, by decide +kernel, rfl, by decide +kernel, by decide +kernel⟩
theorem dv38 (T : Ft K mg ca) {k : Nat} (L : LvW P w K mg base ca k) {f : Addr} {fd : FuncData} (F : Fun K "_law_parts" "_law_parts" (top 56) f fd) : FnOk P w K mg base (L2.CX P w) (3 * k + 4) f fd ["_law_node_here", "_law_place"] (spF K ca 2 (run (k + 1) 38)) := by
  rw [run38]
  refine fn_d (k := 3 * k + 3) (N := ["_law_node_here", "_law_place", "_law_found", "_law_k", "_law_thing"]) F sc38 rfl fun cdv A outer s H E hrL => ?_
  have hrM := hrL.mono (show 3 * k + 2 ≤ 3 * k + 3 by omega)
  have hr : Room (3 * k + 1) (A.deeper (envOfC "_law_parts" (defScope (top 56)) s.heap.objs.size f cdv)) := hrL.mono (by omega)
  have hu := hr.units
  have nd := sc38.nd
  have tk : Takes (cxOf (L2.CX P w) P w K mg base ["_law_node_here", "_law_place", "_law_found", "_law_k", "_law_thing"] "_law_parts" (defScope (top 56)) f cdv A outer s H E) (fun cls d _ H => E cls d H) := takes_of rfl rfl rfl rfl
  exact (dss_cons (ds_set 2 nd (de_lst (da_cons (de_tup (da_cons (de_var 1) (da_cons (de_var 0) da_nil))) da_nil)))
  (dss_cons (ds_if (dt_val (de_isi bb_tuple T.m_isinstance T.m_tuple (de_var 0))) (dss_one (ds_for (passes_of rfl) rfl (di_en T.m_enumerate (de_var 0)) (dg_tup rfl (dgs_cons (dgn 3 nd) (dgs_cons (dgn 4 nd) dgs_nil))) (dss_one (ds_set 2 nd (de_add (de_var 2) (de_call L.h38 hr tk (da_cons (de_var 4) (da_cons (de_add (de_var 1) (de_tup (da_cons (de_var 3) da_nil))) da_nil)))))))) dss_nil)
  (dss_one (ds_ret (de_var 2)))))
theorem ok38 (T : Ft K mg ca) {k : Nat} (L : LvW P w K mg base ca k) : Cal P w K mg base ca (3 * k + 4) "_law_parts" 2 (run (k + 1) 38) := by
  obtain ⟨f, fd, h1, h2, F⟩ := T.f38
  exact ⟨f, fd, ["_law_node_here", "_law_place"], h1, h2, F.binds (ps := ["_law_node_here", "_law_place"]) fun _ _ _ _ _ _ us hl => match us, hl with | [_, _], _ => rfl, dv38 T L F⟩
theorem z38 (T : Ft K mg ca) : Cal P w K mg base ca 1 "_law_parts" 2 (run 0 38) := by
  obtain ⟨f, fd, h1, h2, F⟩ := T.f38
  exact ⟨f, fd, ["_law_node_here", "_law_place"], h1, h2, F.binds (ps := ["_law_node_here", "_law_place"]) fun _ _ _ _ _ _ us hl => match us, hl with | [_, _], _ => rfl, F.okX sc38 (fun vs H Q E h => (spF_no h).elim) fun cdv A outer s H vs Q E hr h => (spF_no h).elim⟩
theorem sc39 : FnScope ["_law_thing", "_law_place", "_law_other"] ["_law_thing", "_law_place", "_law_other"] (defScope (top 57)) := ⟨rfl, rfl, rfl, by decide +kernel, rfl, by decide +kernel, by decide +kernel⟩
theorem dv39 (T : Ft K mg ca) {k : Nat} (L : LvW P w K mg base ca k) {f : Addr} {fd : FuncData} (F : Fun K "_law_put" "_law_put" (top 57) f fd) : FnOk P w K mg base (L2.CX P w) (3 * k + 4) f fd ["_law_thing", "_law_place", "_law_other"] (spF K ca 3 (run (k + 1) 39)) := by
  rw [run39]
  refine fn_d (k := 3 * k + 3) (N := ["_law_thing", "_law_place", "_law_other"]) F sc39 rfl fun cdv A outer s H E hrL => ?_
  have hrM := hrL.mono (show 3 * k + 2 ≤ 3 * k + 3 by omega)
  have hr : Room (3 * k + 1) (A.deeper (envOfC "_law_put" (defScope (top 57)) s.heap.objs.size f cdv)) := hrL.mono (by omega)
  have hu := hr.units
  have nd := sc39.nd
  have tk : Takes (cxOf (L2.CX P w) P w K mg base ["_law_thing", "_law_place", "_law_other"] "_law_put" (defScope (top 57)) f cdv A outer s H E) (fun cls d _ H => E cls d H) := takes_of rfl rfl rfl rfl
  exact (dss_cons (ds_if (dt_cmp (cm_eq hu) q_eq (de_var 1) (de_tup da_nil) (nomark _)) (dss_one (ds_ret (de_var 2))) dss_nil)
  (dss_one (ds_ret (de_add (de_add (de_sl (de_var 0) dp_no (dp_some (de_idx (de_var 1) de_int))) (de_tup (da_cons (de_call L.h39 hr tk (da_cons (de_idx (de_var 0) (de_idx (de_var 1) de_int)) (da_cons (de_sl (de_var 1) (dp_some de_int) dp_no) (da_cons (de_var 2) da_nil)))) da_nil))) (de_sl (de_var 0) (dp_some (de_add (de_idx (de_var 1) de_int) de_int)) dp_no)))))
theorem ok39 (T : Ft K mg ca) {k : Nat} (L : LvW P w K mg base ca k) : Cal P w K mg base ca (3 * k + 4) "_law_put" 3 (run (k + 1) 39) := by
  obtain ⟨f, fd, h1, h2, F⟩ := T.f39
  exact ⟨f, fd, ["_law_thing", "_law_place", "_law_other"], h1, h2, F.binds (ps := ["_law_thing", "_law_place", "_law_other"]) fun _ _ _ _ _ _ us hl => match us, hl with | [_, _, _], _ => rfl, dv39 T L F⟩
theorem z39 (T : Ft K mg ca) : Cal P w K mg base ca 1 "_law_put" 3 (run 0 39) := by
  obtain ⟨f, fd, h1, h2, F⟩ := T.f39
  exact ⟨f, fd, ["_law_thing", "_law_place", "_law_other"], h1, h2, F.binds (ps := ["_law_thing", "_law_place", "_law_other"]) fun _ _ _ _ _ _ us hl => match us, hl with | [_, _, _], _ => rfl, F.okX sc39 (fun vs H Q E h => (spF_no h).elim) fun cdv A outer s H vs Q E hr h => (spF_no h).elim⟩
theorem sc40 : FnScope ["_law_bag_here", "_law_thing", "_law_place", "_law_part", "_law_way"] ["_law_bag_here", "_law_thing"] (defScope (top 58)) := ⟨rfl, rfl, rfl, by decide +kernel, rfl, by decide +kernel, by decide +kernel⟩
theorem dv40 (T : Ft K mg ca) {k : Nat} (L : LvW P w K mg base ca k) {f : Addr} {fd : FuncData} (F : Fun K "_law_spoilt" "_law_spoilt" (top 58) f fd) : FnOk P w K mg base (L2.CX P w) (3 * k + 4) f fd ["_law_bag_here", "_law_thing"] (spF K ca 2 (run (k + 1) 40)) := by
  rw [run40]
  refine fn_d (k := 3 * k + 3) (N := ["_law_bag_here", "_law_thing", "_law_place", "_law_part", "_law_way"]) F sc40 rfl fun cdv A outer s H E hrL => ?_
  have hrM := hrL.mono (show 3 * k + 2 ≤ 3 * k + 3 by omega)
  have hr : Room (3 * k + 1) (A.deeper (envOfC "_law_spoilt" (defScope (top 58)) s.heap.objs.size f cdv)) := hrL.mono (by omega)
  have hu := hr.units
  have nd := sc40.nd
  have tk : Takes (cxOf (L2.CX P w) P w K mg base ["_law_bag_here", "_law_thing", "_law_place", "_law_part", "_law_way"] "_law_spoilt" (defScope (top 58)) f cdv A outer s H E) (fun cls d _ H => E cls d H) := takes_of rfl rfl rfl rfl
  exact (dss_cons (ds_asg (de_call L.h28 hr tk (da_cons (de_var 0) (da_cons (de_call L.h38 hr tk (da_cons (de_var 1) (da_cons (de_tup da_nil) da_nil))) da_nil))) (dg_tup rfl (dgs_cons (dgn 2 nd) (dgs_cons (dgn 3 nd) dgs_nil))))
  (dss_cons (ds_set 4 nd (de_call L.h27 hr tk (da_cons (de_var 0) (da_cons de_int da_nil))))
  (dss_cons (ds_if (dt_w (dw_and (dt_cmp (cm_eq hu) q_eq (de_var 4) de_int (nomark _)) (dw_and1 (dt_val (de_isi bb_tuple T.m_isinstance T.m_tuple (de_var 3)))))) (dss_one (ds_ret (de_call L.h39 hr tk (da_cons (de_var 1) (da_cons (de_var 2) (da_cons (de_ty bb_list call_list_of q_list T.m_list (da_cons (de_var 3) da_nil)) da_nil)))))) dss_nil)
  (dss_cons (ds_if (dt_w (dw_and (dt_cmp (cm_eq hu) q_eq (de_var 4) de_int (nomark _)) (dw_and (dt_val (de_isi bb_tuple T.m_isinstance T.m_tuple (de_var 3))) (dw_and1 (dt_cmp op_gt (q_ord fun i j => decide (j < i)) (de_bi bb_len call_len q_len T.m_len (da_cons (de_var 3) da_nil)) de_int (nomark _)))))) (dss_one (ds_ret (de_call L.h39 hr tk (da_cons (de_var 1) (da_cons (de_var 2) (da_cons (de_sl (de_var 3) dp_no (dp_some (de_neg de_int))) da_nil)))))) dss_nil)
  (dss_cons (ds_if (dt_w (dw_and (dt_cmp (cm_eq hu) q_eq (de_var 4) de_int (nomark _)) (dw_and (dt_val (de_isi bb_tuple T.m_isinstance T.m_tuple (de_var 3))) (dw_and1 (dt_cmp op_gt (q_ord fun i j => decide (j < i)) (de_bi bb_len call_len q_len T.m_len (da_cons (de_var 3) da_nil)) de_int (nomark _)))))) (dss_one (ds_ret (de_call L.h39 hr tk (da_cons (de_var 1) (da_cons (de_var 2) (da_cons (de_add (de_var 3) (de_sl (de_var 3) (dp_some (de_neg de_int)) dp_no)) da_nil)))))) dss_nil)
  (dss_cons (ds_if (dt_w (dw_and (dt_cmp (cm_eq hu) q_eq (de_var 4) de_int (nomark _)) (dw_and (dt_val (de_isi bb_int T.m_isinstance T.m_int (de_var 3))) (dw_and1 (dt_not (dt_val (de_isi bb_bool T.m_isinstance T.m_bool (de_var 3)))))))) (dss_one (ds_ret (de_call L.h39 hr tk (da_cons (de_var 1) (da_cons (de_var 2) (da_cons (de_add (de_var 3) (de_call L.h28 hr tk (da_cons (de_var 0) (da_cons (de_lst (da_cons de_int (da_cons (de_neg de_int) (da_cons de_int da_nil)))) da_nil)))) da_nil)))))) dss_nil)
  (dss_cons (ds_if (dt_w (dw_and (dt_cmp (cm_eq hu) q_eq (de_var 4) de_int (nomark _)) (dw_and (dt_val (de_isi bb_tuple T.m_isinstance T.m_tuple (de_var 3))) (dw_and1 (dt_cmp op_gt (q_ord fun i j => decide (j < i)) (de_bi bb_len call_len q_len T.m_len (da_cons (de_var 3) da_nil)) de_int (nomark _)))))) (dss_one (ds_ret (de_call L.h39 hr tk (da_cons (de_var 1) (da_cons (de_var 2) (da_cons (de_revT (de_var 3)) da_nil)))))) dss_nil)
  (dss_one (ds_ret (de_call L.h39 hr tk (da_cons (de_var 1) (da_cons (de_var 2) (da_cons (de_call L.h37 hr tk (da_cons (de_var 0) da_nil)) da_nil)))))))))))))
theorem ok40 (T : Ft K mg ca) {k : Nat} (L : LvW P w K mg base ca k) : Cal P w K mg base ca (3 * k + 4) "_law_spoilt" 2 (run (k + 1) 40) := by
  obtain ⟨f, fd, h1, h2, F⟩ := T.f40
  exact ⟨f, fd, ["_law_bag_here", "_law_thing"], h1, h2, F.binds (ps := ["_law_bag_here", "_law_thing"]) fun _ _ _ _ _ _ us hl => match us, hl with | [_, _], _ => rfl, dv40 T L F⟩
theorem z40 (T : Ft K mg ca) : Cal P w K mg base ca 1 "_law_spoilt" 2 (run 0 40) := by
  obtain ⟨f, fd, h1, h2, F⟩ := T.f40
  exact ⟨f, fd, ["_law_bag_here", "_law_thing"], h1, h2, F.binds (ps := ["_law_bag_here", "_law_thing"]) fun _ _ _ _ _ _ us hl => match us, hl with | [_, _], _ => rfl, F.okX sc40 (fun vs H Q E h => (spF_no h).elim) fun cdv A outer s H vs Q E hr h => (spF_no h).elim⟩
theorem sc41 : FnScope ["_law_bag_here", "_law_here", "_law_goal", "_law_left", "_law_question_here"] ["_law_bag_here", "_law_here", "_law_goal", "_law_left"] (defScope (top 59)) := ⟨rfl, rfl, rfl, by decide +kernel, rfl, by decide +kernel, by decide +kernel⟩
theorem dv41 (T : Ft K mg ca) {k : Nat} (L : LvW P w K mg base ca k) {f : Addr} {fd : FuncData} (F : Fun K "_law_wait" "_law_wait" (top 59) f fd) : FnOk P w K mg base (L2.CX P w) (3 * k + 4) f fd ["_law_bag_here", "_law_here", "_law_goal", "_law_left"] (spF K ca 4 (run (k + 1) 41)) := by
  rw [run41]
  refine fn_d (k := 3 * k + 3) (N := ["_law_bag_here", "_law_here", "_law_goal", "_law_left", "_law_question_here"]) F sc41 rfl fun cdv A outer s H E hrL => ?_
  have hrM := hrL.mono (show 3 * k + 2 ≤ 3 * k + 3 by omega)
  have hr : Room (3 * k + 1) (A.deeper (envOfC "_law_wait" (defScope (top 59)) s.heap.objs.size f cdv)) := hrL.mono (by omega)
  have hu := hr.units
  have nd := sc41.nd
  have tk : Takes (cxOf (L2.CX P w) P w K mg base ["_law_bag_here", "_law_here", "_law_goal", "_law_left", "_law_question_here"] "_law_wait" (defScope (top 59)) f cdv A outer s H E) (fun cls d _ H => E cls d H) := takes_of rfl rfl rfl rfl
  exact (dss_one (ds_ret (de_ty bb_tuple call_tuple_of q_tuple T.m_tuple (da_cons (de_lc [("_law_question_here", 4)] rfl nd (by refine blkOk_by ?_; dsimp only [cxOf, Cx.blk, envOfC, compEnvC, relabel, Env.kindOf]; first | decide +kernel | kernel_rfl | rfl) (di_any (de_var 2)) (fun _ _ _ _ _ => (dgn 4 nd)) (by decide) (fun _ _ _ _ _ => dts_nil) (fun _ _ _ _ _ => (de_call L.h42 hr takes0 (da_cons (de_var 0) (da_cons (de_var 1) (da_cons (de_var 4) (da_cons (de_var 3) da_nil))))))) da_nil))))
theorem ok41 (T : Ft K mg ca) {k : Nat} (L : LvW P w K mg base ca k) : Cal P w K mg base ca (3 * k + 4) "_law_wait" 4 (run (k + 1) 41) := by
  obtain ⟨f, fd, h1, h2, F⟩ := T.f41
  exact ⟨f, fd, ["_law_bag_here", "_law_here", "_law_goal", "_law_left"], h1, h2, F.binds (ps := ["_law_bag_here", "_law_here", "_law_goal", "_law_left"]) fun _ _ _ _ _ _ us hl => match us, hl with | [_, _, _, _], _ => rfl, dv41 T L F⟩
theorem z41 (T : Ft K mg ca) : Cal P w K mg base ca 1 "_law_wait" 4 (run 0 41) := by
  obtain ⟨f, fd, h1, h2, F⟩ := T.f41
  exact ⟨f, fd, ["_law_bag_here", "_law_here", "_law_goal", "_law_left"], h1, h2, F.binds (ps := ["_law_bag_here", "_law_here", "_law_goal", "_law_left"]) fun _ _ _ _ _ _ us hl => match us, hl with | [_, _, _, _], _ => rfl, F.okX sc41 (fun vs H Q E h => (spF_no h).elim) fun cdv A outer s H vs Q E hr h => (spF_no h).elim⟩
theorem sc42 : FnScope ["_law_bag_here", "_law_here", "_law_question_here", "_law_left", "_law_q", "_law_a", "_law_word_here", "_law_weights", "_law_behind"] ["_law_bag_here", "_law_here", "_law_question_here", "_law_left"] (defScope (top 60)) := ⟨rfl, rfl, rfl, by decide +kernel, rfl, by decide +kernel, by decide +kernel⟩
theorem dv42 (T : Ft K mg ca) {k : Nat} (L : LvW P w K mg base ca k) {f : Addr} {fd : FuncData} (F : Fun K "_law_move" "_law_move" (top 60) f fd) : FnOk P w K mg base (L2.CX P w) (3 * k + 4) f fd ["_law_bag_here", "_law_here", "_law_question_here", "_law_left"] (spF K ca 4 (run (k + 1) 42)) := by
  rw [run42]
  refine fn_d (k := 3 * k + 3) (N := ["_law_bag_here", "_law_here", "_law_question_here", "_law_left", "_law_q", "_law_a", "_law_word_here", "_law_weights", "_law_behind"]) F sc42 rfl fun cdv A outer s H E hrL => ?_
  have hrM := hrL.mono (show 3 * k + 2 ≤ 3 * k + 3 by omega)
  have hr : Room (3 * k + 1) (A.deeper (envOfC "_law_move" (defScope (top 60)) s.heap.objs.size f cdv)) := hrL.mono (by omega)
  have hu := hr.units
  have nd := sc42.nd
  have tk : Takes (cxOf (L2.CX P w) P w K mg base ["_law_bag_here", "_law_here", "_law_question_here", "_law_left", "_law_q", "_law_a", "_law_word_here", "_law_weights", "_law_behind"] "_law_move" (defScope (top 60)) f cdv A outer s H E) (fun cls d _ H => E cls d H) := takes_of rfl rfl rfl rfl
  exact (dss_cons (ds_augS ip_sub (de_var 3) de_int de_int)
  (dss_cons (ds_if (dt_w (dw_and (dt_cmp op_gt (q_ord fun i j => decide (j < i)) (de_bi bb_len call_len q_len T.m_len (da_cons (de_var 1) da_nil)) de_int (nomark _)) (dw_and (dt_cmp op_gt (q_ord fun i j => decide (j < i)) (de_idx (de_var 3) de_int) de_int (nomark _)) (dw_and1 (dt_cmp op_gt (q_ord fun i j => decide (j < i)) (de_call L.h27 hr tk (da_cons (de_var 0) (da_cons de_int da_nil))) de_int (nomark _)))))) (dss_cons (ds_set 4 nd (de_call L.h27 hr tk (da_cons (de_var 0) (da_cons (de_bi bb_len call_len q_len T.m_len (da_cons (de_var 1) da_nil)) da_nil))))
  (dss_one (ds_ret (de_tup (da_cons de_str (da_cons (de_var 4) (da_cons (de_ty bb_tuple call_tuple_of q_tuple T.m_tuple (da_cons (de_lc [("_law_word_here", 6), ("_law_weights", 7), ("_law_behind", 8)] rfl nd (by refine blkOk_by ?_; dsimp only [cxOf, Cx.blk, envOfC, compEnvC, relabel, Env.kindOf]; first | decide +kernel | kernel_rfl | rfl) (di_any (de_idx (de_var 1) (de_var 4))) (fun _ _ _ _ _ => (dg_tup rfl (dgs_cons (dgn 6 nd) (dgs_cons (dgn 7 nd) (dgs_cons (dgn 8 nd) dgs_nil))))) (by decide) (fun _ _ _ _ _ => dts_nil) (fun _ _ _ _ _ => (de_call L.h42 hr takes0 (da_cons (de_var 0) (da_cons (de_var 8) (da_cons (de_var 2) (da_cons (de_var 3) da_nil))))))) da_nil)) da_nil))))))) dss_nil)
  (dss_cons (ds_set 5 nd (de_call L.h27 hr tk (da_cons (de_var 0) (da_cons (de_bi bb_len call_len q_len T.m_len (da_cons (de_var 2) da_nil)) da_nil))))
  (dss_one (ds_ret (de_tup (da_cons de_str (da_cons (de_var 5) (da_cons (de_call L.h41 hr tk (da_cons (de_var 0) (da_cons (de_var 1) (da_cons (de_idx (de_idx (de_var 2) (de_var 5)) de_int) (da_cons (de_var 3) da_nil))))) da_nil)))))))))
theorem ok42 (T : Ft K mg ca) {k : Nat} (L : LvW P w K mg base ca k) : Cal P w K mg base ca (3 * k + 4) "_law_move" 4 (run (k + 1) 42) := by
  obtain ⟨f, fd, h1, h2, F⟩ := T.f42
  exact ⟨f, fd, ["_law_bag_here", "_law_here", "_law_question_here", "_law_left"], h1, h2, F.binds (ps := ["_law_bag_here", "_law_here", "_law_question_here", "_law_left"]) fun _ _ _ _ _ _ us hl => match us, hl with | [_, _, _, _], _ => rfl, dv42 T L F⟩
theorem z42 (T : Ft K mg ca) : Cal P w K mg base ca 1 "_law_move" 4 (run 0 42) := by
  obtain ⟨f, fd, h1, h2, F⟩ := T.f42
  exact ⟨f, fd, ["_law_bag_here", "_law_here", "_law_question_here", "_law_left"], h1, h2, F.binds (ps := ["_law_bag_here", "_law_here", "_law_question_here", "_law_left"]) fun _ _ _ _ _ _ us hl => match us, hl with | [_, _, _, _], _ => rfl, F.okX sc42 (fun vs H Q E h => (spF_no h).elim) fun cdv A outer s H vs Q E hr h => (spF_no h).elim⟩
theorem sc43 : FnScope ["_law_thing", "_law_least", "_law_most"] ["_law_thing", "_law_least", "_law_most"] (defScope (top 61)) := ⟨rfl, rfl, rfl, by decide +kernel, rfl, by decide +kernel, by decide +kernel⟩
theorem dv43 (T : Ft K mg ca) {k : Nat} (L : LvW P w K mg base ca k) {f : Addr} {fd : FuncData} (F : Fun K "_law_is_int" "_law_is_int" (top 61) f fd) : FnOk P w K mg base (L2.CX P w) (3 * k + 4) f fd ["_law_thing", "_law_least", "_law_most"] (spF K ca 3 (run (k + 1) 43)) := by
  rw [run43]
  refine fn_d (k := 3 * k + 3) (N := ["_law_thing", "_law_least", "_law_most"]) F sc43 rfl fun cdv A outer s H E hrL => ?_
  have hrM := hrL.mono (show 3 * k + 2 ≤ 3 * k + 3 by omega)
  have hr : Room (3 * k + 1) (A.deeper (envOfC "_law_is_int" (defScope (top 61)) s.heap.objs.size f cdv)) := hrL.mono (by omega)
  have hu := hr.units
  have nd := sc43.nd
  have tk : Takes (cxOf (L2.CX P w) P w K mg base ["_law_thing", "_law_least", "_law_most"] "_law_is_int" (defScope (top 61)) f cdv A outer s H E) (fun cls d _ H => E cls d H) := takes_of rfl rfl rfl rfl
  exact (dss_one (ds_ret (de_and (de_isi bb_int T.m_isinstance T.m_int (de_var 0)) (de_and (de_not (de_isi bb_bool T.m_isinstance T.m_bool (de_var 0))) (de_one (de_chain op_le (q_ord fun i j => decide (i ≤ j)) op_le (q_ord fun i j => decide (i ≤ j)) (de_var 1) (de_var 0) (de_var 2)))))))
theorem ok43 (T : Ft K mg ca) {k : Nat} (L : LvW P w K mg base ca k) : Cal P w K mg base ca (3 * k + 4) "_law_is_int" 3 (run (k + 1) 43) := by
  obtain ⟨f, fd, h1, h2, F⟩ := T.f43
  exact ⟨f, fd, ["_law_thing", "_law_least", "_law_most"], h1, h2, F.binds (ps := ["_law_thing", "_law_least", "_law_most"]) fun _ _ _ _ _ _ us hl => match us, hl with | [_, _, _], _ => rfl, dv43 T L F⟩
theorem z43 (T : Ft K mg ca) : Cal P w K mg base ca 1 "_law_is_int" 3 (run 0 43) := by
  obtain ⟨f, fd, h1, h2, F⟩ := T.f43
  exact ⟨f, fd, ["_law_thing", "_law_least", "_law_most"], h1, h2, F.binds (ps := ["_law_thing", "_law_least", "_law_most"]) fun _ _ _ _ _ _ us hl => match us, hl with | [_, _, _], _ => rfl, F.okX sc43 (fun vs H Q E h => (spF_no h).elim) fun cdv A outer s H vs Q E hr h => (spF_no h).elim⟩
theorem sc44 : FnScope ["_law_here", "_law_goal", "_law_thing", "_law_k"] ["_law_here", "_law_goal", "_law_thing"] (defScope (top 62)) := ⟨rfl, rfl, rfl, by decide +kernel, rfl, by decide +kernel, by decide +kernel⟩
theorem dv44 (T : Ft K mg ca) {k : Nat} (L : LvW P w K mg base ca k) {f : Addr} {fd : FuncData} (F : Fun K "_law_is_wait" "_law_is_wait" (top 62) f fd) : FnOk P w K mg base (L2.CX P w) (3 * k + 4) f fd ["_law_here", "_law_goal", "_law_thing"] (spF K ca 3 (run (k + 1) 44)) := by
  rw [run44]
  refine fn_d (k := 3 * k + 3) (N := ["_law_here", "_law_goal", "_law_thing", "_law_k"]) F sc44 rfl fun cdv A outer s H E hrL => ?_
  have hrM := hrL.mono (show 3 * k + 2 ≤ 3 * k + 3 by omega)
  have hr : Room (3 * k + 1) (A.deeper (envOfC "_law_is_wait" (defScope (top 62)) s.heap.objs.size f cdv)) := hrL.mono (by omega)
  have hu := hr.units
  have nd := sc44.nd
  have tk : Takes (cxOf (L2.CX P w) P w K mg base ["_law_here", "_law_goal", "_law_thing", "_law_k"] "_law_is_wait" (defScope (top 62)) f cdv A outer s H E) (fun cls d _ H => E cls d H) := takes_of rfl rfl rfl rfl
  exact (dss_cons (ds_if (dt_w (dw_or (dt_not (dt_val (de_isi bb_tuple T.m_isinstance T.m_tuple (de_var 2)))) (dw_or1 (dt_cmp (cm_ne hu) q_ne (de_bi bb_len call_len q_len T.m_len (da_cons (de_var 2) da_nil)) (de_bi bb_len call_len q_len T.m_len (da_cons (de_var 1) da_nil)) (nomark _))))) (dss_one (ds_ret de_bl)) dss_nil)
  (dss_one (ds_ret (de_bi bb_all (cr_all rfl) q_all T.m_all (da_cons (de_lc [("_law_k", 3)] rfl nd (by refine blkOk_by ?_; dsimp only [cxOf, Cx.blk, envOfC, compEnvC, relabel, Env.kindOf]; first | decide +kernel | kernel_rfl | rfl) (di_rg1 T.m_range (de_bi bb_len call_len q_len T.m_len (da_cons (de_var 1) da_nil))) (fun _ _ _ _ _ => (dgn 3 nd)) (by decide) (fun _ _ _ _ _ => dts_nil) (fun _ _ _ _ _ => (de_call L.h45 hr takes0 (da_cons (de_var 0) (da_cons (de_idx (de_var 1) (de_var 3)) (da_cons (de_idx (de_var 2) (de_var 3)) da_nil)))))) da_nil)))))
theorem ok44 (T : Ft K mg ca) {k : Nat} (L : LvW P w K mg base ca k) : Cal P w K mg base ca (3 * k + 4) "_law_is_wait" 3 (run (k + 1) 44) := by
  obtain ⟨f, fd, h1, h2, F⟩ := T.f44
  exact ⟨f, fd, ["_law_here", "_law_goal", "_law_thing"], h1, h2, F.binds (ps := ["_law_here", "_law_goal", "_law_thing"]) fun _ _ _ _ _ _ us hl => match us, hl with | [_, _, _], _ => rfl, dv44 T L F⟩
theorem z44 (T : Ft K mg ca) : Cal P w K mg base ca 1 "_law_is_wait" 3 (run 0 44) := by
  obtain ⟨f, fd, h1, h2, F⟩ := T.f44
  exact ⟨f, fd, ["_law_here", "_law_goal", "_law_thing"], h1, h2, F.binds (ps := ["_law_here", "_law_goal", "_law_thing"]) fun _ _ _ _ _ _ us hl => match us, hl with | [_, _, _], _ => rfl, F.okX sc44 (fun vs H Q E h => (spF_no h).elim) fun cdv A outer s H vs Q E hr h => (spF_no h).elim⟩
theorem sc45 : FnScope ["_law_here", "_law_question_here", "_law_thing", "_law_answers", "_law_k"] ["_law_here", "_law_question_here", "_law_thing"] (defScope (top 63)) := ⟨rfl, rfl, rfl, by decide +kernel, rfl, by decide +kernel, by decide +kernel⟩
theorem dv45 (T : Ft K mg ca) {k : Nat} (L : LvW P w K mg base ca k) {f : Addr} {fd : FuncData} (F : Fun K "_law_is_move" "_law_is_move" (top 63) f fd) : FnOk P w K mg base (L2.CX P w) (3 * k + 4) f fd ["_law_here", "_law_question_here", "_law_thing"] (spF K ca 3 (run (k + 1) 45)) := by
  rw [run45]
  refine fn_d (k := 3 * k + 3) (N := ["_law_here", "_law_question_here", "_law_thing", "_law_answers", "_law_k"]) F sc45 rfl fun cdv A outer s H E hrL => ?_
  have hrM := hrL.mono (show 3 * k + 2 ≤ 3 * k + 3 by omega)
  have hr : Room (3 * k + 1) (A.deeper (envOfC "_law_is_move" (defScope (top 63)) s.heap.objs.size f cdv)) := hrL.mono (by omega)
  have hu := hr.units
  have nd := sc45.nd
  have tk : Takes (cxOf (L2.CX P w) P w K mg base ["_law_here", "_law_question_here", "_law_thing", "_law_answers", "_law_k"] "_law_is_move" (defScope (top 63)) f cdv A outer s H E) (fun cls d _ H => E cls d H) := takes_of rfl rfl rfl rfl
  exact (dss_cons (ds_if (dt_w (dw_or (dt_not (dt_val (de_isi bb_tuple T.m_isinstance T.m_tuple (de_var 2)))) (dw_or (dt_cmp (cm_ne hu) q_ne (de_bi bb_len call_len q_len T.m_len (da_cons (de_var 2) da_nil)) de_int (nomark _)) (dw_or1 (dt_not (dt_val (de_isi bb_str T.m_isinstance T.m_str (de_idx (de_var 2) de_int)))))))) (dss_one (ds_ret de_bl)) dss_nil)
  (dss_cons (ds_if (dt_cmp (cm_eq hu) q_eq (de_idx (de_var 2) de_int) de_str (nomark _)) (dss_one (ds_ret (de_and (de_call L.h43 hr tk (da_cons (de_idx (de_var 2) de_int) (da_cons de_int (da_cons (de_sub (de_bi bb_len call_len q_len T.m_len (da_cons (de_var 1) da_nil)) de_int) da_nil)))) (de_one (de_call L.h44 hr tk (da_cons (de_var 0) (da_cons (de_idx (de_idx (de_var 1) (de_idx (de_var 2) de_int)) de_int) (da_cons (de_idx (de_var 2) de_int) da_nil)))))))) dss_nil)
  (dss_cons (ds_if (dt_w (dw_or (dt_cmp (cm_ne hu) q_ne (de_idx (de_var 2) de_int) de_str (nomark _)) (dw_or1 (dt_not (dt_val (de_call L.h43 hr tk (da_cons (de_idx (de_var 2) de_int) (da_cons de_int (da_cons (de_sub (de_bi bb_len call_len q_len T.m_len (da_cons (de_var 0) da_nil)) de_int) da_nil))))))))) (dss_one (ds_ret de_bl)) dss_nil)
  (dss_cons (ds_set 3 nd (de_idx (de_var 0) (de_idx (de_var 2) de_int)))
  (dss_cons (ds_if (dt_w (dw_or (dt_not (dt_val (de_isi bb_tuple T.m_isinstance T.m_tuple (de_idx (de_var 2) de_int)))) (dw_or1 (dt_cmp (cm_ne hu) q_ne (de_bi bb_len call_len q_len T.m_len (da_cons (de_idx (de_var 2) de_int) da_nil)) (de_bi bb_len call_len q_len T.m_len (da_cons (de_var 3) da_nil)) (nomark _))))) (dss_one (ds_ret de_bl)) dss_nil)
  (dss_one (ds_ret (de_bi bb_all (cr_all rfl) q_all T.m_all (da_cons (de_lc [("_law_k", 4)] rfl nd (by refine blkOk_by ?_; dsimp only [cxOf, Cx.blk, envOfC, compEnvC, relabel, Env.kindOf]; first | decide +kernel | kernel_rfl | rfl) (di_rg1 T.m_range (de_bi bb_len call_len q_len T.m_len (da_cons (de_var 3) da_nil))) (fun _ _ _ _ _ => (dgn 4 nd)) (by decide) (fun _ _ _ _ _ => dts_nil) (fun _ _ _ _ _ => (de_call L.h45 hr takes0 (da_cons (de_idx (de_idx (de_var 3) (de_var 4)) de_int) (da_cons (de_var 1) (da_cons (de_idx (de_idx (de_var 2) de_int) (de_var 4)) da_nil)))))) da_nil)))))))))
theorem ok45 (T : Ft K mg ca) {k : Nat} (L : LvW P w K mg base ca k) : Cal P w K mg base ca (3 * k + 4) "_law_is_move" 3 (run (k + 1) 45) := by
  obtain ⟨f, fd, h1, h2, F⟩ := T.f45
  exact ⟨f, fd, ["_law_here", "_law_question_here", "_law_thing"], h1, h2, F.binds (ps := ["_law_here", "_law_question_here", "_law_thing"]) fun _ _ _ _ _ _ us hl => match us, hl with | [_, _, _], _ => rfl, dv45 T L F⟩
theorem z45 (T : Ft K mg ca) : Cal P w K mg base ca 1 "_law_is_move" 3 (run 0 45) := by
  obtain ⟨f, fd, h1, h2, F⟩ := T.f45
  exact ⟨f, fd, ["_law_here", "_law_question_here", "_law_thing"], h1, h2, F.binds (ps := ["_law_here", "_law_question_here", "_law_thing"]) fun _ _ _ _ _ _ us hl => match us, hl with | [_, _, _], _ => rfl, F.okX sc45 (fun vs H Q E h => (spF_no h).elim) fun cdv A outer s H vs Q E hr h => (spF_no h).elim⟩
theorem sc46 : FnScope ["_law_bag_here", "_law_worlds", "_law_node_here", "_law_ahead", "_law_found", "_law_question_here", "_law_rows", "_law_answers", "_law_k", "_law_word_here", "_law_weights", "_law_behind", "_law_there", "_law_world"] ["_law_bag_here", "_law_worlds", "_law_node_here", "_law_ahead"] (defScope (top 64)) := ⟨rfl, rfl, rfl, by decide +kernel, rfl, by decide +kernel, by decide +kernel⟩
theorem dv46 (T : Ft K mg ca) {k : Nat} (L : LvW P w K mg base ca k) {f : Addr} {fd : FuncData} (F : Fun K "_law_reweighted" "_law_reweighted" (top 64) f fd) : FnOk P w K mg base (L2.CX P w) (3 * k + 4) f fd ["_law_bag_here", "_law_worlds", "_law_node_here", "_law_ahead"] (spF K ca 4 (run (k + 1) 46)) := by
  rw [run46]
  refine fn_d (k := 3 * k + 3) (N := ["_law_bag_here", "_law_worlds", "_law_node_here", "_law_ahead", "_law_found", "_law_question_here", "_law_rows", "_law_answers", "_law_k", "_law_word_here", "_law_weights", "_law_behind", "_law_there", "_law_world"]) F sc46 rfl fun cdv A outer s H E hrL => ?_
  have hrM := hrL.mono (show 3 * k + 2 ≤ 3 * k + 3 by omega)
  have hr : Room (3 * k + 1) (A.deeper (envOfC "_law_reweighted" (defScope (top 64)) s.heap.objs.size f cdv)) := hrL.mono (by omega)
  have hu := hr.units
  have nd := sc46.nd
  have tk : Takes (cxOf (L2.CX P w) P w K mg base ["_law_bag_here", "_law_worlds", "_law_node_here", "_law_ahead", "_law_found", "_law_question_here", "_law_rows", "_law_answers", "_law_k", "_law_word_here", "_law_weights", "_law_behind", "_law_there", "_law_world"] "_law_reweighted" (defScope (top 64)) f cdv A outer s H E) (fun cls d _ H => E cls d H) := takes_of rfl rfl rfl rfl
  exact (dss_cons (ds_set 4 nd (de_new da_nil))
  (dss_cons (ds_for (passes_of rfl) rfl (di_any (de_var 2)) (dgn 5 nd) (dss_cons (ds_set 6 nd (de_lc [("_law_world", 13)] rfl nd (by refine blkOk_by ?_; dsimp only [cxOf, Cx.blk, envOfC, compEnvC, relabel, Env.kindOf]; first | decide +kernel | kernel_rfl | rfl) (di_rg1 T.m_range (de_var 1)) (fun _ _ _ _ _ => (dgn 13 nd)) (by decide) (fun _ _ _ _ _ => dts_nil) (fun _ _ _ _ _ => (de_call L.h32 hr takes0 (da_cons (de_var 0) (da_cons (de_bi bb_len call_len q_len T.m_len (da_cons (de_var 5) da_nil)) (da_cons de_int da_nil)))))))
  (dss_cons (ds_set 7 nd (de_new da_nil))
  (dss_cons (ds_for (passes_of rfl) rfl (di_en T.m_enumerate (de_var 5)) (dg_tup rfl (dgs_cons (dgn 8 nd) (dgs_cons (dg_tup rfl (dgs_cons (dgn 9 nd) (dgs_cons (dgn 10 nd) (dgs_cons (dgn 11 nd) dgs_nil)))) dgs_nil))) (dss_cons (ds_set 12 nd (de_ty bb_tuple call_tuple_of q_tuple T.m_tuple (da_cons (de_lc [("_law_world", 13)] rfl nd (by refine blkOk_by ?_; dsimp only [cxOf, Cx.blk, envOfC, compEnvC, relabel, Env.kindOf]; first | decide +kernel | kernel_rfl | rfl) (di_rg1 T.m_range (de_var 1)) (fun _ _ _ _ _ => (dgn 13 nd)) (by decide) (fun _ _ _ _ _ => dts_nil) (fun _ _ _ _ _ => (de_call L.h31 hr takes0 (da_cons (de_idx (de_var 3) (de_var 13)) (da_cons (de_idx (de_idx (de_var 6) (de_var 13)) (de_var 8)) da_nil))))) da_nil)))
  (dss_one (ds_expr (de_mt PySem.F.slot_list_append PySem.F.type_list_append mt_append ok_app (de_var 7) (de_tup (da_cons (de_var 9) (da_cons (de_var 12) (da_cons (de_call L.h46 hr tk (da_cons (de_var 0) (da_cons (de_var 1) (da_cons (de_var 11) (da_cons (de_var 12) da_nil))))) da_nil)))))))))
  (dss_one (ds_expr (de_mt PySem.F.slot_list_append PySem.F.type_list_append mt_append ok_app (de_var 4) (de_ty bb_tuple call_tuple_of q_tuple T.m_tuple (da_cons (de_var 7) da_nil)))))))))
  (dss_one (ds_ret (de_ty bb_tuple call_tuple_of q_tuple T.m_tuple (da_cons (de_var 4) da_nil))))))
theorem ok46 (T : Ft K mg ca) {k : Nat} (L : LvW P w K mg base ca k) : Cal P w K mg base ca (3 * k + 4) "_law_reweighted" 4 (run (k + 1) 46) := by
  obtain ⟨f, fd, h1, h2, F⟩ := T.f46
  exact ⟨f, fd, ["_law_bag_here", "_law_worlds", "_law_node_here", "_law_ahead"], h1, h2, F.binds (ps := ["_law_bag_here", "_law_worlds", "_law_node_here", "_law_ahead"]) fun _ _ _ _ _ _ us hl => match us, hl with | [_, _, _, _], _ => rfl, dv46 T L F⟩
theorem z46 (T : Ft K mg ca) : Cal P w K mg base ca 1 "_law_reweighted" 4 (run 0 46) := by
  obtain ⟨f, fd, h1, h2, F⟩ := T.f46
  exact ⟨f, fd, ["_law_bag_here", "_law_worlds", "_law_node_here", "_law_ahead"], h1, h2, F.binds (ps := ["_law_bag_here", "_law_worlds", "_law_node_here", "_law_ahead"]) fun _ _ _ _ _ _ us hl => match us, hl with | [_, _, _, _], _ => rfl, F.okX sc46 (fun vs H Q E h => (spF_no h).elim) fun cdv A outer s H vs Q E hr h => (spF_no h).elim⟩
theorem sc47 : FnScope ["_law_bag_here", "_law_levels", "_law_answers", "_law_worlds"] ["_law_bag_here", "_law_levels", "_law_answers"] (defScope (top 65)) := ⟨rfl, rfl, rfl, by decide +kernel, rfl, by decide +kernel, by decide +kernel⟩
theorem dv47 (T : Ft K mg ca) {k : Nat} (L : LvW P w K mg base ca k) {f : Addr} {fd : FuncData} (F : Fun K "_law_two" "_law_two" (top 65) f fd) : FnOk P w K mg base (L2.CX P w) (3 * k + 4) f fd ["_law_bag_here", "_law_levels", "_law_answers"] (spF K ca 3 (run (k + 1) 47)) := by
  rw [run47]
  refine fn_d (k := 3 * k + 3) (N := ["_law_bag_here", "_law_levels", "_law_answers", "_law_worlds"]) F sc47 rfl fun cdv A outer s H E hrL => ?_
  have hrM := hrL.mono (show 3 * k + 2 ≤ 3 * k + 3 by omega)
  have hr : Room (3 * k + 1) (A.deeper (envOfC "_law_two" (defScope (top 65)) s.heap.objs.size f cdv)) := hrL.mono (by omega)
  have hu := hr.units
  have nd := sc47.nd
  have tk : Takes (cxOf (L2.CX P w) P w K mg base ["_law_bag_here", "_law_levels", "_law_answers", "_law_worlds"] "_law_two" (defScope (top 65)) f cdv A outer s H E) (fun cls d _ H => E cls d H) := takes_of rfl rfl rfl rfl
  exact (dss_cons (ds_set 3 nd (de_add de_int (de_call L.h27 hr tk (da_cons (de_var 0) (da_cons de_int da_nil)))))
  (dss_one (ds_ret (de_tup (da_cons (de_var 3) (da_cons (de_call L.h35 hr tk (da_cons (de_var 0) (da_cons (de_var 3) (da_cons (de_var 1) (da_cons (de_var 2) da_nil))))) (da_cons (de_call L.h35 hr tk (da_cons (de_var 0) (da_cons (de_var 3) (da_cons (de_var 1) (da_cons (de_var 2) da_nil))))) da_nil)))))))
theorem ok47 (T : Ft K mg ca) {k : Nat} (L : LvW P w K mg base ca k) : Cal P w K mg base ca (3 * k + 4) "_law_two" 3 (run (k + 1) 47) := by
  obtain ⟨f, fd, h1, h2, F⟩ := T.f47
  exact ⟨f, fd, ["_law_bag_here", "_law_levels", "_law_answers"], h1, h2, F.binds (ps := ["_law_bag_here", "_law_levels", "_law_answers"]) fun _ _ _ _ _ _ us hl => match us, hl with | [_, _, _], _ => rfl, dv47 T L F⟩
theorem z47 (T : Ft K mg ca) : Cal P w K mg base ca 1 "_law_two" 3 (run 0 47) := by
  obtain ⟨f, fd, h1, h2, F⟩ := T.f47
  exact ⟨f, fd, ["_law_bag_here", "_law_levels", "_law_answers"], h1, h2, F.binds (ps := ["_law_bag_here", "_law_levels", "_law_answers"]) fun _ _ _ _ _ _ us hl => match us, hl with | [_, _, _], _ => rfl, F.okX sc47 (fun vs H Q E h => (spF_no h).elim) fun cdv A outer s H vs Q E hr h => (spF_no h).elim⟩
theorem sc48 : FnScope ["_law_told", "_law_due"] ["_law_told", "_law_due"] (defScope (top 66)) := ⟨rfl, rfl, rfl, by decide +kernel, rfl, by decide +kernel, by decide +kernel⟩
theorem dv48 (T : Ft K mg ca) {k : Nat} (L : LvW P w K mg base ca k) {f : Addr} {fd : FuncData} (F : Fun K "_law_flag" "_law_flag" (top 66) f fd) : FnOk P w K mg base (L2.CX P w) (3 * k + 4) f fd ["_law_told", "_law_due"] (spF K ca 2 (run (k + 1) 48)) := by
  rw [run48]
  refine fn_d (k := 3 * k + 3) (N := ["_law_told", "_law_due"]) F sc48 rfl fun cdv A outer s H E hrL => ?_
  have hrM := hrL.mono (show 3 * k + 2 ≤ 3 * k + 3 by omega)
  have hr : Room (3 * k + 1) (A.deeper (envOfC "_law_flag" (defScope (top 66)) s.heap.objs.size f cdv)) := hrL.mono (by omega)
  have hu := hr.units
  have nd := sc48.nd
  have tk : Takes (cxOf (L2.CX P w) P w K mg base ["_law_told", "_law_due"] "_law_flag" (defScope (top 66)) f cdv A outer s H E) (fun cls d _ H => E cls d H) := takes_of rfl rfl rfl rfl
  exact (dss_one (ds_ret (de_and (de_isi bb_bool T.m_isinstance T.m_bool (de_var 0)) (de_one (de_cmp (cm_eq hu) q_eq (de_var 0) (de_var 1) (nomark _))))))
theorem ok48 (T : Ft K mg ca) {k : Nat} (L : LvW P w K mg base ca k) : Cal P w K mg base ca (3 * k + 4) "_law_flag" 2 (run (k + 1) 48) := by
  obtain ⟨f, fd, h1, h2, F⟩ := T.f48
  exact ⟨f, fd, ["_law_told", "_law_due"], h1, h2, F.binds (ps := ["_law_told", "_law_due"]) fun _ _ _ _ _ _ us hl => match us, hl with | [_, _], _ => rfl, dv48 T L F⟩
theorem z48 (T : Ft K mg ca) : Cal P w K mg base ca 1 "_law_flag" 2 (run 0 48) := by
  obtain ⟨f, fd, h1, h2, F⟩ := T.f48
  exact ⟨f, fd, ["_law_told", "_law_due"], h1, h2, F.binds (ps := ["_law_told", "_law_due"]) fun _ _ _ _ _ _ us hl => match us, hl with | [_, _], _ => rfl, F.okX sc48 (fun vs H Q E h => (spF_no h).elim) fun cdv A outer s H vs Q E hr h => (spF_no h).elim⟩
theorem sc49 : FnScope ["_law_call", "_law_word_here"] ["_law_call"] (defScope (top 67)) := ⟨rfl, rfl, rfl, by decide +kernel, rfl, by decide +kernel, by decide +kernel⟩
theorem thi49 (f c : Addr) (q : Str) (vs : List V) (ds : List D) (th : M D) (S : Store) : bodyD 2 (TS_l_word (mThk f c q vs ds th)) [.thk f c q vs ds] S = TB_l_word th S := by
  unfold TB_l_word TS_l_word
  have e : ∀ o : List (Option D), mThk f c q vs ds th (some (.thk f c q vs ds) :: o) = th := fun o => mThk_at rfl
  simp only [bodyD, startD, sSeq, sAsg, sTry, sExpr, sRet, sBnd, mC, mVar, M.ret, List.map_cons, List.map_nil, List.length_cons, List.length_nil, List.cons_append, List.nil_append, List.set_cons_zero, List.set_cons_succ, Nat.reduceSub, List.replicate, sTg, gNm, Nat.reduceAdd, Nat.reduceLT, if_true, List.getElem?_cons_zero, List.getElem?_cons_succ, mTup, lCons, lNil, M.bind]
  try simp only [e]
  cases th S with
  | none => rfl
  | some r =>
    obtain ⟨r, S1⟩ := r
    cases r with
    | ok d => rfl
    | exc c fs =>
      simp only [hdGo]
      cases tbm_NotAlike c with
      | none => rfl
      | some b =>
        cases b with
        | true => rfl
        | false =>
          cases tbm_HouseError c with
          | none => rfl
          | some b =>
            cases b with
            | true => rfl
            | false =>
              rfl
theorem ok49 (T : Ft K mg ca) {k : Nat} (L : LvW P w K mg base ca k) : Thd P w K mg base ca (3 * (k + 1) + 2) "_law_word" TB_l_word := by
  obtain ⟨f, fd, h1, h2, F⟩ := T.f49
  refine ⟨f, fd, _, ["_law_call", "_law_word_here"], "_law_call", TS_l_word, h1, F, sc49, F.binds (ps := ["_law_call"]) fun _ _ _ _ _ _ us hl => match us, hl with | [_], _ => rfl, rfl, (by first | exact Or.inl rfl | exact Or.inr (Or.inl rfl) | exact Or.inr (Or.inr rfl)), by decide, by decide, fun cdv A outer s H E cl hrL hcl => ?_, thi49⟩
  have hrM := hrL.mono (show 3 * k + 2 ≤ 3 * (k + 1) + 2 by omega)
  have hr := hrL.mono (show 3 * k + 1 ≤ 3 * (k + 1) + 2 by omega)
  have hu := hr.units
  have nd := sc49.nd
  have tk : Takes (cxOf (L2.CX P w) P w K mg base ["_law_call", "_law_word_here"] "_law_word" (defScope (top 67)) f cdv A outer s H E) (fun cls d _ H => E cls d H) := takes_of rfl rfl rfl rfl
  exact (dss_cons (ds_set 1 nd de_str)
  (dss_cons (ds_try rfl rfl nd tk (fun W pn xe tk => (dss_one (ds_expr (hcl _ _ _ _ _ tk)))) (.cons (nm := none) (z := ⟨tbm_NotAlike, none, fun c fs => (sAsg (mC (.str "alike")) (gNm 1))⟩) ⟨rfl, by decide, .inl T.x_NotAlike.g⟩ trivial T.xm_NotAlike (fun a oe c fs d pn hz hv ht => DX.of (dss_one (ds_set 1 nd de_str))) (.cons (nm := none) (z := ⟨tbm_HouseError, none, fun c fs => (sAsg (mC (.str "other")) (gNm 1))⟩) ⟨rfl, by decide, .inl T.x_HouseError.g⟩ trivial T.xm_HouseError (fun a oe c fs d pn hz hv ht => DX.of (dss_one (ds_set 1 nd de_str))) .nil)))
  (dss_one (ds_ret (de_var 1)))))
theorem z49 (T : Ft K mg ca) : Thd P w K mg base ca (3 * 0 + 2) "_law_word" TB_l_word := by
  obtain ⟨f, fd, h1, h2, F⟩ := T.f49
  refine ⟨f, fd, _, ["_law_call", "_law_word_here"], "_law_call", TS_l_word, h1, F, sc49, F.binds (ps := ["_law_call"]) fun _ _ _ _ _ _ us hl => match us, hl with | [_], _ => rfl, rfl, (by first | exact Or.inl rfl | exact Or.inr (Or.inl rfl) | exact Or.inr (Or.inr rfl)), by decide, by decide, fun cdv A outer s H E cl hr hcl => ?_, thi49⟩
  have hu := hr.units
  have nd := sc49.nd
  have tk : Takes (cxOf (L2.CX P w) P w K mg base ["_law_call", "_law_word_here"] "_law_word" (defScope (top 67)) f cdv A outer s H E) (fun cls d _ H => E cls d H) := takes_of rfl rfl rfl rfl
  exact (dss_cons (ds_set 1 nd de_str)
  (dss_cons (ds_try rfl rfl nd tk (fun W pn xe tk => (dss_one (ds_expr (hcl _ _ _ _ _ tk)))) (.cons (nm := none) (z := ⟨tbm_NotAlike, none, fun c fs => (sAsg (mC (.str "alike")) (gNm 1))⟩) ⟨rfl, by decide, .inl T.x_NotAlike.g⟩ trivial T.xm_NotAlike (fun a oe c fs d pn hz hv ht => DX.of (dss_one (ds_set 1 nd de_str))) (.cons (nm := none) (z := ⟨tbm_HouseError, none, fun c fs => (sAsg (mC (.str "other")) (gNm 1))⟩) ⟨rfl, by decide, .inl T.x_HouseError.g⟩ trivial T.xm_HouseError (fun a oe c fs d pn hz hv ht => DX.of (dss_one (ds_set 1 nd de_str))) .nil)))
  (dss_one (ds_ret (de_var 1)))))
theorem sc50 : FnScope ["_law_bag_here", "_law_here", "_law_goal", "_law_plan", "_law_at"] ["_law_bag_here", "_law_here", "_law_goal", "_law_plan"] (defScope (top 68)) := ⟨rfl, rfl, rfl, by decide +kernel, rfl, by decide +kernel, by decide +kernel⟩
theorem dv50 (T : Ft K mg ca) {k : Nat} (L : LvW P w K mg base ca k) {f : Addr} {fd : FuncData} (F : Fun K "_law_edge" "_law_edge" (top 68) f fd) : FnOk P w K mg base (L2.CX P w) (3 * k + 4) f fd ["_law_bag_here", "_law_here", "_law_goal", "_law_plan"] (spF K ca 4 (run (k + 1) 50)) := by
  rw [run50]
  refine fn_d (k := 3 * k + 3) (N := ["_law_bag_here", "_law_here", "_law_goal", "_law_plan", "_law_at"]) F sc50 rfl fun cdv A outer s H E hrL => ?_
  have hrM := hrL.mono (show 3 * k + 2 ≤ 3 * k + 3 by omega)
  have hr : Room (3 * k + 1) (A.deeper (envOfC "_law_edge" (defScope (top 68)) s.heap.objs.size f cdv)) := hrL.mono (by omega)
  have hu := hr.units
  have nd := sc50.nd
  have tk : Takes (cxOf (L2.CX P w) P w K mg base ["_law_bag_here", "_law_here", "_law_goal", "_law_plan", "_law_at"] "_law_edge" (defScope (top 68)) f cdv A outer s H E) (fun cls d _ H => E cls d H) := takes_of rfl rfl rfl rfl
  exact (dss_cons (ds_if (dt_cmp (cm_eq hu) q_eq (de_bi bb_len call_len q_len T.m_len (da_cons (de_var 3) da_nil)) de_int (nomark _)) (dss_one (ds_ret (de_call L.h28 hr tk (da_cons (de_var 0) (da_cons (de_lst (da_cons (de_tup da_nil) (da_cons (de_tup (da_cons (de_tup (da_cons de_str (da_cons de_int (da_cons (de_tup da_nil) da_nil)))) da_nil)) (da_cons (de_lst da_nil) (da_cons de_non da_nil))))) da_nil))))) dss_nil)
  (dss_cons (ds_if (dt_cmp (cm_eq hu) q_eq (de_call L.h27 hr tk (da_cons (de_var 0) (da_cons de_int da_nil))) de_int (nomark _)) (dss_one (ds_ret (de_call L.h28 hr tk (da_cons (de_var 0) (da_cons (de_lst (da_cons (de_sl (de_var 3) dp_no (dp_some (de_neg de_int))) (da_cons (de_add (de_var 3) (de_sl (de_var 3) (dp_some (de_neg de_int)) dp_no)) (da_cons (de_ty bb_list call_list_of q_list T.m_list (da_cons (de_var 3) da_nil)) da_nil)))) da_nil))))) dss_nil)
  (dss_cons (ds_set 4 nd (de_call L.h27 hr tk (da_cons (de_var 0) (da_cons (de_bi bb_len call_len q_len T.m_len (da_cons (de_var 3) da_nil)) da_nil))))
  (dss_one (ds_ret (de_add (de_add (de_sl (de_var 3) dp_no (dp_some (de_var 4))) (de_tup (da_cons (de_call L.h51 hr tk (da_cons (de_var 0) (da_cons (de_var 1) (da_cons (de_idx (de_var 2) (de_var 4)) (da_cons (de_idx (de_var 3) (de_var 4)) da_nil))))) da_nil))) (de_sl (de_var 3) (dp_some (de_add (de_var 4) de_int)) dp_no)))))))
theorem ok50 (T : Ft K mg ca) {k : Nat} (L : LvW P w K mg base ca k) : Cal P w K mg base ca (3 * k + 4) "_law_edge" 4 (run (k + 1) 50) := by
  obtain ⟨f, fd, h1, h2, F⟩ := T.f50
  exact ⟨f, fd, ["_law_bag_here", "_law_here", "_law_goal", "_law_plan"], h1, h2, F.binds (ps := ["_law_bag_here", "_law_here", "_law_goal", "_law_plan"]) fun _ _ _ _ _ _ us hl => match us, hl with | [_, _, _, _], _ => rfl, dv50 T L F⟩
theorem z50 (T : Ft K mg ca) : Cal P w K mg base ca 1 "_law_edge" 4 (run 0 50) := by
  obtain ⟨f, fd, h1, h2, F⟩ := T.f50
  exact ⟨f, fd, ["_law_bag_here", "_law_here", "_law_goal", "_law_plan"], h1, h2, F.binds (ps := ["_law_bag_here", "_law_here", "_law_goal", "_law_plan"]) fun _ _ _ _ _ _ us hl => match us, hl with | [_, _, _, _], _ => rfl, F.okX sc50 (fun vs H Q E h => (spF_no h).elim) fun cdv A outer s H vs Q E hr h => (spF_no h).elim⟩
theorem sc51 : FnScope ["_law_bag_here", "_law_here", "_law_question_here", "_law_move_here", "_law_word_here", "_law_number", "_law_later", "_law_behind", "_law_some_here", "_law_answers", "_law_at", "_law_inner"] ["_law_bag_here", "_law_here", "_law_question_here", "_law_move_here"] (defScope (top 69)) := ⟨rfl, rfl, rfl, by decide +kernel, rfl, by decide +kernel, by decide +kernel⟩
theorem dv51 (T : Ft K mg ca) {k : Nat} (L : LvW P w K mg base ca k) {f : Addr} {fd : FuncData} (F : Fun K "_law_move_edge" "_law_move_edge" (top 69) f fd) : FnOk P w K mg base (L2.CX P w) (3 * k + 4) f fd ["_law_bag_here", "_law_here", "_law_question_here", "_law_move_here"] (spF K ca 4 (run (k + 1) 51)) := by
  rw [run51]
  refine fn_d (k := 3 * k + 3) (N := ["_law_bag_here", "_law_here", "_law_question_here", "_law_move_here", "_law_word_here", "_law_number", "_law_later", "_law_behind", "_law_some_here", "_law_answers", "_law_at", "_law_inner"]) F sc51 rfl fun cdv A outer s H E hrL => ?_
  have hrM := hrL.mono (show 3 * k + 2 ≤ 3 * k + 3 by omega)
  have hr : Room (3 * k + 1) (A.deeper (envOfC "_law_move_edge" (defScope (top 69)) s.heap.objs.size f cdv)) := hrL.mono (by omega)
  have hu := hr.units
  have nd := sc51.nd
  have tk : Takes (cxOf (L2.CX P w) P w K mg base ["_law_bag_here", "_law_here", "_law_question_here", "_law_move_here", "_law_word_here", "_law_number", "_law_later", "_law_behind", "_law_some_here", "_law_answers", "_law_at", "_law_inner"] "_law_move_edge" (defScope (top 69)) f cdv A outer s H E) (fun cls d _ H => E cls d H) := takes_of rfl rfl rfl rfl
  exact (dss_cons (ds_asg (de_var 3) (dg_tup rfl (dgs_cons (dgn 4 nd) (dgs_cons (dgn 5 nd) (dgs_cons (dgn 6 nd) dgs_nil)))))
  (dss_cons (ds_if (dt_cmp (cm_eq hu) q_eq (de_var 4) de_str (nomark _)) (dss_cons (ds_set 7 nd (de_idx (de_idx (de_var 2) (de_var 5)) de_int))
  (dss_cons (ds_if (dt_w (dw_and (dt_cmp op_gt (q_ord fun i j => decide (j < i)) (de_bi bb_len call_len q_len T.m_len (da_cons (de_var 7) da_nil)) de_int (nomark _)) (dw_and1 (dt_cmp (cm_eq hu) q_eq (de_call L.h27 hr tk (da_cons (de_var 0) (da_cons de_int da_nil))) de_int (nomark _))))) (dss_one (ds_ret (de_tup (da_cons de_str (da_cons (de_var 5) (da_cons (de_call L.h50 hr tk (da_cons (de_var 0) (da_cons (de_var 1) (da_cons (de_var 7) (da_cons (de_var 6) da_nil))))) da_nil)))))) dss_nil)
  (dss_cons (ds_set 8 nd (de_lst (da_cons (de_tup (da_cons de_str (da_cons (de_bi bb_len call_len q_len T.m_len (da_cons (de_var 2) da_nil)) (da_cons (de_var 6) da_nil)))) (da_cons (de_tup (da_cons de_str (da_cons (de_neg de_int) (da_cons (de_var 6) da_nil)))) (da_cons (de_tup (da_cons de_str (da_cons (de_var 5) da_nil))) (da_cons (de_tup (da_cons de_str (da_cons (de_var 5) (da_cons (de_var 6) (da_cons (de_tup da_nil) da_nil))))) da_nil))))))
  (dss_cons (ds_set 8 nd (de_add (de_var 8) (de_lst (da_cons (de_tup (da_cons de_str (da_cons (de_sub (de_bi bb_len call_len q_len T.m_len (da_cons (de_var 2) da_nil)) de_int) (da_cons (de_var 6) da_nil)))) (da_cons (de_lst (da_cons de_str (da_cons (de_var 5) (da_cons (de_var 6) da_nil)))) (da_cons (de_tup (da_cons de_str (da_cons de_bl (da_cons (de_var 6) da_nil)))) da_nil))))))
  (dss_one (ds_ret (de_call L.h28 hr tk (da_cons (de_var 0) (da_cons (de_add (de_var 8) (de_lst (da_cons (de_tup (da_cons de_str (da_cons (de_var 5) (da_cons (de_add (de_var 6) (de_tup (da_cons (de_tup (da_cons de_str (da_cons de_int (da_cons (de_tup da_nil) da_nil)))) da_nil))) da_nil)))) da_nil))) da_nil))))))))) dss_nil)
  (dss_cons (ds_set 9 nd (de_idx (de_var 1) (de_var 5)))
  (dss_cons (ds_if (dt_cmp (cm_eq hu) q_eq (de_call L.h27 hr tk (da_cons (de_var 0) (da_cons de_int da_nil))) de_int (nomark _)) (dss_cons (ds_set 10 nd (de_call L.h27 hr tk (da_cons (de_var 0) (da_cons (de_bi bb_len call_len q_len T.m_len (da_cons (de_var 6) da_nil)) da_nil))))
  (dss_cons (ds_set 11 nd (de_call L.h51 hr tk (da_cons (de_var 0) (da_cons (de_idx (de_idx (de_var 9) (de_var 10)) de_int) (da_cons (de_var 2) (da_cons (de_idx (de_var 6) (de_var 10)) da_nil))))))
  (dss_one (ds_ret (de_tup (da_cons de_str (da_cons (de_var 5) (da_cons (de_add (de_add (de_sl (de_var 6) dp_no (dp_some (de_var 10))) (de_tup (da_cons (de_var 11) da_nil))) (de_sl (de_var 6) (dp_some (de_add (de_var 10) de_int)) dp_no)) da_nil)))))))) dss_nil)
  (dss_cons (ds_set 8 nd (de_lst (da_cons (de_tup (da_cons de_str (da_cons (de_bi bb_len call_len q_len T.m_len (da_cons (de_var 1) da_nil)) (da_cons (de_var 6) da_nil)))) (da_cons (de_tup (da_cons de_str (da_cons (de_neg de_int) (da_cons (de_var 6) da_nil)))) (da_cons (de_tup (da_cons de_str (da_cons (de_var 5) (da_cons (de_sl (de_var 6) dp_no (dp_some (de_neg de_int))) da_nil)))) (da_cons (de_tup (da_cons de_str (da_cons (de_var 5) (da_cons (de_add (de_var 6) (de_sl (de_var 6) (dp_some (de_neg de_int)) dp_no)) da_nil)))) da_nil))))))
  (dss_one (ds_ret (de_call L.h28 hr tk (da_cons (de_var 0) (da_cons (de_add (de_var 8) (de_lst (da_cons (de_tup (da_cons de_str (da_cons (de_var 5) (da_cons (de_ty bb_list call_list_of q_list T.m_list (da_cons (de_var 6) da_nil)) da_nil)))) (da_cons (de_tup (da_cons de_str (da_cons de_bl (da_cons (de_var 6) da_nil)))) (da_cons (de_tup (da_cons de_str (da_cons (de_var 5) (da_cons (de_var 6) da_nil)))) (da_cons (de_tup (da_cons de_str (da_cons (de_var 5) da_nil))) da_nil)))))) da_nil))))))))))
theorem ok51 (T : Ft K mg ca) {k : Nat} (L : LvW P w K mg base ca k) : Cal P w K mg base ca (3 * k + 4) "_law_move_edge" 4 (run (k + 1) 51) := by
  obtain ⟨f, fd, h1, h2, F⟩ := T.f51
  exact ⟨f, fd, ["_law_bag_here", "_law_here", "_law_question_here", "_law_move_here"], h1, h2, F.binds (ps := ["_law_bag_here", "_law_here", "_law_question_here", "_law_move_here"]) fun _ _ _ _ _ _ us hl => match us, hl with | [_, _, _, _], _ => rfl, dv51 T L F⟩
theorem z51 (T : Ft K mg ca) : Cal P w K mg base ca 1 "_law_move_edge" 4 (run 0 51) := by
  obtain ⟨f, fd, h1, h2, F⟩ := T.f51
  exact ⟨f, fd, ["_law_bag_here", "_law_here", "_law_question_here", "_law_move_here"], h1, h2, F.binds (ps := ["_law_bag_here", "_law_here", "_law_question_here", "_law_move_here"]) fun _ _ _ _ _ _ us hl => match us, hl with | [_, _, _, _], _ => rfl, F.okX sc51 (fun vs H Q E h => (spF_no h).elim) fun cdv A outer s H vs Q E hr h => (spF_no h).elim⟩
theorem sc52 : FnScope ["_law_script", "_law_bag_here", "_law_worlds", "_law_one", "_law_other", "_law_house", "_law_second", "_law_turn", "_law_plan", "_law_more", "_law_thing"] ["_law_script"] (defScope (top 70)) := ⟨rfl, rfl, rfl, by decide +kernel, rfl, by decide +kernel, by decide +kernel⟩
theorem dv52 (T : Ft K mg ca) {cl Pl : Addr} (TB : LamX.TabB base mg cl Pl) (hT : ca.t.l = [(Pl, ("law" : Str) ++ (".<locals>." : Str) ++ ("<lambda>" : Str))]) {k : Nat} (L : LvW P w K mg base ca k) {f : Addr} {fd : FuncData} (F : Fun K "law" "law" (top 70) f fd) (hfc : fd.code = .ref cl) : FnG P w K mg base (3 * k + 4) f fd ["_law_script"] (spF K ca 1 (run (k + 1) 52)) := by
  rw [run52]
  refine fn_gC (k := 3 * k + 3) (N := ["_law_script", "_law_bag_here", "_law_worlds", "_law_one", "_law_other", "_law_house", "_law_second", "_law_turn", "_law_plan", "_law_more", "_law_thing"]) F sc52 rfl fun cdv A outer s H E hcd hgA hrL => ?_
  have hrM := hrL.mono (show 3 * k + 2 ≤ 3 * k + 3 by omega)
  have hr : Room (3 * k + 1) (A.deeper (envOfC "law" (defScope (top 70)) s.heap.objs.size f cdv)) := hrL.mono (by omega)
  have hu := hr.units
  have nd := sc52.nd
  have tk : Takes (cxOf (L2.CX P w) P w K mg base ["_law_script", "_law_bag_here", "_law_worlds", "_law_one", "_law_other", "_law_house", "_law_second", "_law_turn", "_law_plan", "_law_more", "_law_thing"] "law" (defScope (top 70)) f cdv A outer s H E) (fun cls d _ H => E cls d H) := takes_of rfl rfl rfl rfl
  have hgd : (cxOf (L2.CX P w) P w K mg base ["_law_script", "_law_bag_here", "_law_worlds", "_law_one", "_law_other", "_law_house", "_law_second", "_law_turn", "_law_plan", "_law_more", "_law_thing"] "law" (defScope (top 70)) f cdv A outer s H E).A.guards = some [] := hgA
  have TF : TabF (cxOf (L2.CX P w) P w K mg base ["_law_script", "_law_bag_here", "_law_worlds", "_law_one", "_law_other", "_law_house", "_law_second", "_law_turn", "_law_plan", "_law_more", "_law_thing"] "law" (defScope (top 70)) f cdv A outer s H E) ca cl Pl := ⟨TB, hcd.symm.trans hfc, hT⟩
  exact (dss_cons (ds_set 1 nd (de_call L.h26 hr tk (da_cons (de_var 0) da_nil)))
  (dss_cons (ds_asg (de_call L.h47 hr tk (da_cons (de_var 1) (da_cons (de_add de_int (de_call L.h27 hr tk (da_cons (de_var 1) (da_cons de_int da_nil)))) (da_cons de_int da_nil)))) (dg_tup rfl (dgs_cons (dgn 2 nd) (dgs_cons (dgn 3 nd) (dgs_cons (dgn 4 nd) dgs_nil)))))
  (dss_cons (ds_asg (de_tup (da_cons (de_make (E := E) L.h18 hrM (fun _ _ _ _ e s' I c => tk e s' (XE.of_call I (fun _ _ _ h => h) c)) (fun _ _ _ _ h => h) (da_cons (de_var 2) (da_cons (de_var 3) da_nil))) (da_cons (de_make (E := E) L.h18 hrM (fun _ _ _ _ e s' I c => tk e s' (XE.of_call I (fun _ _ _ h => h) c)) (fun _ _ _ _ h => h) (da_cons (de_var 2) (da_cons (de_var 4) da_nil))) da_nil))) (dg_tup rfl (dgs_cons (dgn 5 nd) (dgs_cons (dgn 6 nd) dgs_nil))))
  (dss_cons (ds_for (passes_of rfl) rfl (di_rg1 T.m_range de_int) (dgn 7 nd) (dss_cons (ds_set 8 nd (de_call L.h41 hr tk (da_cons (de_var 1) (da_cons (de_var 3) (da_cons (de_var 4) (da_cons (de_new (da_cons de_int da_nil)) da_nil))))))
  (dss_cons (ds_if (dt_cmp op_isnotA (q_is true) (de_call L.h23 hr tk (da_cons (de_var 5) (da_cons (de_var 6) (da_cons (de_var 8) da_nil)))) de_bl (nomark _)) (dss_one (ds_ret de_bl)) dss_nil)
  (dss_cons (ds_for (passes_of rfl) rfl (di_rg1 T.m_range de_int) (dgn 9 nd) (dss_cons (ds_set 10 nd (de_call L.h50 hr tk (da_cons (de_var 1) (da_cons (de_var 3) (da_cons (de_var 4) (da_cons (de_var 8) da_nil))))))
  (dss_one (ds_if (dt_not (dt_val (de_call L.h48 hr tk (da_cons (de_call L.h23 hr tk (da_cons (de_var 5) (da_cons (de_var 6) (da_cons (de_var 10) da_nil)))) (da_cons (de_call L.h44 hr tk (da_cons (de_var 3) (da_cons (de_var 4) (da_cons (de_var 10) da_nil)))) da_nil))))) (dss_one (ds_ret de_bl)) dss_nil))))
  (dss_cons (ds_set 10 nd (de_ite (dt_cmp (cm_lt hu) q_lt (de_var 7) de_int (nomark _)) (de_call L.h40 hr tk (da_cons (de_var 1) (da_cons (de_var 8) da_nil))) (de_call L.h37 hr tk (da_cons (de_var 1) da_nil))))
  (dss_one (ds_if (dt_not (dt_val (de_call L.h48 hr tk (da_cons (de_call L.h23 hr tk (da_cons (de_var 5) (da_cons (de_var 6) (da_cons (de_var 10) da_nil)))) (da_cons (de_call L.h44 hr tk (da_cons (de_var 3) (da_cons (de_var 4) (da_cons (de_var 10) da_nil)))) da_nil))))) (dss_one (ds_ret de_bl)) dss_nil)))))))
  (dss_cons (ds_if (dt_cmp op_isnotA (q_is true) (de_call L.h23 hr tk (da_cons (de_var 5) (da_cons (de_var 5) (da_cons (de_idx (de_idx (de_call L.h25 hr tk (da_cons (de_var 5) da_nil)) de_int) de_int) da_nil)))) de_bl (nomark _)) (dss_one (ds_ret de_bl)) dss_nil)
  (dss_cons (ds_if (dt_not (dt_val (de_call L.h48 hr tk (da_cons (de_call L.h23 hr tk (da_cons (de_var 6) (da_cons (de_var 6) (da_cons (de_var 8) da_nil)))) (da_cons (de_call L.h44 hr tk (da_cons (de_var 4) (da_cons (de_var 4) (da_cons (de_var 8) da_nil)))) da_nil))))) (dss_one (ds_ret de_bl)) dss_nil)
  (dss_cons (ds_set 9 nd (de_make (E := E) L.h18 hrM (fun _ _ _ _ e s' I c => tk e s' (XE.of_call I (fun _ _ _ h => h) c)) (fun _ _ _ _ h => h) (da_cons (de_add (de_var 2) de_int) (da_cons (de_call L.h46 hr tk (da_cons (de_var 1) (da_cons (de_add (de_var 2) de_int) (da_cons (de_var 3) (da_cons (de_mul (de_tup (da_cons (de_tup (da_cons de_int (da_cons de_int da_nil))) da_nil)) (de_add (de_var 2) de_int)) da_nil))))) da_nil))))
  (dss_cons (ds_if (dt_cmp (cm_ne hu) q_ne (de_lam (k := 3 * k + 1) L.h49 TF hrL tk (LamX.lamS_by (by dsimp only [cxOf, envOfC, PySem.W.envX]; first | decide +kernel | kernel_rfl)) (fun _ _ _ _ _ _ _ hr => lam_body hr fun hr hu tk => (de_call L.h23 hr tk (da_cons (de_var 5) (da_cons (de_var 9) (da_cons (de_var 8) da_nil)))))) de_str (nomark _)) (dss_one (ds_ret de_bl)) dss_nil)
  (dss_one (ds_ret (de_cmp (cm_eq hu) q_eq (de_lam (k := 3 * k + 1) L.h49 TF hrL tk (LamX.lamS_by (by dsimp only [cxOf, envOfC, PySem.W.envX]; first | decide +kernel | kernel_rfl)) (fun _ _ _ _ _ _ _ hr => lam_body hr fun hr hu tk => (de_call L.h23 hr tk (da_cons (de_var 9) (da_cons (de_var 5) (da_cons de_non da_nil)))))) de_str (nomark _))))))))))))
theorem lv (T : Ft K mg ca) : ∀ k, LvW P w K mg base ca k
  | 0 => ⟨z0 T, z1 T, z2 T, z3 T, z4 T, z5 T, z6 T, z7 T, z8 T, z9 T, z10 T, z11 T, z12 T, z13 T, z14 T, z15 T, z16 T, z17 T, z18 T, z19 T, z20 T, z21 T, z22 T, z23 T, z24 T, z25 T, z26 T, z27 T, z28 T, z29 T, z30 T, z31 T, z32 T, z33 T, z34 T, z35 T, z36 T, z37 T, z38 T, z39 T, z40 T, z41 T, z42 T, z43 T, z44 T, z45 T, z46 T, z47 T, z48 T, z49 T, z50 T, z51 T⟩
  | k + 1 => ⟨ok0 T (lv T k), ok1 T (lv T k), ok2 T (lv T k), ok3 T (lv T k), ok4 T (lv T k), ok5 T (lv T k), ok6 T (lv T k), ok7 T (lv T k), ok8 T (lv T k), ok9 T (lv T k), ok10 T (lv T k), ok11 T (lv T k), ok12 T (lv T k), ok13 T (lv T k), ok14 T (lv T k), ok15 T (lv T k), ok16 T (lv T k), ok17 T (lv T k), ok18 T (lv T k), ok19 T (lv T k), ok20 T (lv T k), ok21 T (lv T k), ok22 T (lv T k), ok23 T (lv T k), ok24 T (lv T k), ok25 T (lv T k), ok26 T (lv T k), ok27 T (lv T k), ok28 T (lv T k), ok29 T (lv T k), ok30 T (lv T k), ok31 T (lv T k), ok32 T (lv T k), ok33 T (lv T k), ok34 T (lv T k), ok35 T (lv T k), ok36 T (lv T k), ok37 T (lv T k), ok38 T (lv T k), ok39 T (lv T k), ok40 T (lv T k), ok41 T (lv T k), ok42 T (lv T k), ok43 T (lv T k), ok44 T (lv T k), ok45 T (lv T k), ok46 T (lv T k), ok47 T (lv T k), ok48 T (lv T k), ok49 T (lv T k), ok50 T (lv T k), ok51 T (lv T k)⟩
end Lw
set_option Elab.async false
set_option linter.all false
set_option maxRecDepth 100000
set_option maxHeartbeats 40000000
set_option autoImplicit false
namespace Lw
open PySem L2 Tl PySem.Spec PyProof.Rows
def clsOf (K : PySem.W.Frag) (c : Str) : Addr := match PySem.W.nsIn K mainGlobals c with
  | some (some (.ref a)) => a
  | _ => 0
theorem clsOf_eq {K : PySem.W.Frag} {c : Str} {C : Addr} (a : PySem.W.nsIn K mainGlobals c = some (some (.ref C))) : clsOf K c = C := by
  unfold clsOf; rw [a]
def caF (K : PySem.W.Frag) (i : Nat) : Addr := clsOf K ((["House", "House", "HouseError", "NotAlike"] : List Str).getD i "")
def tabOf (K : PySem.W.Frag) : Addr × Addr := (PySem.W.tabIn K "law").getD (0, 0)
theorem tab_is {K : PySem.W.Frag} (h : (PySem.W.tabIn K "law").isSome = true) : PySem.W.tabIn K "law" = some ((tabOf K).1, (tabOf K).2) := by
  unfold tabOf
  cases e : PySem.W.tabIn K "law" with
  | none => rw [e] at h; cases h
  | some p => rfl
def caOf (K : PySem.W.Frag) (P : Program) (w : World) : CA := ⟨caF K, P, w, ⟨[((tabOf K).2, ("law" : Str) ++ (".<locals>." : Str) ++ ("<lambda>" : Str))], []⟩⟩
variable {P : Program} {w : World}
theorem mkF {K : PySem.W.Frag} {h : Heap} {mg : Str → Option Value} {x : Str} {st : Stmt} {f : Addr} {od an : Option Addr} {sl : Array (Option Value)} {oc kV dc pm cd ct : Value} (X : K.In h) (G : h.Ns mainGlobals mg)
    (a : PySem.W.nsIn K mainGlobals x = some (some (.ref f))) (l : K.lookup f = some ⟨oc, od, .func (PySem.W.fnOf x x (defArgs st) (defBody st) (defScope st) .none kV dc pm an cd ct), sl⟩) (c : PySem.W.codeIn K cd x = true) (k : PySem.W.keepIn K (.ref f) = true) : FF K mg x st :=
  ⟨f, _, PySem.W.mg_of X G a, k, fun_mk (st := st) l c k⟩
theorem mkC {K : PySem.W.Frag} {h : Heap} {mg : Str → Option Value} {c q : Str} {st : Stmt} {f C : Addr} {od an : Option Addr} {sl : Array (Option Value)} {oc kV dc pm cd ct : Value} (X : K.In h) (G : h.Ns mainGlobals mg)
    (aC : PySem.W.nsIn K mainGlobals c = some (some (.ref C))) (a : PySem.W.findIn K (.ref C) "__init__" = some (some (.ref f))) (i : PySem.W.isFn K (.ref f) = true) (l : K.lookup f = some ⟨oc, od, .func (PySem.W.fnOf "__init__" q (defArgs st) (defBody st) (defScope st) .none kV dc pm an cd ct), sl⟩) (cc : PySem.W.codeIn K cd q = true) (k : PySem.W.keepIn K (.ref f) = true)
    (mk : PySem.W.makesIn K C = true) (kc : PySem.W.keepIn K (.ref C) = true) : FI K mg (clsOf K c) c "__init__" q st := by
  rw [clsOf_eq aC]
  exact ⟨f, _, ⟨mk, a, i, kc⟩, PySem.W.mg_of X G aC, fun_mk (st := st) l cc k⟩
theorem mkA {K : PySem.W.Frag} {h : Heap} {C : Addr} {c : Str} (X : K.In h) (a : PySem.W.nsIn K mainGlobals c = some (some (.ref C))) : PySem.W.nsIn K mainGlobals c = some (some (.ref C)) := a
theorem mkCl {K : PySem.W.Frag} {h : Heap} {C : Addr} {c : Str} (X : K.In h) (a : PySem.W.nsIn K mainGlobals c = some (some (.ref C))) (pg : PySem.W.plainGet K C Str.empty = true) (hd : PySem.W.hasDictIn K C = true) (po : PySem.W.plainOver K C = true) (sa : PySem.W.findIn K (.ref C) "__setattr__" = some (some (.builtin "object.__setattr__"))) : Cls K (clsOf K c) := by
  rw [clsOf_eq a]; exact ⟨pg, hd, po, sa⟩
theorem mkClF {K : PySem.W.Frag} {h : Heap} {C : Addr} {c : Str} (X : K.In h) (a : PySem.W.nsIn K mainGlobals c = some (some (.ref C))) (pg : PySem.W.plainGet K C Str.empty = true) (hd : PySem.W.hasDictIn K C = true) (po : PySem.W.plainOver K C = true) (sa : PySem.W.findIn K (.ref C) "__setattr__" = some (some (.builtin "object.__setattr__")))
    (ha : PySem.W.findIn K (.ref C) "__class__" = some (some (.builtin "object.__class__"))) (hn : PySem.W.specialIn K (.builtin "object.__class__") "__get__" = some (some (.builtin "getset_descriptor.__get__"))) (htk : PySem.W.takesIn K (.builtin "object.__class__") = some true) (hm : PySem.W.mroIn K C (.type "object") = some true) : ClF K (clsOf K c) := by
  rw [clsOf_eq a]; exact ⟨⟨pg, hd, po, sa⟩, ha, hn, htk, hm⟩
theorem mkK {K : PySem.W.Frag} {h : Heap} {C D : Addr} {c d : Str} (b : Bool) (X : K.In h) (a : PySem.W.nsIn K mainGlobals c = some (some (.ref C))) (a2 : PySem.W.nsIn K mainGlobals d = some (some (.ref D))) (k : PySem.W.kitOne K (.ref C) (.ref D) = some b) : PySem.W.kitOne K (.ref (clsOf K c)) (.ref (clsOf K d)) = some b := by
  rw [clsOf_eq a, clsOf_eq a2]; exact k
theorem mkB {K : PySem.W.Frag} {h : Heap} {D : Addr} {d : Str} (X : K.In h) (a : PySem.W.nsIn K mainGlobals d = some (some (.ref D))) (k1 : PySem.W.kitOne K (.type "NoneType") (.ref D) = some false) (k2 : PySem.W.kitOne K (.type "bool") (.ref D) = some false) (k3 : PySem.W.kitOne K (.type "int") (.ref D) = some false) (k4 : PySem.W.kitOne K (.type "str") (.ref D) = some false)
    (k5 : PySem.W.kitOne K (.type "tuple") (.ref D) = some false) (k6 : PySem.W.kitOne K (.type "list") (.ref D) = some false) (k7 : PySem.W.kitOne K (.type "dict") (.ref D) = some false) : ∀ n ∈ ["NoneType", "bool", "int", "str", "tuple", "list", "dict"], PySem.W.kitOne K (.type n) (.ref (clsOf K d)) = some false := by
  rw [clsOf_eq a]
  intro n hn
  simp only [List.mem_cons, List.not_mem_nil, or_false] at hn
  rcases hn with rfl | rfl | rfl | rfl | rfl | rfl | rfl <;> assumption
theorem mkG {K : PySem.W.Frag} {h : Heap} {mg : Str → Option Value} {D : Addr} {d : Str} (X : K.In h) (G : h.Ns mainGlobals mg) (a : PySem.W.nsIn K mainGlobals d = some (some (.ref D))) : mg d = some (.ref (clsOf K d)) := by
  rw [clsOf_eq a]; exact PySem.W.mg_of X G a
theorem mkNN {K : PySem.W.Frag} {f : Str} (h0 : ClF K (caF K 0)) (n0 : NoAttr K (caF K 0) f) (h1 : ClF K (caF K 1)) (n1 : NoAttr K (caF K 1) f) : ∀ c, c < 2 → Cls K (caF K c) ∧ NoAttr K (caF K c) f := fun c hc => by
  rcases (show c = 0 ∨ c = 1 by omega) with rfl | rfl
  · exact ⟨h0.cl, n0⟩
  · exact ⟨h1.cl, n1⟩
theorem mkIC {K : PySem.W.Frag} {C : Addr} {tab : Nat → Bool} (h0 : ClF K (caF K 0)) (k0 : PySem.W.kitOne K (.ref (caF K 0)) (.ref C) = some (tab 0)) (h1 : ClF K (caF K 1)) (k1 : PySem.W.kitOne K (.ref (caF K 1)) (.ref C) = some (tab 1)) (b : ∀ n ∈ ["NoneType", "bool", "int", "str", "tuple", "list", "dict"], PySem.W.kitOne K (.type n) (.ref C) = some false) : IsC K (caOf K P w) 2 C tab := by
  refine ⟨fun c hc => ?_, b⟩
  rcases (show c = 0 ∨ c = 1 by omega) with rfl | rfl
  · exact ⟨h0, k0⟩
  · exact ⟨h1, k1⟩
theorem mkX {K : PySem.W.Frag} {h : Heap} {mg : Str → Option Value} {x : Str} {C : Addr} {B newId initId : String} {bmB : List Value} (X : K.In h) (G : h.Ns mainGlobals mg) (a : PySem.W.nsIn K mainGlobals x = some (some (.ref C))) (F : ExcBaseFacts B newId initId bmB) (q : PySem.W.excIn K C bmB newId = true)
    (k : PySem.W.keepIn K (.ref C) = true) (s : PySem.W.subIn K (.ref C) (.type "BaseException") = some true) (t : PySem.W.typeIn K (.ref C) = some (.type "type")) : ExK K mg x (clsOf K x) := by
  rw [clsOf_eq a]; exact ⟨⟨B, newId, initId, bmB, F, q⟩, PySem.W.mg_of X G a, k, s, t⟩
theorem mkXc {K : PySem.W.Frag} {h : Heap} {C : Addr} {x : Str} (X : K.In h) (a : PySem.W.nsIn K mainGlobals x = some (some (.ref C))) (h1 : PySem.W.findIn K (.ref C) "__getattribute__" = some (some (.builtin "BaseException.__getattribute__"))) (h2 : PySem.W.findIn K (.ref C) "__getattr__" = some none)
    (h3 : PySem.W.subIn K (.ref C) (.type "BaseException") = some true) (h4 : PySem.W.hasDictIn K C = true) (h5 : PySem.W.findIn K (.ref C) "__class__" = some (some (.builtin "object.__class__"))) (h6 : PySem.W.specialIn K (.builtin "object.__class__") "__get__" = some (some (.builtin "getset_descriptor.__get__")))
    (h7 : PySem.W.takesIn K (.builtin "object.__class__") = some true) (h8 : PySem.W.mroIn K C (.type "object") = some true) : ExcC K (clsOf K x) := by
  rw [clsOf_eq a]; exact ⟨h1, h2, h3, h4, h5, h6, h7, h8⟩
theorem mkXe {K : PySem.W.Frag} {h : Heap} {C D : Addr} {c d : Str} (b : Bool) (X : K.In h) (a : PySem.W.nsIn K mainGlobals c = some (some (.ref C))) (a2 : PySem.W.nsIn K mainGlobals d = some (some (.ref D))) (h1 : PySem.W.subIn K (.ref D) (.type "BaseException") = some true) (h2 : PySem.W.hasDictIn K D = true) (h3 : PySem.W.typeIn K (.ref D) = some (.type "type"))
    (h4 : PySem.W.subIn K (.ref C) (.ref D) = some b) : PySem.W.exmOne K (.ref (clsOf K c)) (.ref (clsOf K d)) = some b := by
  rw [clsOf_eq a, clsOf_eq a2]; exact PySem.W.exm_ref h1 h2 h3 h4
theorem mkXM_HouseError {K : PySem.W.Frag} (h2 : PySem.W.exmOne K (.ref (caF K 2)) (.ref (caF K 2)) = some true) (h3 : PySem.W.exmOne K (.ref (caF K 3)) (.ref (caF K 2)) = some true) : ∀ c b, tbm_HouseError c = some b → PySem.W.exmOne K (.ref (caF K c)) (.ref (caF K 2)) = some b := fun c b h => by
  obtain ⟨u1, u2⟩ := tbE_lt h
  rcases (show c = 2 ∨ c = 3 by omega) with rfl | rfl
  · cases (show some true = some b from h); exact h2
  · cases (show some true = some b from h); exact h3
theorem mkXM_NotAlike {K : PySem.W.Frag} (h2 : PySem.W.exmOne K (.ref (caF K 2)) (.ref (caF K 3)) = some false) (h3 : PySem.W.exmOne K (.ref (caF K 3)) (.ref (caF K 3)) = some true) : ∀ c b, tbm_NotAlike c = some b → PySem.W.exmOne K (.ref (caF K c)) (.ref (caF K 3)) = some b := fun c b h => by
  obtain ⟨u1, u2⟩ := tbE_lt h
  rcases (show c = 2 ∨ c = 3 by omega) with rfl | rfl
  · cases (show some false = some b from h); exact h2
  · cases (show some true = some b from h); exact h3
theorem mkN {K : PySem.W.Frag} {h : Heap} {C : Addr} {f c : Str} (X : K.In h) (a : PySem.W.nsIn K mainGlobals c = some (some (.ref C))) (n : PySem.W.findIn K (.ref C) f = some none) : NoAttr K (clsOf K c) f := by
  rw [clsOf_eq a]; exact n
theorem mkI {K : PySem.W.Frag} {h : Heap} {mg : Str → Option Value} {x : Str} {i : Int} {t : Tok} (X : K.In h) (G : h.Ns mainGlobals mg) (a : PySem.W.nsIn K mainGlobals x = some (some (.int i t))) : Con0 K mg x (.int i) :=
  ⟨_, .int i, PySem.W.mg_of X G a, ⟨t, rfl⟩, fun _ _ => VR.iInt⟩
theorem mkT2 {K : PySem.W.Frag} {h : Heap} {mg : Str → Option Value} {x : Str} {i j : Int} {t u : Tok} {a : Addr} {od : Option Addr} {n : Nat} {sl : Array (Option Value)} (X : K.In h) (G : h.Ns mainGlobals mg) (e : PySem.W.nsIn K mainGlobals x = some (some (.ref a)))
    (l : K.lookup a = some ⟨.type "tuple", od, .seq #[.int i t, .int j u] n, sl⟩) : Con0 K mg x (.tup [.int i, .int j]) :=
  ⟨_, .ref a, PySem.W.mg_of X G e, rfl, fun _ _ => VR.iTup (vs := [.int i, .int j]) (.inr ⟨_, _, _, l, rfl, rfl, (by show 2 ≤ sizeLine; decide), .cons (show RelV (.int i) (.int i t) from ⟨_, rfl⟩) (.cons (show RelV (.int j) (.int j u) from ⟨_, rfl⟩) .nil)⟩) (.iCons VR.iInt (.iCons VR.iInt .iNil))⟩
theorem fin_of {l : PySem.W.OpenLaw} {w : World} {K : PySem.W.Frag} {h : Heap} {mg : Str → Option Value} {fa : Addr} (KX : K.In h) (G : h.Ns mainGlobals mg) (ht : (PySem.W.tabIn K "law").isSome = true) (hfa : mg "law" = some (.ref fa)) (T : Ft K mg (caOf K l.prog w)) :
    ∃ fd : FuncData, (∀ (s : Shared) (v : Value), BindsTo s fd ⟨[v], []⟩ [("_law_script", v)]) ∧ ∀ base : Heap, K.In base → base.Ns mainGlobals mg → LamX.TabB base mg (tabOf K).1 (tabOf K).2 → FnG l.prog w K mg base 121 fa fd ["_law_script"] (spF K (caOf K l.prog w) 1 (run 40 52)) := by
  obtain ⟨f, fd, h1, h2, F⟩ := T.f52
  have e := hfa.symm.trans h1
  cases e
  obtain ⟨oc, od, kV, doc, pm, an, cdv, ct, osl, rfl, lk, hcd⟩ := F.ex
  refine ⟨_, fun s v => .of_eq rfl, fun base _ _ TB => dv52 T TB rfl (k := 39) (lv T 39) F ?_⟩
  exact PySem.W.law_code KX G (tab_is ht) hfa (KX _ _ lk) rfl
theorem walk {l : PySem.W.OpenLaw} {q : Program} {loose : List Str} {XP : (Str → Option Value) → Heap → Prop} {YP : World → Heap → Prop} {d : DefRec} {K : Params → PySem.W.Frag} (hn : l.most = some 63) (hdf : d.params.defaults = [])
    (hY : ∀ (w : World) (h : Heap), YP w h → (K w.params).In h ∧ (PySem.W.tabIn (K w.params) "law").isSome = true ∧ h.get? (tabOf (K w.params)).2 = some tab0 ∧ (K w.params).lookup (tabOf (K w.params)).2 = none ∧ PySem.W.codeHdIn (K w.params) (tabOf (K w.params)).1 (tabOf (K w.params)).2 = true) (hd : d.name = "law")
    (hI : ∀ w : World, (PySem.W.tabIn (K w.params) "law").isSome = true)
    (F : ∀ (w : World) (mg : Str → Option Value) (fa : Addr) (h : Heap), (K w.params).In h → h.Ns mainGlobals mg → mg d.name = some (.ref fa) → Ft (K w.params) mg (caOf (K w.params) l.prog w))
    (holds : ∀ ns : List Int, ns.length ≤ 63 → ∃ S', run 40 52 [.scr ns] [] = some (.ok (.bl true), S')) :
    PySem.W.WalkO q loose XP YP l.row.toRowW d [] (fun f vs => PySem.call f vs) :=
  walkT (n := 63) (k := 121) (x := "_law_script") (cT := fun p => tabOf (K p)) (sp := fun w => spF (K w.params) (caOf (K w.params) l.prog w) 1 (run 40 52)) hn (by decide) hdf ⟨rfl, by decide, by decide⟩
    (fun w h Y => by
      obtain ⟨y1, y2, y3, y4, y5⟩ := hY w h Y
      exact ⟨y1, y3, y4, PySem.W.codeHd_of_K y1 y5⟩)
    (fun w mg fa h KX G hmg => fin_of KX G (hI w) (by rw [← hd]; exact hmg) (F w mg fa h KX G hmg))
    (fun w H a ns hl hT hS => by
      obtain ⟨S', e⟩ := holds ns hl
      refine ⟨rfl, ⟨[], [], (caOf (K w.params) l.prog w).t⟩, [.scr ns], [], _, ⟨rfl, List.nodup_nil, fun n a o h => (by cases h), fun a h => (by cases h), fun p hp => (by rw [List.mem_singleton.mp hp]; exact LamX.TabS.nil hT), rfl⟩, .iCons (VR.iScr (SR.of hS)) .iNil, e, ?_⟩
      exact fun μ' H' v _ _ h => VR.bl h)
    fun w H s e s' h => by
      obtain ⟨_, _, _, _, _, _, _, _, _, _, _, _, z⟩ := h
      exact z.elim
end Lw
open PySem PySem.W PyProof.Rows L2 Tl
set_option maxRecDepth 100000 in
set_option maxHeartbeats 0 in
theorem PySem.Challenge.cw_tellsless_k11_plans_judged_holds : PySem.Challenge.rw_tellsless_k11_plans_judged.Holds := by
  w_on; o_law; k_head; (case hw => w_witness2)
  k_fill
  refine Lw.walk (l := PySem.Challenge.rw_tellsless_k11_plans_judged) rfl rfl (fun w h Y => ⟨PySem.W.km_in_of Y, by kernel_rfl, PySem.W.km_tabs_of Y _ (List.contains_iff_mem.mp (by kernel_rfl)), by kernel_rfl, by kernel_rfl⟩) rfl (fun w => by kernel_rfl) ?F Lw.holds
  case F =>
    intro w mg fa h KX G hmg
    have a0 := Lw.mkA (c := "House") KX (by k_is)
    have cl0 := Lw.mkClF KX a0 (by k_is) (by k_is) (by k_is) (by k_is) (by k_is) (by k_is) (by k_is) (by k_is)
    have a1 := Lw.mkA (c := "House") KX (by k_is)
    have cl1 := Lw.mkClF KX a1 (by k_is) (by k_is) (by k_is) (by k_is) (by k_is) (by k_is) (by k_is) (by k_is)
    have n_tree0 := Lw.mkN (f := "tree") KX a0 (by k_is)
    have n_tree1 := Lw.mkN (f := "tree") KX a1 (by k_is)
    have n_tree := Lw.mkNN cl0 n_tree0 cl1 n_tree1
    have n_worlds0 := Lw.mkN (f := "worlds") KX a0 (by k_is)
    have n_worlds1 := Lw.mkN (f := "worlds") KX a1 (by k_is)
    have n_worlds := Lw.mkNN cl0 n_worlds0 cl1 n_worlds1
    have a2 := Lw.mkA (c := "HouseError") KX (by k_is)
    have a3 := Lw.mkA (c := "NotAlike") KX (by k_is)
    have x_HouseError := Lw.mkX (x := "HouseError") KX G a2 PySem.F.excBase_ValueError (by k_exc) (by k_is) (by k_is) (by k_is)
    have x_NotAlike := Lw.mkX (x := "NotAlike") KX G a3 PySem.F.excBase_ValueError (by k_exc) (by k_is) (by k_is) (by k_is)
    have xm2_HouseError := Lw.mkXe (c := "HouseError") (d := "HouseError") true KX a2 a2 (by k_is) (by k_is) (by k_is) (by k_is)
    have xm3_HouseError := Lw.mkXe (c := "NotAlike") (d := "HouseError") true KX a3 a2 (by k_is) (by k_is) (by k_is) (by k_is)
    have xm_HouseError := Lw.mkXM_HouseError xm2_HouseError xm3_HouseError
    have xm2_NotAlike := Lw.mkXe (c := "HouseError") (d := "NotAlike") false KX a2 a3 (by k_is) (by k_is) (by k_is) (by k_is)
    have xm3_NotAlike := Lw.mkXe (c := "NotAlike") (d := "NotAlike") true KX a3 a3 (by k_is) (by k_is) (by k_is) (by k_is)
    have xm_NotAlike := Lw.mkXM_NotAlike xm2_NotAlike xm3_NotAlike
    have f0 := Lw.mkF (x := "is_integer") (st := Lw.top 5) KX G (by k_is) (by k_is) (by k_is) (by k_is)
    have f1 := Lw.mkF (x := "is_within") (st := Lw.top 6) KX G (by k_is) (by k_is) (by k_is) (by k_is)
    have f2 := Lw.mkF (x := "is_sized") (st := Lw.top 7) KX G (by k_is) (by k_is) (by k_is) (by k_is)
    have f3 := Lw.mkF (x := "is_pair") (st := Lw.top 8) KX G (by k_is) (by k_is) (by k_is) (by k_is)
    have f4 := Lw.mkF (x := "is_triple") (st := Lw.top 9) KX G (by k_is) (by k_is) (by k_is) (by k_is)
    have f5 := Lw.mkF (x := "are_rising") (st := Lw.top 10) KX G (by k_is) (by k_is) (by k_is) (by k_is)
    have f6 := Lw.mkF (x := "divisor") (st := Lw.top 14) KX G (by k_is) (by k_is) (by k_is) (by k_is)
    have f7 := Lw.mkF (x := "lowest") (st := Lw.top 15) KX G (by k_is) (by k_is) (by k_is) (by k_is)
    have f8 := Lw.mkF (x := "plus") (st := Lw.top 16) KX G (by k_is) (by k_is) (by k_is) (by k_is)
    have f9 := Lw.mkF (x := "total") (st := Lw.top 17) KX G (by k_is) (by k_is) (by k_is) (by k_is)
    have f10 := Lw.mkF (x := "is_fraction") (st := Lw.top 18) KX G (by k_is) (by k_is) (by k_is) (by k_is)
    have f11 := Lw.mkF (x := "is_chance") (st := Lw.top 19) KX G (by k_is) (by k_is) (by k_is) (by k_is)
    have f12 := Lw.mkF (x := "is_word") (st := Lw.top 28) KX G (by k_is) (by k_is) (by k_is) (by k_is)
    have f13 := Lw.mkF (x := "is_answer") (st := Lw.top 29) KX G (by k_is) (by k_is) (by k_is) (by k_is)
    have f14 := Lw.mkF (x := "added_weights") (st := Lw.top 30) KX G (by k_is) (by k_is) (by k_is) (by k_is)
    have f15 := Lw.mkF (x := "wrong_in_node") (st := Lw.top 31) KX G (by k_is) (by k_is) (by k_is) (by k_is)
    have f16 := Lw.mkF (x := "wrong_in_question") (st := Lw.top 32) KX G (by k_is) (by k_is) (by k_is) (by k_is)
    have f17 := Lw.mkF (x := "count_answers") (st := Lw.top 33) KX G (by k_is) (by k_is) (by k_is) (by k_is)
    have f18 := Lw.mkC (c := "House") (q := "House.__init__") (st := L2.inClass (Lw.top 34) 0) KX G a0 (by k_is) (by k_is) (by k_is) (by k_is) (by k_is) (by k_is) (by k_is)
    have f19 := Lw.mkF (x := "check_alike") (st := Lw.top 35) KX G (by k_is) (by k_is) (by k_is) (by k_is)
    have f20 := Lw.mkF (x := "is_wait") (st := Lw.top 37) KX G (by k_is) (by k_is) (by k_is) (by k_is)
    have f21 := Lw.mkF (x := "is_move") (st := Lw.top 38) KX G (by k_is) (by k_is) (by k_is) (by k_is)
    have f22 := Lw.mkF (x := "is_plan_of") (st := Lw.top 39) KX G (by k_is) (by k_is) (by k_is) (by k_is)
    have f23 := Lw.mkF (x := "is_plan") (st := Lw.top 40) KX G (by k_is) (by k_is) (by k_is) (by k_is)
    have f24 := Lw.mkF (x := "wait_passing") (st := Lw.top 41) KX G (by k_is) (by k_is) (by k_is) (by k_is)
    have f25 := Lw.mkF (x := "passing") (st := Lw.top 42) KX G (by k_is) (by k_is) (by k_is) (by k_is)
    have f26 := Lw.mkF (x := "_law_bag") (st := Lw.top 44) KX G (by k_is) (by k_is) (by k_is) (by k_is)
    have f27 := Lw.mkF (x := "_law_pick") (st := Lw.top 45) KX G (by k_is) (by k_is) (by k_is) (by k_is)
    have f28 := Lw.mkF (x := "_law_some") (st := Lw.top 46) KX G (by k_is) (by k_is) (by k_is) (by k_is)
    have f29 := Lw.mkF (x := "_law_common") (st := Lw.top 47) KX G (by k_is) (by k_is) (by k_is) (by k_is)
    have f30 := Lw.mkF (x := "_law_low") (st := Lw.top 48) KX G (by k_is) (by k_is) (by k_is) (by k_is)
    have f31 := Lw.mkF (x := "_law_times") (st := Lw.top 49) KX G (by k_is) (by k_is) (by k_is) (by k_is)
    have f32 := Lw.mkF (x := "_law_shares") (st := Lw.top 50) KX G (by k_is) (by k_is) (by k_is) (by k_is)
    have f33 := Lw.mkF (x := "_law_question") (st := Lw.top 51) KX G (by k_is) (by k_is) (by k_is) (by k_is)
    have f34 := Lw.mkF (x := "_law_node") (st := Lw.top 52) KX G (by k_is) (by k_is) (by k_is) (by k_is)
    have f35 := Lw.mkF (x := "_law_tree") (st := Lw.top 53) KX G (by k_is) (by k_is) (by k_is) (by k_is)
    have f36 := Lw.mkF (x := "_law_deep") (st := Lw.top 54) KX G (by k_is) (by k_is) (by k_is) (by k_is)
    have f37 := Lw.mkF (x := "_law_odd") (st := Lw.top 55) KX G (by k_is) (by k_is) (by k_is) (by k_is)
    have f38 := Lw.mkF (x := "_law_parts") (st := Lw.top 56) KX G (by k_is) (by k_is) (by k_is) (by k_is)
    have f39 := Lw.mkF (x := "_law_put") (st := Lw.top 57) KX G (by k_is) (by k_is) (by k_is) (by k_is)
    have f40 := Lw.mkF (x := "_law_spoilt") (st := Lw.top 58) KX G (by k_is) (by k_is) (by k_is) (by k_is)
    have f41 := Lw.mkF (x := "_law_wait") (st := Lw.top 59) KX G (by k_is) (by k_is) (by k_is) (by k_is)
    have f42 := Lw.mkF (x := "_law_move") (st := Lw.top 60) KX G (by k_is) (by k_is) (by k_is) (by k_is)
    have f43 := Lw.mkF (x := "_law_is_int") (st := Lw.top 61) KX G (by k_is) (by k_is) (by k_is) (by k_is)
    have f44 := Lw.mkF (x := "_law_is_wait") (st := Lw.top 62) KX G (by k_is) (by k_is) (by k_is) (by k_is)
    have f45 := Lw.mkF (x := "_law_is_move") (st := Lw.top 63) KX G (by k_is) (by k_is) (by k_is) (by k_is)
    have f46 := Lw.mkF (x := "_law_reweighted") (st := Lw.top 64) KX G (by k_is) (by k_is) (by k_is) (by k_is)
    have f47 := Lw.mkF (x := "_law_two") (st := Lw.top 65) KX G (by k_is) (by k_is) (by k_is) (by k_is)
    have f48 := Lw.mkF (x := "_law_flag") (st := Lw.top 66) KX G (by k_is) (by k_is) (by k_is) (by k_is)
    have f49 := Lw.mkF (x := "_law_word") (st := Lw.top 67) KX G (by k_is) (by k_is) (by k_is) (by k_is)
    have f50 := Lw.mkF (x := "_law_edge") (st := Lw.top 68) KX G (by k_is) (by k_is) (by k_is) (by k_is)
    have f51 := Lw.mkF (x := "_law_move_edge") (st := Lw.top 69) KX G (by k_is) (by k_is) (by k_is) (by k_is)
    have f52 := Lw.mkF (x := "law") (st := Lw.top 70) KX G (by k_is) (by k_is) (by k_is) (by k_is)
    have m_abs := PySem.W.mg_none_of (n := "abs") KX G (by k_is)
    have m_all := PySem.W.mg_none_of (n := "all") KX G (by k_is)
    have m_bool := PySem.W.mg_none_of (n := "bool") KX G (by k_is)
    have m_enumerate := PySem.W.mg_none_of (n := "enumerate") KX G (by k_is)
    have m_int := PySem.W.mg_none_of (n := "int") KX G (by k_is)
    have m_isinstance := PySem.W.mg_none_of (n := "isinstance") KX G (by k_is)
    have m_len := PySem.W.mg_none_of (n := "len") KX G (by k_is)
    have m_list := PySem.W.mg_none_of (n := "list") KX G (by k_is)
    have m_range := PySem.W.mg_none_of (n := "range") KX G (by k_is)
    have m_str := PySem.W.mg_none_of (n := "str") KX G (by k_is)
    have m_sum := PySem.W.mg_none_of (n := "sum") KX G (by k_is)
    have m_tuple := PySem.W.mg_none_of (n := "tuple") KX G (by k_is)
    have m_zip := PySem.W.mg_none_of (n := "zip") KX G (by k_is)
    have c_MOST_ANSWERS := Lw.mkI (x := "MOST_ANSWERS") (i := 12) KX G (by k_is)
    have c_MOST_IN_ALL := Lw.mkI (x := "MOST_IN_ALL") (i := 1500) KX G (by k_is)
    have c_MOST_NUMBER := Lw.mkI (x := "MOST_NUMBER") (i := 99) KX G (by k_is)
    have c_MOST_NUMBERS := Lw.mkI (x := "MOST_NUMBERS") (i := 8) KX G (by k_is)
    have c_MOST_QUESTIONS := Lw.mkI (x := "MOST_QUESTIONS") (i := 5) KX G (by k_is)
    have c_MOST_ROUNDS := Lw.mkI (x := "MOST_ROUNDS") (i := 8) KX G (by k_is)
    have c_MOST_WORLDS := Lw.mkI (x := "MOST_WORLDS") (i := 5) KX G (by k_is)
    have c_NOUGHT := Lw.mkT2 (x := "NOUGHT") (i := 0) (j := 1) KX G (by k_is) (by k_is)
    have c_ONE := Lw.mkT2 (x := "ONE") (i := 1) (j := 1) KX G (by k_is) (by k_is)
    exact ⟨n_tree, n_worlds, x_HouseError, x_NotAlike, xm_HouseError, xm_NotAlike, f0, f1, f2, f3, f4, f5, f6, f7, f8, f9, f10, f11, f12, f13, f14, f15, f16, f17, f18, f19, f20, f21, f22, f23, f24, f25, f26, f27, f28, f29, f30, f31, f32, f33, f34, f35, f36, f37, f38, f39, f40, f41, f42, f43, f44, f45, f46, f47, f48, f49, f50, f51, f52, m_abs, m_all, m_bool, m_enumerate, m_int, m_isinstance, m_len, m_list, m_range, m_str, m_sum, m_tuple, m_zip, c_MOST_ANSWERS, c_MOST_IN_ALL, c_MOST_NUMBER, c_MOST_NUMBERS, c_MOST_QUESTIONS, c_MOST_ROUNDS, c_MOST_WORLDS, c_NOUGHT, c_ONE⟩
