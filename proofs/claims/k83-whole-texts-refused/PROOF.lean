import PyProof.Rows.All
import HandS.ForMost
import HandS.HeadHook1
import HandS.ForExc
import HandS.Star
import HandS.TupAny
import HandS.Walk
import HandS.IsInst
import HandS.Flow
import HandS.Defaults
import HandS.Wide
import KE.DataEq
import KE.DataCmp
import KE.DataMinMax
import KE.DataIsa
import KE.DataAny
import KE.SortData
import HandS.Strs
import PyProof.Rows.SetFrom
import HandS.SetFor
import KE.OsSetLaws
import PyProof.Draws
import KE.GoesEnum
import KE.GoesMore
import HandS.Style
import HandS.Conv
import HandS.HeadHook4
import HandS.HeadEnd
import HandS.Head2
import HandS.Property
import HandS.ExcIs
import KE.SortKeyHeap
import HandS.SortKw
import HandS.ExcValue
import HandS.TupMul
import HandS.Zip
import HandS.More
import HandS.Dict
import HandS.Iter
import HandS.TupLen
import KE.KDictDisplayH
import HandS.Deep
import HandS.TryOnly
import HandS.TryMany
import HandS.ExcOwn
import HandS.ExcBuiltin
import HandS.CallSlots
import PyProof.Rows.SumAny
import KE.DataFind
import HandS.ExcInit
import HandS.ExcField
import KE.KExcSuper
import KE.KSuper
import HandS.DictComp
import HandS.TupSets
import HandS.RaiseMore
import HandS.OwnEq
import HandS.DictTup
import KE.KDictSum
import KE.KDictCopyH
import KE.KDictLetter
import KE.KDictWalk
import HandS.Text
import PyProof.StrBlock2
import HandS.Head0
import HandS.Head1
import HandS.HeadHook3
import PySem.Challenge.RW_pitlots_k83_whole_texts_refused
set_option Elab.async false
set_option linter.all false
set_option maxRecDepth 100000
set_option maxHeartbeats 0
/-! Pv1: pure values, what represents them in the abstract heap, frames. -/
namespace Pv
open PySem PySem.Spec L2

abbrev D := PyData
abbrev objD (c : Int) (fs : List D) : D := .dict [(.none, .int c), (.none, .tuple fs)]
abbrev dctD (t : Bool) (ks : List (List Int)) (ds : List D) : D := .dict [(.bool false, .tuple [.bool t, .list (ks.map fun k => .tuple (k.map .int)), .list ds])]
def tKey (k : List Int) : List Key := k.map Sum.inl
def iKey (k : List Int) : Key := .inl (k.headD 0)
def hoD (t : Bool) (ks : List (List Int)) (vs : List V) : HO := if t = true then .dT ((ks.map tKey).zip vs) else .dK ((ks.map iKey).zip vs)
abbrev flsD (xs : List D) : D := .dict [(.bool true, .list xs)]

abbrev fnD (x : Str) : D := .dict [(.bool true, .str x)]
abbrev CTab := Int → Option (Addr × List Str)
structure Kx where
  K : PySem.W.Frag
  CT : CTab

def FzL (K : PySem.W.Frag) (F : Hp) (a : Addr) (vs : List V) : Prop := (∃ ob, F a = some (.frz ob (.lst vs))) ∨ SqL K (fun _ => none) a vs
mutual
inductive Rep (k : Kx) (F : Hp) : V → D → Prop
  | non : Rep k F .non .none
  | bl (b : Bool) : Rep k F (.bl b) (.bool b)
  | int (i : Int) : Rep k F (.int i) (.int i)
  | str (x : Str) : Rep k F (.str x) (.str x)
  | lst {a : Addr} {vs : List V} {xs : List D} : F a = some (.lst vs) → RepL k F vs xs → Rep k F (.ref a) (.list xs)
  | tup {a : Addr} {vs : List V} {xs : List D} : F a = some (.tup vs) → RepL k F vs xs → Rep k F (.ref a) (.tuple xs)
  | fls {a : Addr} {vs : List V} {xs : List D} : FzL k.K F a vs → RepL k F vs xs → Rep k F (.ref a) (flsD xs)
  | obj {a dx C : Addr} {c : Int} {ns : List Str} {vs : List V} {fs : List D} : k.CT c = some (C, ns) → F a = some (.ins C dx (ns.zip vs)) → F dx = some (.own a) → vs.length ≤ ns.length → RepL k F vs fs → Rep k F (.ref a) (objD c fs)
  | dnil {a : Addr} : Rd F a (.dK []) → Rep k F (.ref a) (.dict [])
  | dct {a : Addr} {t : Bool} {ks : List (List Int)} {vs : List V} {ds : List D} : Rd F a (hoD t ks vs) → ks.length = vs.length → RepL k F vs ds → Rep k F (.ref a) (dctD t ks ds)
  | fn (x : Str) : Rep k F (.ref (He.ga k.K x)) (fnD x)
inductive RepL (k : Kx) (F : Hp) : List V → List D → Prop
  | nil : RepL k F [] []
  | cons {v : V} {vs : List V} {d : D} {ds : List D} : Rep k F v d → RepL k F vs ds → RepL k F (v :: vs) (d :: ds)
end

def IsDc : HO → Prop
  | .dK _ => True
  | .dT _ => True
  | _ => False
def nlk : HO → HO
  | .frz od (.dK m) => .dK m
  | .frz od (.dT m) => .dT m
  | o => o
def Fx1 : HO → Prop
  | .dK _ => False
  | .dT _ => False
  | .frz _ (.dK _) => False
  | .frz _ (.dT _) => False
  | _ => True
def Sub (F F' : Hp) : Prop := ∀ a o, F a = some o → ∃ o', F' a = some o' ∧ nlk o' = nlk o
theorem Sub.refl (F : Hp) : Sub F F := fun _ o h => ⟨o, h, rfl⟩
theorem nlk_fx {o o' : HO} (h : nlk o' = nlk o) (hn : Fx1 o) : o' = o := by
  have e : nlk o = o := by
    cases o <;> first | rfl | exact hn.elim | skip
    rename_i od u
    cases u <;> first | rfl | exact hn.elim
  rw [e] at h
  subst h
  cases o' <;> first | rfl | skip
  rename_i od u
  cases u <;> first | rfl | exact hn.elim
theorem nlk_dc {o o' : HO} (h : nlk o' = nlk o) (hd : IsDc o) : o' = o ∨ ∃ od, o' = .frz od o := by
  have e : nlk o = o := by cases o <;> first | rfl | exact hd.elim
  rw [e] at h
  subst h
  cases o' <;> first | exact .inl rfl | exact hd.elim | skip
  rename_i od u
  cases u <;> first | exact .inr ⟨od, rfl⟩ | exact hd.elim
theorem Sub.ex {F F' : Hp} (s : Sub F F') {a : Addr} {o : HO} (h : F a = some o) (hn : Fx1 o := by exact True.intro) : F' a = some o := by
  obtain ⟨o', e, z⟩ := s a o h
  rw [e, nlk_fx z hn]
theorem Sub.some {F F' : Hp} (s : Sub F F') {a : Addr} {o : HO} (h : F a = some o) : ∃ u, F' a = some u := let ⟨u, e, _⟩ := s a o h; ⟨u, e⟩
theorem Sub.trans {F G H : Hp} (a : Sub F G) (b : Sub G H) : Sub F H := fun x o h => by
  obtain ⟨o1, e1, z1⟩ := a x o h
  obtain ⟨o2, e2, z2⟩ := b x o1 e1
  exact ⟨o2, e2, z2.trans z1⟩
def RdK : HO → Prop
  | .lst _ => True
  | .tup _ => True
  | .dK _ => True
  | .dT _ => True
  | _ => False
theorem Sub.rd {F F' : Hp} {a : Addr} {u : HO} (s : Sub F F') (h : Rd F a u) (hk : RdK u := by exact True.intro) : Rd F' a u := by
  rcases h with h | ⟨o, h⟩
  · obtain ⟨o', e, z⟩ := s a u h
    cases u with
    | lst xs => rw [nlk_fx z True.intro] at e; exact .inl e
    | tup xs => rw [nlk_fx z True.intro] at e; exact .inl e
    | dK m => rcases nlk_dc z True.intro with rfl | ⟨od, rfl⟩; exact .inl e; exact .inr ⟨od, e⟩
    | dT m => rcases nlk_dc z True.intro with rfl | ⟨od, rfl⟩; exact .inl e; exact .inr ⟨od, e⟩
    | _ => exact hk.elim
  · obtain ⟨o', e, z⟩ := s a _ h
    cases u with
    | lst xs => rw [nlk_fx z True.intro] at e; exact .inr ⟨o, e⟩
    | tup xs => rw [nlk_fx z True.intro] at e; exact .inr ⟨o, e⟩
    | dK m => rcases nlk_dc (o := .dK m) z True.intro with rfl | ⟨od, rfl⟩; exact .inl e; exact .inr ⟨od, e⟩
    | dT m => rcases nlk_dc (o := .dT m) z True.intro with rfl | ⟨od, rfl⟩; exact .inl e; exact .inr ⟨od, e⟩
    | _ => exact hk.elim
theorem Sub.sqL {K : PySem.W.Frag} {F F' : Hp} {a : Addr} {xs : List V} (s : Sub F F') (h : SqL K F a xs) : SqL K F' a xs := by
  rcases h with h | h
  · exact .inl (s.rd h)
  · exact .inr h
theorem Sub.sqT {K : PySem.W.Frag} {F F' : Hp} {a : Addr} {xs : List V} (s : Sub F F') (h : SqT K F a xs) : SqT K F' a xs := by
  rcases h with h | h
  · exact .inl (s.rd h)
  · exact .inr h
theorem Sub.upd {F : Hp} {p : Addr} {o : HO} (h : F p = none) : Sub F (upd F p o) := fun a u e => ⟨u, by
  rw [upd_ne (ne_of_none e h)]; exact e, rfl⟩
theorem rdK_hoD {t : Bool} {ks : List (List Int)} {vs : List V} : RdK (hoD t ks vs) := by unfold hoD; split <;> trivial

theorem FzL.mono {K : PySem.W.Frag} {F F' : Hp} {a : Addr} {vs : List V} (s : Sub F F') (h : FzL K F a vs) : FzL K F' a vs := h.elim (fun ⟨o, e⟩ => .inl ⟨o, s.ex e⟩) .inr
theorem FzL.sq {K : PySem.W.Frag} {F : Hp} {a : Addr} {vs : List V} (h : FzL K F a vs) : SqL K F a vs := by
  rcases h with ⟨o, e⟩ | (h | ⟨o, h⟩) | h
  · exact .inl (.inr ⟨o, e⟩)
  · cases h
  · cases h
  · exact .inr h
theorem FzL.of {K : PySem.W.Frag} {F : Hp} {a : Addr} {vs : List V} (hO : Only F) (h : SqL K F a vs) : FzL K F a vs := by
  rcases h with (h | ⟨o, h⟩) | h
  · rcases hO a with z | ⟨_, _, z⟩ <;> rw [z] at h <;> cases h
  · exact .inl ⟨o, h⟩
  · exact .inr (.inr h)
mutual
theorem Rep.mono {k : Kx} {F F' : Hp} (s : Sub F F') : ∀ {v : V} {d : D}, Rep k F v d → Rep k F' v d
  | _, _, .non => .non
  | _, _, .bl b => .bl b
  | _, _, .int i => .int i
  | _, _, .str x => .str x
  | _, _, .lst h r => .lst (s.ex h) (r.mono s)
  | _, _, .tup h r => .tup (s.ex h) (r.mono s)
  | _, _, .fls h r => .fls (h.mono s) (r.mono s)
  | _, _, .obj h1 h2 h3 h4 r => .obj h1 (s.ex h2) (s.ex h3) h4 (r.mono s)
  | _, _, .dnil h => .dnil (s.rd h)
  | _, _, .dct h hl r => .dct (s.rd h rdK_hoD) hl (r.mono s)
  | _, _, .fn x => .fn x
theorem RepL.mono {k : Kx} {F F' : Hp} (s : Sub F F') : ∀ {vs : List V} {ds : List D}, RepL k F vs ds → RepL k F' vs ds
  | _, _, .nil => .nil
  | _, _, .cons a b => .cons (a.mono s) (b.mono s)
end
theorem RepL.length {k : Kx} {F : Hp} : ∀ {vs : List V} {ds : List D}, RepL k F vs ds → vs.length = ds.length
  | _, _, .nil => rfl
  | _, _, .cons _ b => by simp [b.length]
theorem RepL.append {k : Kx} {F : Hp} {ws : List V} {es : List D} : ∀ {vs : List V} {ds : List D}, RepL k F vs ds → RepL k F ws es → RepL k F (vs ++ ws) (ds ++ es)
  | _, _, .nil, h => h
  | _, _, .cons a b, h => .cons a (b.append h)
theorem RepL.get {k : Kx} {F : Hp} : ∀ {vs : List V} {ds : List D} {i : Nat} {d : D}, RepL k F vs ds → ds[i]? = some d → ∃ v, vs[i]? = some v ∧ Rep k F v d
  | _, _, _, _, .nil, h => by simp at h
  | _, _, 0, _, .cons a b, h => by simp at h; subst h; exact ⟨_, rfl, a⟩
  | _, _, i + 1, d, .cons a b, h => by
    obtain ⟨v, h1, h2⟩ := RepL.get (i := i) (d := d) b (by simpa using h)
    exact ⟨v, by simpa using h1, h2⟩
theorem RepL.set {k : Kx} {F : Hp} {v : V} {d : D} (r : Rep k F v d) : ∀ {vs : List V} {ds : List D} (i : Nat), RepL k F vs ds → RepL k F (vs.set i v) (ds.set i d)
  | _, _, _, .nil => .nil
  | _, _, 0, .cons _ b => .cons r b
  | _, _, i + 1, .cons a b => .cons a (b.set r i)
theorem RepL.take {k : Kx} {F : Hp} : ∀ {vs : List V} {ds : List D} (n : Nat), RepL k F vs ds → RepL k F (vs.take n) (ds.take n)
  | _, _, 0, _ => .nil
  | _, _, _ + 1, .nil => .nil
  | _, _, n + 1, .cons a b => .cons a (b.take n)
theorem RepL.drop {k : Kx} {F : Hp} : ∀ {vs : List V} {ds : List D} (n : Nat), RepL k F vs ds → RepL k F (vs.drop n) (ds.drop n)
  | _, _, 0, h => h
  | _, _, _ + 1, .nil => .nil
  | _, _, n + 1, .cons _ b => b.drop n
/-! ### plain data are the layer's -/
mutual
theorem Rep.dp {k : Kx} {F : Hp} : ∀ {v : V} {d : D}, Rep k F v d → d.plain = true → Dp k.K F v d
  | _, _, .non, _ => .non
  | _, _, .bl b, _ => .bl b
  | _, _, .int i, _ => .int i
  | _, _, .str x, _ => .str x
  | _, _, .lst h r, p => .lst (.inl (.inl h)) (r.dp (by simpa [PyData.plain] using p))
  | _, _, .tup h r, p => .tup (SqT.of h) (r.dp (by simpa [PyData.plain] using p))
  | _, _, .fls h r, p => by simp [PyData.plain] at p
  | _, _, .obj h1 h2 h3 h4 r, p => by simp [PyData.plain] at p
  | _, _, .dnil h, p => by simp [PyData.plain] at p
  | _, _, .dct h hl r, p => by simp [PyData.plain] at p
  | _, _, .fn x, p => by simp [PyData.plain] at p
theorem RepL.dp {k : Kx} {F : Hp} : ∀ {vs : List V} {ds : List D}, RepL k F vs ds → PyData.plainAll ds = true → DpAll k.K F vs ds
  | _, _, .nil, _ => .nil
  | _, _, .cons a b, p => by
    simp only [PyData.plainAll, Bool.and_eq_true] at p
    exact .cons (a.dp p.1) (b.dp p.2)
end
mutual
theorem dpMono {K : PySem.W.Frag} {F F' : Hp} (s : Sub F F') : ∀ {v : V} {d : D}, Dp K F v d → Dp K F' v d
  | _, _, .non => .non
  | _, _, .bl b => .bl b
  | _, _, .int i => .int i
  | _, _, .str x => .str x
  | _, _, .lst h r => .lst (s.sqL h) (dpAllMono s r)
  | _, _, .tup h r => .tup (s.sqT h) (dpAllMono s r)
theorem dpAllMono {K : PySem.W.Frag} {F F' : Hp} (s : Sub F F') : ∀ {vs : List V} {ds : List D}, DpAll K F vs ds → DpAll K F' vs ds
  | _, _, .nil => .nil
  | _, _, .cons a b => .cons (dpMono s a) (dpAllMono s b)
end

/-! ### mutable objects, slots -/
inductive OB where
  | lst (xs : List D) | ins (c : Int) (fs : List D) | dct (t : Bool) (ks : List (List Int)) (ds : List D)
inductive SV where
  | val (d : D) | own (o : OB)
abbrev Rho := List (Option SV)
inductive Rv where
  | sv (s : SV) | plc (i : Nat)
abbrev OB.d : OB → D
  | .lst xs => .list xs
  | .ins c fs => objD c fs
  | .dct t ks ds => dctD t ks ds
abbrev SV.d : SV → D
  | .val d => d
  | .own o => o.d

def RepO (k : Kx) (F : Hp) (p : Addr) : OB → HO → Prop
  | .lst xs, ho => ∃ vs, ho = .lst vs ∧ RepL k F vs xs
  | .ins c fs, ho => ∃ (C : Addr) (ns : List Str) (dx : Addr) (vs : List V), k.CT c = some (C, ns) ∧ ho = .ins C dx (ns.zip vs) ∧ F dx = some (.own p) ∧ vs.length ≤ ns.length ∧ RepL k F vs fs
  | .dct t ks ds, ho => ∃ vs, ho = hoD t ks vs ∧ ks.length = vs.length ∧ RepL k F vs ds
theorem RepO.mono {k : Kx} {F F' : Hp} {p : Addr} (s : Sub F F') : ∀ {o : OB} {ho : HO}, RepO k F p o ho → RepO k F' p o ho
  | .lst _, _, ⟨vs, e, r⟩ => ⟨vs, e, r.mono s⟩
  | .ins _ _, _, ⟨C, ns, dx, vs, h1, h2, h3, h4, r⟩ => ⟨C, ns, dx, vs, h1, h2, s.ex h3, h4, r.mono s⟩
  | .dct _ _ _, _, ⟨vs, h1, h2, r⟩ => ⟨vs, h1, h2, r.mono s⟩

def NoT : HO → Prop
  | .tup _ => False
  | _ => True
theorem RepO.nt {k : Kx} {F : Hp} {p : Addr} : ∀ {o : OB} {ho : HO}, RepO k F p o ho → NoT ho
  | .lst _, _, ⟨_, e, _⟩ => by subst e; trivial
  | .ins _ _, _, ⟨_, _, _, _, _, e, _⟩ => by subst e; trivial
  | .dct _ _ _, _, ⟨_, e, _⟩ => by subst e; unfold hoD; split <;> trivial
structure FR (k : Kx) (F : Hp) (ρ : Rho) (σ : St) (H : Hp) : Prop where
  sub : Sub F H
  len : ρ.length = σ.length
  vals : ∀ (i : Nat) (d : D), ρ[i]? = some (some (.val d)) → ∃ v, σ[i]? = some (some v) ∧ Rep k F v d
  owns : ∀ (i : Nat) (o : OB), ρ[i]? = some (some (.own o)) → ∃ p ho, σ[i]? = some (some (.ref p)) ∧ H p = some ho ∧ F p = none ∧ RepO k F p o ho
  dist : ∀ (i j : Nat) (o o' : OB) (p : Addr), ρ[i]? = some (some (.own o)) → ρ[j]? = some (some (.own o')) → σ[i]? = some (some (.ref p)) → σ[j]? = some (some (.ref p)) → i = j

def Own (ρ : Rho) (σ : St) (p : Addr) : Prop := ∃ (i : Nat) (o : OB), ρ[i]? = some (some (.own o)) ∧ σ[i]? = some (some (.ref p))
theorem FR.own_none {k : Kx} {F : Hp} {ρ : Rho} {σ : St} {H : Hp} (f : FR k F ρ σ H) {p : Addr} (h : Own ρ σ p) : F p = none := by
  obtain ⟨i, o, e, e2⟩ := h
  obtain ⟨q, ho, s, _, n, _⟩ := f.owns i o e
  rw [e2] at s; cases s; exact n
theorem FR.own_some {k : Kx} {F : Hp} {ρ : Rho} {σ : St} {H : Hp} (f : FR k F ρ σ H) {p : Addr} (h : Own ρ σ p) : ∃ ho, H p = some ho := by
  obtain ⟨i, o, e, e2⟩ := h
  obtain ⟨q, ho, s, h, n, _⟩ := f.owns i o e
  rw [e2] at s; cases s; exact ⟨_, h⟩

structure Tr (I : Addr → Prop) (F H F' H' : Hp) : Prop where
  sub : Sub F F'
  keep : ∀ p o, H p = some o → ¬ I p → H' p = some o
  new : ∀ p o, H p = some o → NoT o → F p = none → ¬ I p → F' p = none
  there : ∀ p o, H p = some o → ∃ o', H' p = some o'
theorem Tr.refl {I : Addr → Prop} {F H : Hp} : Tr I F H F H := ⟨Sub.refl _, fun _ _ h _ => h, fun _ _ _ _ h _ => h, fun p o h => ⟨o, h⟩⟩
theorem Tr.trans {I J : Addr → Prop} {F H F1 H1 F2 H2 : Hp} (a : Tr I F H F1 H1) (b : Tr J F1 H1 F2 H2) (h : ∀ p, J p → I p ∨ H p = none) : Tr I F H F2 H2 where
  sub := a.sub.trans b.sub
  keep := fun p o e n => b.keep p o (a.keep p o e n) fun j => (h p j).elim n fun z => by rw [e] at z; cases z
  new := fun p o e m f n => b.new p o (a.keep p o e n) m (a.new p o e m f n) fun j => (h p j).elim n fun z => by rw [e] at z; cases z
  there := fun p o e => let ⟨o', e'⟩ := a.there p o e; b.there p o' e'
theorem Tr.mono {I J : Addr → Prop} {F H F' H' : Hp} (a : Tr I F H F' H') (h : ∀ p, I p → J p) : Tr J F H F' H' :=
  ⟨a.sub, fun p o e n => a.keep p o e fun i => n (h p i), fun p o e m f n => a.new p o e m f fun i => n (h p i), a.there⟩
theorem Tr.newF {I : Addr → Prop} {F H : Hp} {p : Addr} {o : HO} (s : Sub F H) (h : H p = none) : Tr I F H (upd F p o) (upd H p o) where
  sub := Sub.upd (by cases e : F p with
    | none => rfl
    | some u => obtain ⟨z, hz⟩ := s.some e; rw [hz] at h; cases h)
  keep := fun q u e _ => by rw [upd_ne (ne_of_none e h)]; exact e
  new := fun q u e _ f _ => by rw [upd_ne (ne_of_none e h)]; exact f
  there := fun q u e => ⟨u, by rw [upd_ne (ne_of_none e h)]; exact e⟩
theorem Tr.newO {I : Addr → Prop} {F H : Hp} {p : Addr} {o : HO} (h : H p = none) : Tr I F H F (upd H p o) where
  sub := Sub.refl _
  keep := fun q u e _ => by rw [upd_ne (ne_of_none e h)]; exact e
  new := fun q u e _ f _ => f
  there := fun q u e => ⟨u, by rw [upd_ne (ne_of_none e h)]; exact e⟩
theorem Sub.none_of {F H : Hp} {p : Addr} (s : Sub F H) (h : H p = none) : F p = none := by
  cases e : F p with
  | none => rfl
  | some u => obtain ⟨z, hz⟩ := s.some e; rw [hz] at h; cases h
theorem FR.newF {k : Kx} {F : Hp} {ρ : Rho} {σ : St} {H : Hp} (f : FR k F ρ σ H) {p : Addr} {o : HO} (h : H p = none) : FR k (upd F p o) ρ σ (upd H p o) where
  sub := fun a u e => by
    by_cases ha : a = p
    · subst ha; rw [upd_same] at e ⊢; exact ⟨_, e, rfl⟩
    · rw [upd_ne ha] at e ⊢; exact f.sub a u e
  len := f.len
  vals := fun i d e => let ⟨v, s, r⟩ := f.vals i d e; ⟨v, s, r.mono (Sub.upd (f.sub.none_of h))⟩
  owns := fun i ob e => by
    obtain ⟨q, ho, s, hq, n, r⟩ := f.owns i ob e
    have ne : q ≠ p := ne_of_none hq h
    exact ⟨q, ho, s, by rw [upd_ne ne]; exact hq, by rw [upd_ne ne]; exact n, r.mono (Sub.upd (f.sub.none_of h))⟩
  dist := f.dist
theorem FR.newO {k : Kx} {F : Hp} {ρ : Rho} {σ : St} {H : Hp} (f : FR k F ρ σ H) {p : Addr} {o : HO} (h : H p = none) : FR k F ρ σ (upd H p o) where
  sub := fun a u e => by
    obtain ⟨z, hz⟩ := f.sub.some e
    rw [upd_ne (ne_of_none hz h)]; exact f.sub a u e
  len := f.len
  vals := f.vals
  owns := fun i ob e => by
    obtain ⟨q, ho, s, hq, n, r⟩ := f.owns i ob e
    exact ⟨q, ho, s, by rw [upd_ne (ne_of_none hq h)]; exact hq, n, r⟩
  dist := f.dist
end Pv

/-! Pv2: simulation of readings by pure functions; operators. -/
namespace Pv
open PySem PySem.Spec L2

def wpo {α : Type} (o : Option α) (Q : α → Prop) : Prop := match o with
  | some a => Q a
  | none => False
theorem wpo_bind {α β : Type} {o : Option α} {f : α → Option β} {Q : β → Prop} : wpo (o.bind f) Q ↔ wpo o fun a => wpo (f a) Q := by
  cases o <;> exact Iff.rfl
theorem wpo.mono {α : Type} {o : Option α} {Q R : α → Prop} (h : wpo o Q) (f : ∀ a, o = some a → Q a → R a) : wpo o R := by
  cases o with
  | none => exact h
  | some a => exact f a rfl h

structure Aft (k : Kx) (ρ : Rho) (σ : L2.St) (F H : Hp) (ρ' : Rho) (F' H' : Hp) : Prop where
  fr : FR k F' ρ' σ H'
  tr : Tr (Own ρ σ) F H F' H'
  ow : ∀ p, Own ρ' σ p → Own ρ σ p
  sl : ∀ (i : Nat) (s : SV), ρ[i]? = some (some s) → ∃ s', ρ'[i]? = some (some s')
section
variable {k : Kx} {ρ ρ1 ρ2 : Rho} {σ : L2.St} {F H F1 H1 F2 H2 : Hp}
theorem Aft.refl (f : FR k F ρ σ H) : Aft k ρ σ F H ρ F H := ⟨f, Tr.refl, fun _ h => h, fun _ s h => ⟨s, h⟩⟩
theorem Aft.trans (a : Aft k ρ σ F H ρ1 F1 H1) (b : Aft k ρ1 σ F1 H1 ρ2 F2 H2) : Aft k ρ σ F H ρ2 F2 H2 :=
  ⟨b.fr, a.tr.trans b.tr fun p j => .inl (a.ow p j), fun p h => a.ow p (b.ow p h), fun i s h => let ⟨s', h'⟩ := a.sl i s h; b.sl i s' h'⟩
theorem Aft.newF (f : FR k F ρ σ H) {p : Addr} {o : HO} (h : H p = none) : Aft k ρ σ F H ρ (upd F p o) (upd H p o) := ⟨f.newF h, Tr.newF f.sub h, fun _ h => h, fun _ s h => ⟨s, h⟩⟩
theorem Aft.newO (f : FR k F ρ σ H) {p : Addr} {o : HO} (h : H p = none) : Aft k ρ σ F H ρ F (upd H p o) := ⟨f.newO h, Tr.newO h, fun _ h => h, fun _ s h => ⟨s, h⟩⟩
end

def RR (k : Kx) (H0 F : Hp) (ρ : Rho) (σ : L2.St) (H : Hp) : Rv → V → Prop
  | .sv (.val d), v => Rep k F v d
  | .sv (.own o), v => ∃ p ho, v = .ref p ∧ H0 p = none ∧ H p = some ho ∧ F p = none ∧ RepO k F p o ho
  | .plc i, v => σ[i]? = some (some v) ∧ ∃ s, ρ[i]? = some (some s)
def RdR (k : Kx) (F H : Hp) (v : V) (d : D) : Prop := Rep k F v d ∨ ∃ p o ho, v = .ref p ∧ H p = some ho ∧ RepO k F p o ho ∧ d = OB.d o
def rdD (ρ : Rho) : Rv → Option D
  | .sv s => some s.d
  | .plc i => match ρ[i]? with
    | some (some s) => some s.d
    | _ => none
section
variable {k : Kx} {ρ ρ0 ρ1 ρ2 : Rho} {σ : L2.St} {F H F0 H0 F1 H1 F2 H2 : Hp} {r : Rv} {v : V} {d : D}
theorem RR.step (f0 : FR k F0 ρ0 σ H0) (a : Aft k ρ0 σ F0 H0 ρ1 F1 H1) (b : Aft k ρ1 σ F1 H1 ρ2 F2 H2) (h : RR k H0 F1 ρ1 σ H1 r v) : RR k H0 F2 ρ2 σ H2 r v := by
  match r, h with
  | .sv (.val d), h => exact Rep.mono b.tr.sub h
  | .sv (.own o), ⟨p, ho, e, n, h1, n1, q⟩ =>
    have np : ¬ Own ρ1 σ p := fun z => by
      obtain ⟨u, hu⟩ := f0.own_some (a.ow p z)
      rw [n] at hu; cases hu
    exact ⟨p, ho, e, n, b.tr.keep p ho h1 np, b.tr.new p ho h1 q.nt n1 np, q.mono b.tr.sub⟩
  | .plc i, ⟨e, s, h⟩ => exact ⟨e, b.sl i s h⟩
theorem RR.back (a : Aft k ρ0 σ F0 H0 ρ1 F1 H1) (h : RR k H1 F2 ρ2 σ H2 r v) : RR k H0 F2 ρ2 σ H2 r v := by
  match r, h with
  | .sv (.val d), h => exact h
  | .sv (.own o), ⟨p, ho, e, n, q⟩ =>
    refine ⟨p, ho, e, ?_, q⟩
    cases z : H0 p with
    | none => rfl
    | some u =>
      obtain ⟨u', hu'⟩ := a.tr.there p u z
      rw [n] at hu'; cases hu'
  | .plc i, h => exact h
theorem RR.rd (f : FR k F ρ σ H) (h : RR k H0 F ρ σ H r v) (e : rdD ρ r = some d) : RdR k F H v d := by
  match r, h with
  | .sv (.val d'), h => simp only [rdD, Option.some.injEq] at e; subst e; exact .inl h
  | .sv (.own o), ⟨p, ho, e1, n, h1, n1, q⟩ => simp only [rdD, Option.some.injEq] at e; subst e; exact .inr ⟨p, o, ho, e1, h1, q, rfl⟩
  | .plc i, ⟨e1, s, h1⟩ =>
    simp only [rdD, h1, Option.some.injEq] at e
    subst e
    cases s with
    | val d' =>
      obtain ⟨v', h2, h3⟩ := f.vals i d' h1
      rw [e1] at h2; cases h2; exact .inl h3
    | own o =>
      obtain ⟨p, ho, h2, h3, _, h4⟩ := f.owns i o h1
      rw [e1] at h2; cases h2; exact .inr ⟨p, o, ho, rfl, h3, h4, rfl⟩
/-! ### reading -/
theorem RdR.dp (s : Sub F H) (h : RdR k F H v d) (p : d.plain = true) : Dp k.K H v d := by
  rcases h with h | ⟨q, o, ho, rfl, h1, h2, rfl⟩
  · exact dpMono s (h.dp p)
  · cases o with
    | lst xs =>
      obtain ⟨vs, rfl, r⟩ := h2
      exact .lst (.inl (.inl h1)) (dpAllMono s (r.dp (by simpa [PyData.plain] using p)))
    | ins c fs => simp [OB.d, PyData.plain] at p
    | dct t ks ds => simp [OB.d, PyData.plain] at p
theorem RdR.lst {xs : List D} (s : Sub F H) (h : RdR k F H v (.list xs)) : ∃ a vs, v = .ref a ∧ H a = some (.lst vs) ∧ RepL k F vs xs := by
  rcases h with h | ⟨q, o, ho, rfl, h1, h2, e⟩
  · cases h with
    | lst h r => exact ⟨_, _, rfl, s.ex h, r⟩
  · cases o with
    | lst ys =>
      cases e
      obtain ⟨vs, rfl, r⟩ := h2
      exact ⟨q, vs, rfl, h1, r⟩
    | ins c fs => cases e
    | dct t ks ds => cases e
theorem RdR.tup {xs : List D} (s : Sub F H) (h : RdR k F H v (.tuple xs)) : ∃ a vs, v = .ref a ∧ F a = some (.tup vs) ∧ SqT k.K H a vs ∧ RepL k F vs xs := by
  rcases h with h | ⟨q, o, ho, rfl, h1, h2, e⟩
  · cases h with
    | tup h r => exact ⟨_, _, rfl, h, SqT.of (s.ex h), r⟩
  · cases o with
    | lst ys => cases e
    | ins c fs => cases e
    | dct t ks ds => cases e
theorem RdR.fls {xs : List D} (s : Sub F H) (h : RdR k F H v (flsD xs)) : ∃ a vs, v = .ref a ∧ SqL k.K H a vs ∧ RepL k F vs xs := by
  rcases h with h | ⟨q, o, ho, rfl, h1, h2, e⟩
  · cases h with
    | fls h r => exact ⟨_, _, rfl, (h.mono s).sq, r⟩
  · cases o with
    | lst ys => cases e
    | ins c fs => cases e
    | dct t ks ds => cases e
theorem RdR.int {i : Int} (h : RdR k F H v (.int i)) : v = .int i := by
  rcases h with h | ⟨q, o, ho, rfl, h1, h2, e⟩
  · cases h; rfl
  · cases o with
    | lst ys => cases e
    | ins c fs => cases e
    | dct t ks ds => cases e
theorem RdR.bl {b : Bool} (h : RdR k F H v (.bool b)) : v = .bl b := by
  rcases h with h | ⟨q, o, ho, rfl, h1, h2, e⟩
  · cases h; rfl
  · cases o with
    | lst ys => cases e
    | ins c fs => cases e
    | dct t ks ds => cases e
theorem RdR.str {x : Str} (h : RdR k F H v (.str x)) : v = .str x := by
  rcases h with h | ⟨q, o, ho, rfl, h1, h2, e⟩
  · cases h; rfl
  · cases o with
    | lst ys => cases e
    | ins c fs => cases e
    | dct t ks ds => cases e
theorem RdR.non (h : RdR k F H v .none) : v = .non := by
  rcases h with h | ⟨q, o, ho, rfl, h1, h2, e⟩
  · cases h; rfl
  · cases o with
    | lst ys => cases e
    | ins c fs => cases e
    | dct t ks ds => cases e
end

abbrev EM := Rho → Option (Rv × Rho)
def SimE (k : Kx) (te : TE) (m : EM) : Prop := ∀ (F : Hp) (ρ : Rho) (σ : L2.St) (H : Hp) (Q : VK), FR k F ρ σ H →
  wpo (m ρ) (fun x => ∀ v F' H', Aft k ρ σ F H x.2 F' H' → RR k H F' x.2 σ H' x.1 v → Q v H') → te σ H Q
def SE (k : Kx) (X : Cx) (e : Expr) (m : EM) : Prop := ∃ te, PE X e te ∧ SimE k te m

/-! ### names, constants -/
def evVar (i : Nat) : EM := fun ρ => match ρ[i]? with
  | some (some (.val d)) => some (.sv (.val d), ρ)
  | some (some (.own _)) => some (.plc i, ρ)
  | _ => none
theorem simVar {k : Kx} {i : Nat} : SimE k (tVar i) (evVar i) := by
  intro F ρ σ H Q f h
  unfold evVar at h
  split at h
  · rename_i d e
    obtain ⟨v, s, r⟩ := f.vals i d e
    exact ⟨v, s, h v F H (Aft.refl f) r⟩
  · rename_i o e
    obtain ⟨p, ho, s, _⟩ := f.owns i o e
    exact ⟨_, s, h _ F H (Aft.refl f) ⟨s, _, e⟩⟩
  · exact h.elim
def evC (d : D) : EM := fun ρ => some (.sv (.val d), ρ)
theorem simC {k : Kx} {v : V} {d : D} (h : ∀ F, Rep k F v d) : SimE k (tC v) (evC d) := fun F ρ σ H Q f q => q v F H (Aft.refl f) (h F)

/-! ### operators on contents -/
def OpSim (k : Kx) (r : R2) (g : D → D → Option SV) : Prop := ∀ (F : Hp) (ρ : Rho) (σ : L2.St) (H : Hp) (x y : V) (dx dy : D) (Q : VK), FR k F ρ σ H → RdR k F H x dx → RdR k F H y dy →
  wpo (g dx dy) (fun s => ∀ v F' H', Aft k ρ σ F H ρ F' H' → RR k H F' ρ σ H' (.sv s) v → Q v H') → r x y H Q
def UnSim (k : Kx) (r : V → Hp → VK → Prop) (g : D → Option SV) : Prop := ∀ (F : Hp) (ρ : Rho) (σ : L2.St) (H : Hp) (x : V) (dx : D) (Q : VK), FR k F ρ σ H → RdR k F H x dx →
  wpo (g dx) (fun s => ∀ v F' H', Aft k ρ σ F H ρ F' H' → RR k H F' ρ σ H' (.sv s) v → Q v H') → r x H Q
def evBin (g : D → D → Option SV) (ma mb : EM) : EM := fun ρ => (ma ρ).bind fun a => (mb a.2).bind fun b => (rdD b.2 a.1).bind fun d1 => (rdD b.2 b.1).bind fun d2 => (g d1 d2).bind fun s => some (.sv s, b.2)
def evUn (g : D → Option SV) (ma : EM) : EM := fun ρ => (ma ρ).bind fun a => (rdD a.2 a.1).bind fun d => (g d).bind fun s => some (.sv s, a.2)
theorem simBin {k : Kx} {r : R2} {g : D → D → Option SV} {ta tb : TE} {ma mb : EM} (hr : OpSim k r g) (ha : SimE k ta ma) (hb : SimE k tb mb) : SimE k (tOp r ta tb) (evBin g ma mb) := by
  intro F ρ σ H Q f h
  unfold evBin at h
  refine ha F ρ σ H _ f ((wpo_bind.mp h).mono fun a _ h => ?_)
  intro v F1 H1 A1 R1
  refine hb F1 a.2 σ H1 _ A1.fr ((wpo_bind.mp h).mono fun b _ h => ?_)
  intro u F2 H2 A2 R2
  have R1' := R1.step f A1 A2
  have h := wpo_bind.mp h
  cases e1 : rdD b.2 a.1 with
  | none => rw [e1] at h; exact h.elim
  | some d1 =>
    rw [e1] at h
    have h := wpo_bind.mp h
    cases e2 : rdD b.2 b.1 with
    | none => rw [e2] at h; exact h.elim
    | some d2 =>
      rw [e2] at h
      refine hr F2 b.2 σ H2 v u d1 d2 Q A2.fr (R1'.rd A2.fr e1) (R2.rd A2.fr e2) ((wpo_bind.mp h).mono fun s _ h => ?_)
      intro z F3 H3 A3 R3
      exact h z F3 H3 ((A1.trans A2).trans A3) (R3.back (A1.trans A2))
theorem simUn {k : Kx} {r : V → Hp → VK → Prop} {g : D → Option SV} {ta : TE} {ma : EM} (hr : UnSim k r g) (ha : SimE k ta ma) : SimE k (tUn r ta) (evUn g ma) := by
  intro F ρ σ H Q f h
  unfold evUn at h
  refine ha F ρ σ H _ f ((wpo_bind.mp h).mono fun a _ h => ?_)
  intro v F1 H1 A1 R1
  have h := wpo_bind.mp h
  cases e1 : rdD a.2 a.1 with
  | none => rw [e1] at h; exact h.elim
  | some d1 =>
    rw [e1] at h
    refine hr F1 a.2 σ H1 v d1 Q A1.fr (R1.rd A1.fr e1) ((wpo_bind.mp h).mono fun s _ h => ?_)
    intro z F3 H3 A3 R3
    exact h z F3 H3 (A1.trans A3) (R3.back A1)
theorem OpSim.sc {k : Kx} {F : Hp} {ρ : Rho} {σ : L2.St} {H : Hp} {Q : VK} {d : D} {v : V} (f : FR k F ρ σ H) (r : Rep k F v d)
    (h : wpo (some (SV.val d)) (fun s => ∀ v F' H', Aft k ρ σ F H ρ F' H' → RR k H F' ρ σ H' (.sv s) v → Q v H')) : Q v H := h v F H (Aft.refl f) r

abbrev AM := Rho → Option (List Rv × Rho)
inductive RRs (k : Kx) (F : Hp) (ρ : Rho) (σ : L2.St) (H : Hp) : Hp → List Rv → List V → Prop
  | nil {H0 : Hp} : RRs k F ρ σ H H0 [] []
  | cons {r : Rv} {v : V} {rs : List Rv} {vs : List V} {H0 H1 : Hp} : RR k H0 F ρ σ H r v → RRs k F ρ σ H H1 rs vs → (∀ p, H0 p ≠ none → H1 p ≠ none) → (∀ o, r = .sv (.own o) → ∃ p, v = .ref p ∧ H1 p ≠ none) → RRs k F ρ σ H H0 (r :: rs) (v :: vs)
def SimA (k : Kx) (ta : TA) (m : AM) : Prop := ∀ (F : Hp) (ρ : Rho) (σ : L2.St) (H : Hp) (Q : List V → Hp → Prop), FR k F ρ σ H →
  wpo (m ρ) (fun x => ∀ vs F' H', Aft k ρ σ F H x.2 F' H' → RRs k F' x.2 σ H' H x.1 vs → Q vs H') → ta σ H Q
def SA (k : Kx) (X : Cx) (es : List Expr) (m : AM) : Prop := ∃ ta, PA X es ta ∧ SimA k ta m
def evNil : AM := fun ρ => some ([], ρ)
def evCons (ma : EM) (mr : AM) : AM := fun ρ => (ma ρ).bind fun a => (mr a.2).bind fun b => some (a.1 :: b.1, b.2)
theorem simNil {k : Kx} : SimA k tNil evNil := fun F ρ σ H Q f h => h [] F H (Aft.refl f) .nil
theorem simCons {k : Kx} {ta : TE} {tr : TA} {ma : EM} {mr : AM} (ha : SimE k ta ma) (hr : SimA k tr mr) : SimA k (tCons ta tr) (evCons ma mr) := by
  intro F ρ σ H Q f h
  unfold evCons at h
  refine ha F ρ σ H _ f ((wpo_bind.mp h).mono fun a _ h => ?_)
  intro v F1 H1 A1 R1
  refine hr F1 a.2 σ H1 _ A1.fr ((wpo_bind.mp h).mono fun b _ h => ?_)
  intro us F2 H2 A2 R2
  refine h (v :: us) F2 H2 (A1.trans A2) (.cons (R1.step f A1 A2) R2 (fun p e => ?_) fun o e => ?_)
  · cases z : H p with
    | none => exact absurd z e
    | some u => obtain ⟨u', hu'⟩ := A1.tr.there p u z; rw [hu']; simp
  · rw [e] at R1
    obtain ⟨p, ho, e1, _, h1, _⟩ := R1
    exact ⟨p, e1, by rw [h1]; simp⟩
def rdAll (ρ : Rho) : List Rv → Option (List D)
  | [] => some []
  | r :: rs => (rdD ρ r).bind fun d => (rdAll ρ rs).bind fun ds => some (d :: ds)
inductive RdRs (k : Kx) (F H : Hp) : List V → List D → Prop
  | nil : RdRs k F H [] []
  | cons {v : V} {vs : List V} {d : D} {ds : List D} : RdR k F H v d → RdRs k F H vs ds → RdRs k F H (v :: vs) (d :: ds)
theorem RRs.rd {k : Kx} {F : Hp} {ρ : Rho} {σ : L2.St} {H : Hp} (f : FR k F ρ σ H) : ∀ {H0 : Hp} {rs : List Rv} {vs : List V} {ds : List D}, RRs k F ρ σ H H0 rs vs → rdAll ρ rs = some ds → RdRs k F H vs ds
  | _, _, _, _, .nil, e => by simp only [rdAll, Option.some.injEq] at e; subst e; exact .nil
  | _, r :: rs, v :: vs, ds, .cons a b _ _, e => by
    simp only [rdAll, Option.bind_eq_some_iff] at e
    obtain ⟨d, e1, ds', e2, e3⟩ := e
    cases e3
    exact .cons (a.rd f e1) (RRs.rd f b e2)
def CallSim (k : Kx) (r : List V → Hp → VK → Prop) (g : List D → Option SV) : Prop := ∀ (F : Hp) (ρ : Rho) (σ : L2.St) (H : Hp) (vs : List V) (ds : List D) (Q : VK), FR k F ρ σ H → RdRs k F H vs ds →
  wpo (g ds) (fun s => ∀ v F' H', Aft k ρ σ F H ρ F' H' → RR k H F' ρ σ H' (.sv s) v → Q v H') → r vs H Q
def evCall (g : List D → Option SV) (ma : AM) : EM := fun ρ => (ma ρ).bind fun a => (rdAll a.2 a.1).bind fun ds => (g ds).bind fun s => some (.sv s, a.2)
theorem simCall {k : Kx} {r : List V → Hp → VK → Prop} {g : List D → Option SV} {ta : TA} {ma : AM} (hr : CallSim k r g) (ha : SimA k ta ma) : SimE k (tCB r ta) (evCall g ma) := by
  intro F ρ σ H Q f h
  unfold evCall at h
  refine ha F ρ σ H _ f ((wpo_bind.mp h).mono fun a _ h => ?_)
  intro vs F1 H1 A1 R1
  have h := wpo_bind.mp h
  cases e1 : rdAll a.2 a.1 with
  | none => rw [e1] at h; exact h.elim
  | some ds =>
    rw [e1] at h
    refine hr F1 a.2 σ H1 vs ds Q A1.fr (R1.rd A1.fr e1) ((wpo_bind.mp h).mono fun s _ h => ?_)
    intro z F3 H3 A3 R3
    exact h z F3 H3 (A1.trans A3) (R3.back A1)
end Pv

/-! Pv3: operators: rules over data, and their pure functions. -/
namespace Pv
open PySem PySem.Spec PySem.SeqAt L2

def rDat (K : PySem.W.Frag) (p : D → D → Bool) (g : D → D → Bool) : R2 := fun x y H Q => ∃ d e, Dp K H x d ∧ Dp K H y e ∧ p d e = true ∧ Q (.bl (g d e)) H
def pEq (d e : D) : Bool := d.plain && e.plain && decide (min d.depth e.depth ≤ 100)
def pLt (d e : D) : Bool := d.plain && e.plain && PySem.W.alike d e && (match d with | .none => false | _ => true) && decide (min d.depth e.depth ≤ 100)
section
variable {X : Cx}
theorem op_dat {f : Value → Value → Sem Value} {p g : D → D → Bool}
    (rule : ∀ (d e : D) (v u : Value) (as bs : List Addr) (s : Shared) (Q : Value → Shared → Prop), p d e = true → Reads s.heap v d as → Reads s.heap u e bs → Q (.bool (g d e)) s → wpAny (model X.prog X.w) X.A (f v u) Q X.xe s) : OpR X f (rDat X.K p g) := by
  intro pins s σ H x y v u Q I rx ry h
  obtain ⟨d, e, hd, he, hp, q⟩ := h
  obtain ⟨as, r1⟩ := Dp.reads I d x v hd rx
  obtain ⟨bs, r2⟩ := Dp.reads I e y u he ry
  exact rule d e v u as bs s _ hp r1 r2 ⟨.bl _, H, I, rfl, q⟩
theorem pEq_ok {d e : D} (h : pEq d e = true) : d.plain = true ∧ e.plain = true ∧ min d.depth e.depth ≤ 100 := by
  simp only [pEq, Bool.and_eq_true, decide_eq_true_eq] at h
  exact ⟨h.1.1, h.1.2, h.2⟩
theorem pLt_ok {d e : D} (h : pLt d e = true) : d.plain = true ∧ e.plain = true ∧ PySem.W.alike d e = true ∧ d ≠ .none ∧ min d.depth e.depth ≤ 100 := by
  simp only [pLt, Bool.and_eq_true, decide_eq_true_eq] at h
  exact ⟨h.1.1.1.1, h.1.1.1.2, h.1.1.2, by rintro rfl; simp at h, h.2⟩
variable (hu : X.A.units + 200 < cLine)
include hu
theorem op_eqP : OpR X (compareOp .Eq) (rDat X.K pEq PyData.eqv) := op_dat fun d e v u as bs s Q hp r1 r2 q => by
  obtain ⟨h1, h2, h3⟩ := pEq_ok hp
  exact eq_plain r1 r2 h1 h2 (by omega) q
theorem op_neP : OpR X (compareOp .NotEq) (rDat X.K pEq fun d e => !PyData.eqv d e) := op_dat fun d e v u as bs s Q hp r1 r2 q => by
  obtain ⟨h1, h2, h3⟩ := pEq_ok hp
  exact ne_plain r1 r2 h1 h2 (by omega) q
theorem op_ltP : OpR X (compareOp .Lt) (rDat X.K pLt PySem.W.dataLt) := op_dat fun d e v u as bs s Q hp r1 r2 q => by
  obtain ⟨_, _, h1, h2, h3⟩ := pLt_ok hp
  exact PySem.W.lt_data r1 r2 h1 h2 (by omega) q
theorem op_gtP : OpR X (compareOp .Gt) (rDat X.K pLt fun d e => PySem.W.dataLt e d) := op_dat fun d e v u as bs s Q hp r1 r2 q => by
  obtain ⟨_, _, h1, h2, h3⟩ := pLt_ok hp
  exact PySem.W.gt_data r1 r2 h1 h2 (by omega) q
theorem op_leP : OpR X (compareOp .LtE) (rDat X.K pLt fun d e => !PySem.W.dataLt e d) := op_dat fun d e v u as bs s Q hp r1 r2 q => by
  obtain ⟨_, _, h1, h2, h3⟩ := pLt_ok hp
  exact PySem.W.le_data r1 r2 h1 h2 (by omega) q
theorem op_geP : OpR X (compareOp .GtE) (rDat X.K pLt fun d e => !PySem.W.dataLt d e) := op_dat fun d e v u as bs s Q hp r1 r2 q => by
  obtain ⟨_, _, h1, h2, h3⟩ := pLt_ok hp
  exact PySem.W.ge_data r1 r2 h1 h2 (by omega) q
def pIn (d e : D) : Bool := match e with
  | .list xs => d.plain && PyData.plainAll xs && decide (min (PyData.depthAll xs) d.depth ≤ 100)
  | .tuple xs => d.plain && PyData.plainAll xs && decide (min (PyData.depthAll xs) d.depth ≤ 100)
  | _ => false
def gIn (d e : D) : Bool := match e with
  | .list xs => xs.any fun y => PyData.eqv y d
  | .tuple xs => xs.any fun y => PyData.eqv y d
  | _ => false
theorem op_inP : OpR X (compareOp .In) (rDat X.K pIn gIn) := op_dat fun d e v u as bs s Q hp r1 r2 q => by
  cases e with
  | list xs =>
    simp only [pIn, Bool.and_eq_true, decide_eq_true_eq] at hp
    exact in_list_data r2 r1 hp.1.2 hp.1.1 (by omega) q
  | tuple xs =>
    simp only [pIn, Bool.and_eq_true, decide_eq_true_eq] at hp
    exact in_tuple_data r2 r1 hp.1.2 hp.1.1 (by omega) q
  | _ => simp [pIn] at hp
end

/-! ### the pure functions -/
def gDat (p g : D → D → Bool) (d e : D) : Option SV := if p d e = true then some (.val (.bool (g d e))) else none
theorem simDat {k : Kx} {p g : D → D → Bool} (hp : ∀ d e, p d e = true → d.plain = true ∧ e.plain = true) : OpSim k (rDat k.K p g) (gDat p g) := by
  intro F ρ σ H x y dx dy Q f rx ry h
  unfold gDat at h
  by_cases e : p dx dy = true
  · rw [if_pos e] at h
    obtain ⟨p1, p2⟩ := hp _ _ e
    exact ⟨dx, dy, rx.dp f.sub p1, ry.dp f.sub p2, e, h _ F H (Aft.refl f) (.bl _)⟩
  · rw [if_neg e] at h; exact h.elim
theorem pIn_plain {d e : D} (h : pIn d e = true) : d.plain = true ∧ e.plain = true := by
  cases e with
  | list xs => simp only [pIn, Bool.and_eq_true] at h; exact ⟨h.1.1, by simpa [PyData.plain] using h.1.2⟩
  | tuple xs => simp only [pIn, Bool.and_eq_true] at h; exact ⟨h.1.1, by simpa [PyData.plain] using h.1.2⟩
  | _ => simp [pIn] at h
abbrev gEqD := gDat pEq PyData.eqv
abbrev gNeD := gDat pEq fun d e => !PyData.eqv d e
abbrev gLtD := gDat pLt PySem.W.dataLt
abbrev gGtD := gDat pLt fun d e => PySem.W.dataLt e d
abbrev gLeD := gDat pLt fun d e => !PySem.W.dataLt e d
abbrev gGeD := gDat pLt fun d e => !PySem.W.dataLt d e
abbrev gInD := gDat pIn gIn
def gI2 (C : Int → Int → Bool) (g : Int → Int → D) : D → D → Option SV
  | .int i, .int j => if C i j = true then some (.val (g i j)) else none
  | _, _ => none
theorem simI2 {k : Kx} {C : Int → Int → Bool} {C' : Int → Int → Prop} {g : Int → Int → D} {g' : Int → Int → V} (hC : ∀ i j, C i j = true → C' i j) (hg : ∀ F i j, Rep k F (g' i j) (g i j)) : OpSim k (rI C' g') (gI2 C g) := by
  intro F ρ σ H x y dx dy Q f rx ry h
  unfold gI2 at h
  split at h
  · rename_i i j
    by_cases e : C i j = true
    · rw [if_pos e] at h
      exact ⟨i, j, rx.int, ry.int, hC _ _ e, h _ F H (Aft.refl f) (hg F i j)⟩
    · rw [if_neg e] at h; exact h.elim
  · exact h.elim
theorem simI0 {k : Kx} {g : Int → Int → D} {g' : Int → Int → V} (hg : ∀ F i j, Rep k F (g' i j) (g i j)) : OpSim k (rI0 g') (gI2 (fun _ _ => true) g) := by
  intro F ρ σ H x y dx dy Q f rx ry h
  unfold gI2 at h
  split at h
  · rename_i i j
    rw [if_pos rfl] at h
    exact ⟨i, j, rx.int, ry.int, h _ F H (Aft.refl f) (hg F i j)⟩
  · exact h.elim
def cMul (i j : Int) : Bool := Nat.ble i.natAbs 18446744073709551615 || Nat.ble j.natAbs 18446744073709551615
def cDiv (_ j : Int) : Bool := Nat.ble 1 j.toNat && Nat.ble j.toNat 1073741823
def cPos (_ j : Int) : Bool := Nat.ble 1 j.toNat
def cPow (i j : Int) : Bool := decide (0 ≤ j) && (Nat.ble j.toNat 1000000 && Nat.ble i.natAbs 18446744073709551615)
abbrev gSub := gI2 (fun _ _ => true) fun i j => .int (i - j)
abbrev gMulI := gI2 cMul fun i j => .int (i * j)
abbrev gFdiv := gI2 cDiv fun i j => .int (i / j)
abbrev gMod := gI2 cPos fun i j => .int (i % j)
abbrev gPow := gI2 cPow fun i j => .int (i ^ j.toNat)
theorem simSub {k : Kx} : OpSim k (rI0 fun i j => V.int (i - j)) gSub := simI0 fun F i j => .int _
theorem simMulI {k : Kx} : OpSim k (rI CMul fun i j => V.int (i * j)) gMulI := simI2 (fun i j h => by simp [cMul] at h; unfold CMul; omega) fun F i j => .int _
theorem simFdiv {k : Kx} : OpSim k (rI CDiv fun i j => V.int (i / j)) gFdiv := simI2 (fun i j h => by simp [cDiv] at h; unfold CDiv; omega) fun F i j => .int _
theorem simMod {k : Kx} : OpSim k (rI (fun _ j => 0 < j) fun i j => V.int (i % j)) gMod := simI2 (fun i j h => by simp [cPos] at h; omega) fun F i j => .int _
theorem simPow {k : Kx} : OpSim k (rI CPow fun i j => V.int (i ^ j.toNat)) gPow := simI2 (fun i j h => by simp [cPow] at h; unfold CPow; omega) fun F i j => .int _
def gNeg : D → Option SV
  | .int i => some (.val (.int (-i)))
  | _ => none
theorem simNeg {k : Kx} : UnSim k (rU fun i => V.int (-i)) gNeg := by
  intro F ρ σ H x dx Q f rx h
  unfold gNeg at h
  split at h
  · exact ⟨_, rx.int, h _ F H (Aft.refl f) (.int _)⟩
  · exact h.elim
/-! is None -/
def isNoneD : D → Bool
  | .none => true
  | _ => false
def gIsNot (d e : D) : Option SV := if isNoneD e = true then some (.val (.bool (!isNoneD d))) else none
theorem RdR.isNon {k : Kx} {F H : Hp} {v : V} {d : D} (h : RdR k F H v d) : decide (v = .non) = isNoneD d := by
  rcases h with h | ⟨q, o, ho, rfl, h1, h2, rfl⟩
  · cases h <;> first | rfl | simp [isNoneD]
  · cases o <;> simp [isNoneD]
theorem isNoneD_eq {d : D} (h : isNoneD d = true) : d = .none := by cases d <;> first | rfl | simp [isNoneD] at h
theorem simIsNot {k : Kx} : OpSim k (fun x y H Q => y = .non ∧ Q (.bl (!decide (x = .non))) H) gIsNot := by
  intro F ρ σ H x y dx dy Q f rx ry h
  unfold gIsNot at h
  by_cases e : isNoneD dy = true
  · rw [if_pos e] at h
    cases isNoneD_eq e
    exact ⟨ry.non, by rw [rx.isNon]; exact h _ F H (Aft.refl f) (.bl _)⟩
  · rw [if_neg e] at h; exact h.elim
/-! a + b -/
def gAdd : D → D → Option SV
  | .int i, .int j => some (.val (.int (i + j)))
  | .list xs, .list ys => if xs.length + ys.length ≤ sizeLine then some (.own (.lst (xs ++ ys))) else none
  | .tuple xs, .tuple ys => if xs.length + ys.length ≤ sizeLine then some (.val (.tuple (xs ++ ys))) else none
  | .str x, .str y => if x.length + y.length ≤ sizeLine then some (.val (.str (x ++ y))) else none
  | _, _ => none
def rAddA (K : PySem.W.Frag) : R2 := fun x y H Q => (((rI0 fun i j => .int (i + j)) x y H Q ∨ rCat x y H Q) ∨ (rCatA K x y H Q)) ∨ (fun x y H Q => ∃ i j, x = V.str i ∧ y = .str j ∧ i.length + j.length ≤ sizeLine ∧ Q (.str (i ++ j)) H) x y H Q
theorem op_addA {X : Cx} : OpR X (binaryOp .Add) (rAddA X.K) := (((op_add.or op_cat).or op_catA).or op_add_str)
theorem simAdd {k : Kx} : OpSim k (rAddA k.K) gAdd := by
  intro F ρ σ H x y dx dy Q f rx ry h
  unfold gAdd at h
  split at h
  · exact .inl (.inl (.inl ⟨_, _, rx.int, ry.int, h _ F H (Aft.refl f) (.int _)⟩))
  · rename_i xs ys
    split at h
    · rename_i hz
      obtain ⟨a, vs, rfl, ha, ra⟩ := rx.lst f.sub
      obtain ⟨b, us, rfl, hb, rb⟩ := ry.lst f.sub
      refine .inl (.inl (.inr ⟨a, b, vs, us, rfl, rfl, ha, hb, by rw [ra.length, rb.length]; exact hz, fun p hp => ?_⟩))
      exact h _ F _ (Aft.newO f hp) ⟨p, _, rfl, hp, upd_same, f.sub.none_of hp, _, rfl, ra.append rb⟩
    · exact h.elim
  · rename_i xs ys
    split at h
    · rename_i hz
      obtain ⟨a, vs, rfl, ha', ha, ra⟩ := rx.tup f.sub
      obtain ⟨b, us, rfl, hb', hb, rb⟩ := ry.tup f.sub
      refine .inl (.inr ⟨a, b, vs, us, rfl, rfl, ha, hb, by rw [ra.length, rb.length]; exact hz, fun e => ?_, fun e1 e2 => ?_, fun e1 e2 p hp => ?_⟩)
      · subst e
        cases ra
        exact h _ F H (Aft.refl f) (Rep.tup hb' rb)
      · subst e2
        cases rb
        rw [List.append_nil] at h
        exact h _ F H (Aft.refl f) (Rep.tup ha' ra)
      · exact h _ _ _ (Aft.newF f hp) (Rep.tup upd_same ((ra.append rb).mono (Sub.upd (f.sub.none_of hp))))
    · exact h.elim
  · split at h
    · rename_i hz
      exact .inr ⟨_, _, rx.str, ry.str, hz, h _ F H (Aft.refl f) (.str _)⟩
    · exact h.elim
  · exact h.elim
/-! a[i] -/
def gIx : D → D → Option SV
  | .list xs, .int i => (atI xs i).map SV.val
  | .tuple xs, .int i => (atI xs i).map SV.val
  | .dict [(.bool true, .list xs)], .int i => (atI xs i).map SV.val
  | _, _ => none
def rIxA (K : PySem.W.Frag) : R2 := fun x y H Q => rIxL K x y H Q ∨ rIxT K x y H Q
theorem ix_A {X : Cx} : IxR X (rIxA X.K) := ix_list.or ix_tup
theorem RepL.atI {k : Kx} {F : Hp} {vs : List V} {ds : List D} {i : Int} {d : D} (h : RepL k F vs ds) (e : L2.atI ds i = some d) : ∃ v, L2.atI vs i = some v ∧ Rep k F v d := by
  unfold L2.atI at e ⊢
  rw [h.length]
  cases e1 : ixN ds.length i with
  | none => rw [e1] at e; simp at e
  | some j =>
    rw [e1] at e
    exact h.get e
theorem simIx {k : Kx} : OpSim k (rIxA k.K) gIx := by
  intro F ρ σ H x y dx dy Q f rx ry h
  unfold gIx at h
  split at h
  · rename_i xs i
    obtain ⟨a, vs, rfl, ha, ra⟩ := rx.lst f.sub
    cases e : L2.atI xs i with
    | none => rw [e] at h; exact h.elim
    | some d =>
      rw [e] at h
      obtain ⟨v, e1, r1⟩ := ra.atI e
      exact .inl ⟨a, vs, i, v, rfl, ry.int, .inl (.inl ha), e1, h v F H (Aft.refl f) r1⟩
  · rename_i xs i
    obtain ⟨a, vs, rfl, _, ha, ra⟩ := rx.tup f.sub
    cases e : L2.atI xs i with
    | none => rw [e] at h; exact h.elim
    | some d =>
      rw [e] at h
      obtain ⟨v, e1, r1⟩ := ra.atI e
      exact .inr ⟨a, vs, i, v, rfl, ry.int, ha, e1, h v F H (Aft.refl f) r1⟩
  · rename_i xs i
    obtain ⟨a, vs, rfl, ha, ra⟩ := rx.fls f.sub
    cases e : L2.atI xs i with
    | none => rw [e] at h; exact h.elim
    | some d =>
      rw [e] at h
      obtain ⟨v, e1, r1⟩ := ra.atI e
      exact .inl ⟨a, vs, i, v, rfl, ry.int, ha, e1, h v F H (Aft.refl f) r1⟩
  · exact h.elim
end Pv

/-! Pv4: freezing, displays, truth, tests, statements. -/
namespace Pv
open PySem PySem.Spec PySem.SeqAt L2

/-! ### freezing -/
def frz1 (ρ : Rho) : Rv → Option (D × Rho)
  | .sv s => some (s.d, ρ)
  | .plc i => match ρ[i]? with
    | some (some (.own o)) => some (o.d, ρ.set i (some (.val o.d)))
    | some (some (.val d)) => some (d, ρ)
    | _ => none
def frzs : Rho → List Rv → Option (List D × Rho)
  | ρ, [] => some ([], ρ)
  | ρ, r :: rs => (frz1 ρ r).bind fun a => (frzs a.2 rs).bind fun b => some (a.1 :: b.1, b.2)
theorem RepO.rep {k : Kx} {F : Hp} {o : OB} {ho : HO} {p : Addr} (h : RepO k F p o ho) (e : ∃ o, F p = some o ∧ nlk o = nlk ho) : Rep k F (.ref p) o.d := by
  cases o with
  | lst xs =>
    obtain ⟨vs, rfl, r⟩ := h
    obtain ⟨o, e, z⟩ := e
    rw [nlk_fx z True.intro] at e
    exact .lst e r
  | ins c fs =>
    obtain ⟨C, ns, dx, vs, h1, rfl, h3, h4, r⟩ := h
    obtain ⟨o, e, z⟩ := e
    rw [nlk_fx z True.intro] at e
    exact .obj h1 e h3 h4 r
  | dct t ks ds =>
    obtain ⟨vs, rfl, h2, r⟩ := h
    obtain ⟨o, e, z⟩ := e
    refine .dct ?_ h2 r
    rcases nlk_dc z (by unfold hoD; split <;> trivial) with rfl | ⟨od, rfl⟩
    · exact .inl e
    · exact .inr ⟨od, e⟩
section
variable {k : Kx} {ρ ρ0 ρ1 ρ2 : Rho} {σ : L2.St} {F H F0 H0 F1 H1 F2 H2 : Hp} {r : Rv} {v : V} {d : D}
theorem set_get {α : Type} {l : List α} {i j : Nat} {x y : α} (h : (l.set i x)[j]? = some y) : (j = i ∧ y = x ∧ i < l.length) ∨ (j ≠ i ∧ l[j]? = some y) := by
  by_cases e : j = i
  · subst e
    by_cases hl : j < l.length
    · rw [List.getElem?_set_self hl] at h; cases h; exact .inl ⟨rfl, rfl, hl⟩
    · rw [List.getElem?_eq_none (by simpa using hl)] at h; cases h
  · rw [List.getElem?_set_ne (Ne.symm e)] at h; exact .inr ⟨e, h⟩
theorem Own.set_val {i : Nat} {d : D} {p : Addr} (h : Own (ρ.set i (some (.val d))) σ p) : Own ρ σ p := by
  obtain ⟨j, o, e, e2⟩ := h
  rcases set_get e with ⟨_, h, _⟩ | ⟨_, h⟩
  · cases h
  · exact ⟨j, o, h, e2⟩
theorem FR.freeze (f : FR k F ρ σ H) {i : Nat} {o : OB} (e : ρ[i]? = some (some (.own o))) : ∃ p ho, σ[i]? = some (some (.ref p)) ∧ H p = some ho ∧ F p = none ∧ Rep k (upd F p ho) (.ref p) o.d ∧ FR k (upd F p ho) (ρ.set i (some (.val o.d))) σ H := by
  obtain ⟨p, ho, s, hp, n, ro⟩ := f.owns i o e
  have rp : Rep k (upd F p ho) (.ref p) o.d := RepO.rep (ro.mono (Sub.upd n)) ⟨_, upd_same, rfl⟩
  refine ⟨p, ho, s, hp, n, rp, fun a u q => ?_, by simpa using f.len, fun j d' q => ?_, fun j o' q => ?_, fun j l o1 o2 q e1 e2 e3 e4 => ?_⟩
  · by_cases ha : a = p
    · subst ha; rw [upd_same] at q; cases q; exact ⟨_, hp, rfl⟩
    · rw [upd_ne ha] at q; exact f.sub a u q
  · rcases set_get q with ⟨rfl, h, _⟩ | ⟨_, h⟩
    · cases h; exact ⟨_, s, rp⟩
    · obtain ⟨v, s', r'⟩ := f.vals j d' h
      exact ⟨v, s', r'.mono (Sub.upd n)⟩
  · rcases set_get q with ⟨_, h, _⟩ | ⟨nj, h⟩
    · cases h
    · obtain ⟨p', ho', s', hp', n', ro'⟩ := f.owns j o' h
      have ne : p' ≠ p := fun z => nj (f.dist j i o' o p h e (z ▸ s') s)
      exact ⟨p', ho', s', hp', by rw [upd_ne ne]; exact n', ro'.mono (Sub.upd n)⟩
  · rcases set_get e1 with ⟨_, h, _⟩ | ⟨_, h1⟩
    · cases h
    · rcases set_get e2 with ⟨_, h, _⟩ | ⟨_, h2⟩
      · cases h
      · exact f.dist j l o1 o2 q h1 h2 e3 e4
theorem FR.freezeT (f : FR k F ρ σ H) {p : Addr} {ho : HO} (hp : H p = some ho) (n : F p = none) (no : ¬ Own ρ σ p) : FR k (upd F p ho) ρ σ H := by
  refine ⟨fun a u q => ?_, f.len, fun j d' q => ?_, fun j o' q => ?_, f.dist⟩
  · by_cases ha : a = p
    · subst ha; rw [upd_same] at q; cases q; exact ⟨_, hp, rfl⟩
    · rw [upd_ne ha] at q; exact f.sub a u q
  · obtain ⟨v, s', r'⟩ := f.vals j d' q
    exact ⟨v, s', r'.mono (Sub.upd n)⟩
  · obtain ⟨p', ho', s', hp', n', ro'⟩ := f.owns j o' q
    have ne : p' ≠ p := fun z => no (z ▸ ⟨j, o', q, s'⟩)
    exact ⟨p', ho', s', hp', by rw [upd_ne ne]; exact n', ro'.mono (Sub.upd n)⟩
theorem slots_set {i : Nat} {d : D} : ∀ (j : Nat) (s : SV), ρ[j]? = some (some s) → ∃ s', (ρ.set i (some (SV.val d)))[j]? = some (some s') := fun j s h => by
  by_cases e : j = i
  · subst e
    exact ⟨_, List.getElem?_set_self (List.getElem?_eq_some_iff.mp h).1⟩
  · exact ⟨s, by rw [List.getElem?_set_ne (Ne.symm e)]; exact h⟩
theorem frz1_ok {ρ' : Rho} (f0 : FR k F0 ρ0 σ H0) (A : Aft k ρ0 σ F0 H0 ρ F H) (R : RR k H0 F ρ σ H r v) (e : frz1 ρ r = some (d, ρ')) :
    ∃ F', Aft k ρ0 σ F0 H0 ρ' F' H ∧ Sub F F' ∧ Rep k F' v d ∧ (∀ p, F p = none → F' p ≠ none → v = .ref p ∧ (H0 p ≠ none ∨ ∃ o, r = .sv (.own o))) ∧ (∀ (i : Nat) (s : SV), ρ[i]? = some (some s) → ∃ s', ρ'[i]? = some (some s')) := by
  match r, R with
  | .sv (.val d'), R =>
    simp only [frz1, Option.some.injEq, Prod.mk.injEq] at e
    obtain ⟨rfl, rfl⟩ := e
    exact ⟨F, A, Sub.refl _, R, fun p h1 h2 => absurd h1 h2, fun i s h => ⟨s, h⟩⟩
  | .sv (.own o), ⟨p, ho, e1, n, h1, n1, q⟩ =>
    simp only [frz1, Option.some.injEq, Prod.mk.injEq] at e
    obtain ⟨rfl, rfl⟩ := e
    subst e1
    have no : ¬ Own ρ σ p := fun z => by
      obtain ⟨u, hu⟩ := f0.own_some (A.ow p z)
      rw [n] at hu; cases hu
    have ff := A.fr.freezeT h1 n1 no
    refine ⟨upd F p ho, ⟨ff, ⟨A.tr.sub.trans (Sub.upd n1), A.tr.keep, fun a u e m f nI => ?_, A.tr.there⟩, A.ow, A.sl⟩, Sub.upd n1, RepO.rep (q.mono (Sub.upd n1)) ⟨_, upd_same, rfl⟩, fun a h1 h2 => ?_, fun i s h => ⟨s, h⟩⟩
    · have ne : a ≠ p := fun z => by subst z; rw [n] at e; cases e
      rw [upd_ne ne]; exact A.tr.new a u e m f nI
    · by_cases ha : a = p
      · subst ha; exact ⟨rfl, .inr ⟨o, rfl⟩⟩
      · rw [upd_ne ha] at h2; exact absurd h1 h2
  | .plc i, ⟨e1, s, h1⟩ =>
    cases s with
    | val d' =>
      simp only [frz1, h1, Option.some.injEq, Prod.mk.injEq] at e
      obtain ⟨rfl, rfl⟩ := e
      obtain ⟨v', h2, h3⟩ := A.fr.vals i d' h1
      rw [e1] at h2; cases h2
      exact ⟨F, A, Sub.refl _, h3, fun p h1 h2 => absurd h1 h2, fun i s h => ⟨s, h⟩⟩
    | own o =>
      simp only [frz1, h1, Option.some.injEq, Prod.mk.injEq] at e
      obtain ⟨rfl, rfl⟩ := e
      obtain ⟨p, ho, s, hp, n, rp, ff⟩ := A.fr.freeze h1
      rw [e1] at s; cases s
      have op : Own ρ σ p := ⟨i, o, h1, e1⟩
      refine ⟨upd F p ho, ⟨ff, ⟨A.tr.sub.trans (Sub.upd n), A.tr.keep, fun a u e m f nI => ?_, A.tr.there⟩, fun a z => A.ow a z.set_val, fun j s h => ?_⟩, Sub.upd n, rp, fun a h1 h2 => ?_, slots_set⟩
      · have ne : a ≠ p := fun z => nI (z ▸ A.ow p op)
        rw [upd_ne ne]; exact A.tr.new a u e m f nI
      · obtain ⟨s', h'⟩ := A.sl j s h
        exact slots_set j s' h'
      · by_cases ha : a = p
        · subst ha
          refine ⟨rfl, .inl ?_⟩
          obtain ⟨u, hu⟩ := f0.own_some (A.ow a op)
          rw [hu]; simp
        · rw [upd_ne ha] at h2; exact absurd h1 h2
theorem RRs.frz {ρ' : Rho} {F' : Hp} (sb : Sub F F') (sl : ∀ (i : Nat) (s : SV), ρ[i]? = some (some s) → ∃ s', ρ'[i]? = some (some s')) : ∀ {H1 : Hp} {rs : List Rv} {vs : List V}, RRs k F ρ σ H H1 rs vs → (∀ p, F p = none → F' p ≠ none → H1 p ≠ none) → RRs k F' ρ' σ H H1 rs vs
  | _, _, _, .nil, _ => .nil
  | _, _, _, .cons (r := r) a b c d, hf => by
    refine .cons ?_ (RRs.frz sb sl b fun p h1 h2 => c p (hf p h1 h2)) c d
    match r, a with
    | .sv (.val _), a => exact Rep.mono sb a
    | .sv (.own o), ⟨p, ho, e, n, h1, n1, q⟩ =>
      refine ⟨p, ho, e, n, h1, ?_, q.mono sb⟩
      cases z : F' p with
      | none => rfl
      | some u => exact absurd n (hf p n1 (by rw [z]; simp))
    | .plc i, ⟨e, s, h⟩ => exact ⟨e, sl i s h⟩
theorem frzs_ok (f0 : FR k F0 ρ0 σ H0) : ∀ {rs : List Rv} {vs : List V} {ρ ρ' : Rho} {F Hs : Hp} {ds : List D}, Aft k ρ0 σ F0 H0 ρ F H → (∀ p, H0 p ≠ none → Hs p ≠ none) → RRs k F ρ σ H Hs rs vs → frzs ρ rs = some (ds, ρ') →
    ∃ F', Aft k ρ0 σ F0 H0 ρ' F' H ∧ Sub F F' ∧ RepL k F' vs ds
  | [], _, _, _, F, _, _, A, _, .nil, e => by
    simp only [frzs, Option.some.injEq, Prod.mk.injEq] at e
    obtain ⟨rfl, rfl⟩ := e
    exact ⟨F, A, Sub.refl _, .nil⟩
  | r :: rs, v :: vs, ρ, ρ', F, Hs, ds, A, hs, .cons (H1 := H1) a b c d, e => by
    simp only [frzs, Option.bind_eq_some_iff] at e
    obtain ⟨x, e1, y, e2, e3⟩ := e
    cases e3
    have a' : RR k H0 F ρ σ H r v := by
      match r, a with
      | .sv (.val _), a => exact a
      | .sv (.own o), ⟨p, ho, e, n, q⟩ =>
        refine ⟨p, ho, e, ?_, q⟩
        cases z : H0 p with
        | none => rfl
        | some u => exact absurd n (hs p (by rw [z]; simp))
      | .plc i, h => exact h
    obtain ⟨F1, A1, s1, r1, n1, l1⟩ := frz1_ok f0 A a' e1
    have b' := RRs.frz s1 l1 b fun p h1 h2 => by
      obtain ⟨e5, z⟩ := n1 p h1 h2
      rcases z with z | ⟨o, z⟩
      · exact c p (hs p z)
      · obtain ⟨q, e6, h6⟩ := d o z
        rw [e5] at e6; cases e6; exact h6
    obtain ⟨F2, A2, s2, r2⟩ := frzs_ok f0 A1 (fun p h => c p (hs p h)) b' e2
    exact ⟨F2, A2, s1.trans s2, .cons (r1.mono s2) r2⟩
end
/-! ### displays -/
def evTup (ma : AM) : EM := fun ρ => (ma ρ).bind fun a => (frzs a.2 a.1).bind fun b => if b.1.length ≤ sizeLine then some (.sv (.val (.tuple b.1)), b.2) else none
def evLst (ma : AM) : EM := fun ρ => (ma ρ).bind fun a => (frzs a.2 a.1).bind fun b => if b.1.length ≤ sizeLine then some (.sv (.own (.lst b.1)), b.2) else none
theorem Aft.new {k : Kx} {ρ ρ' : Rho} {σ : L2.St} {F H F' H' : Hp} (A : Aft k ρ σ F H ρ' F' H') {p : Addr} {o : HO} (h : H' p = none) : Aft k ρ σ F H ρ' (upd F' p o) (upd H' p o) := A.trans (Aft.newF A.fr h)
theorem Aft.newOw {k : Kx} {ρ ρ' : Rho} {σ : L2.St} {F H F' H' : Hp} (A : Aft k ρ σ F H ρ' F' H') {p : Addr} {o : HO} (h : H' p = none) : Aft k ρ σ F H ρ' F' (upd H' p o) := A.trans (Aft.newO A.fr h)
theorem Aft.none_of {k : Kx} {ρ ρ' : Rho} {σ : L2.St} {F H F' H' : Hp} (A : Aft k ρ σ F H ρ' F' H') {p : Addr} (h : H' p = none) : H p = none := by
  cases z : H p with
  | none => rfl
  | some u => obtain ⟨u', hu'⟩ := A.tr.there p u z; rw [h] at hu'; cases hu'
theorem simTup {k : Kx} {ta : TA} {ma : AM} (ha : SimA k ta ma) : SimE k (tTup ta) (evTup ma) := by
  intro F ρ σ H Q f h
  unfold evTup at h
  refine ha F ρ σ H _ f ((wpo_bind.mp h).mono fun a _ h => ?_)
  intro vs F1 H1 A1 R1
  have h := wpo_bind.mp h
  cases e1 : frzs a.2 a.1 with
  | none => rw [e1] at h; exact h.elim
  | some b =>
    rw [e1] at h
    obtain ⟨F2, A2, s2, r2⟩ := frzs_ok f A1 (fun _ h => h) R1 e1
    have h : wpo (if b.1.length ≤ sizeLine then some (Rv.sv (.val (.tuple b.1)), b.2) else none) _ := h
    split at h
    · rename_i hz
      refine ⟨by rw [r2.length]; exact hz, fun p hp => ?_⟩
      exact h _ _ _ (A2.new hp) (Rep.tup upd_same (r2.mono (Sub.upd (A2.fr.sub.none_of hp))))
    · exact h.elim
theorem simLst {k : Kx} {ta : TA} {ma : AM} (ha : SimA k ta ma) : SimE k (tLst ta) (evLst ma) := by
  intro F ρ σ H Q f h
  unfold evLst at h
  refine ha F ρ σ H _ f ((wpo_bind.mp h).mono fun a _ h => ?_)
  intro vs F1 H1 A1 R1
  have h := wpo_bind.mp h
  cases e1 : frzs a.2 a.1 with
  | none => rw [e1] at h; exact h.elim
  | some b =>
    rw [e1] at h
    obtain ⟨F2, A2, s2, r2⟩ := frzs_ok f A1 (fun _ h => h) R1 e1
    have h : wpo (if b.1.length ≤ sizeLine then some (Rv.sv (.own (.lst b.1)), b.2) else none) _ := h
    split at h
    · rename_i hz
      refine ⟨by rw [r2.length]; exact hz, fun p hp => ?_⟩
      exact h _ _ _ (A2.newOw hp) ⟨p, _, rfl, A2.none_of hp, upd_same, A2.fr.sub.none_of hp, _, rfl, r2⟩
    · exact h.elim

/-! ### tests -/
abbrev TM := Rho → Option (Bool × Rho)
def SimT (k : Kx) (tt : TT) (m : TM) : Prop := ∀ (F : Hp) (ρ : Rho) (σ : L2.St) (H : Hp) (Q : Bool → Hp → Prop), FR k F ρ σ H →
  wpo (m ρ) (fun x => ∀ F' H', Aft k ρ σ F H x.2 F' H' → Q x.1 H') → tt σ H Q
def ST (k : Kx) (X : Cx) (e : Expr) (m : TM) : Prop := ∃ tt, PT X e tt ∧ SimT k tt m
def toB : D → Option Bool
  | .bool b => some b
  | _ => none
def tvB (ma : EM) : TM := fun ρ => (ma ρ).bind fun a => (rdD a.2 a.1).bind fun d => (toB d).bind fun b => some (b, a.2)
theorem simTvB {k : Kx} {ta : TE} {ma : EM} (ha : SimE k ta ma) : SimT k (fun σ H Q => ta σ H fun x H1 => ∃ c, x = .bl c ∧ Q c H1) (tvB ma) := by
  intro F ρ σ H Q f h
  unfold tvB at h
  refine ha F ρ σ H _ f ((wpo_bind.mp h).mono fun a _ h => ?_)
  intro v F1 H1 A1 R1
  have h := wpo_bind.mp h
  cases e1 : rdD a.2 a.1 with
  | none => rw [e1] at h; exact h.elim
  | some d =>
    rw [e1] at h
    have h := wpo_bind.mp h
    cases e2 : toB d with
    | none => rw [e2] at h; exact h.elim
    | some b =>
      rw [e2] at h
      have : d = .bool b := by cases d <;> simp [toB] at e2; rw [e2]
      subst this
      exact ⟨b, (R1.rd A1.fr e1).bl, h F1 H1 A1⟩
def tvNot (mt : TM) : TM := fun ρ => (mt ρ).bind fun a => some (!a.1, a.2)
theorem simTNot {k : Kx} {tt : TT} {mt : TM} (h : SimT k tt mt) : SimT k (L2.tNot tt) (tvNot mt) := by
  intro F ρ σ H Q f q
  unfold tvNot at q
  refine h F ρ σ H _ f ((wpo_bind.mp q).mono fun a _ q => ?_)
  intro F1 H1 A1
  exact q F1 H1 A1
def tvAnd (ma mb : TM) : TM := fun ρ => (ma ρ).bind fun a => if a.1 = true then mb a.2 else some (false, a.2)
def tvOr (ma mb : TM) : TM := fun ρ => (ma ρ).bind fun a => if a.1 = true then some (true, a.2) else mb a.2
theorem simTAnd {k : Kx} {ta tb : TT} {ma mb : TM} (ha : SimT k ta ma) (hb : SimT k tb mb) : SimT k (L2.tAnd ta tb) (tvAnd ma mb) := by
  intro F ρ σ H Q f q
  unfold tvAnd at q
  refine ha F ρ σ H _ f ((wpo_bind.mp q).mono fun a _ q => ?_)
  intro F1 H1 A1
  split at q
  · rename_i e
    rw [e]
    refine hb F1 a.2 σ H1 _ A1.fr (q.mono fun b _ q => ?_)
    intro F2 H2 A2
    exact q F2 H2 (A1.trans A2)
  · rename_i e
    have e : a.1 = false := by simpa using e
    rw [e]
    exact q F1 H1 A1
theorem simTOr {k : Kx} {ta tb : TT} {ma mb : TM} (ha : SimT k ta ma) (hb : SimT k tb mb) : SimT k (L2.tOr ta tb) (tvOr ma mb) := by
  intro F ρ σ H Q f q
  unfold tvOr at q
  refine ha F ρ σ H _ f ((wpo_bind.mp q).mono fun a _ q => ?_)
  intro F1 H1 A1
  split at q
  · rename_i e
    rw [e]
    exact q F1 H1 A1
  · rename_i e
    have e : a.1 = false := by simpa using e
    rw [e]
    refine hb F1 a.2 σ H1 _ A1.fr (q.mono fun b _ q => ?_)
    intro F2 H2 A2
    exact q F2 H2 (A1.trans A2)
/-! ### and, or, not, conditional expressions as values -/
def evAnd (ma mb : EM) : EM := fun ρ => (tvB ma ρ).bind fun a => if a.1 = true then mb a.2 else some (.sv (.val (.bool false)), a.2)
def evOr (ma mb : EM) : EM := fun ρ => (tvB ma ρ).bind fun a => if a.1 = true then some (.sv (.val (.bool true)), a.2) else mb a.2
def evNot (ma : EM) : EM := fun ρ => (tvB ma ρ).bind fun a => some (.sv (.val (.bool (!a.1))), a.2)
def evIf (mt : TM) (ma mb : EM) : EM := fun ρ => (mt ρ).bind fun a => if a.1 = true then ma a.2 else mb a.2
theorem simAnd {k : Kx} {ta tb : TE} {ma mb : EM} (ha : SimE k ta ma) (hb : SimE k tb mb) : SimE k (tAndV ta tb) (evAnd ma mb) := by
  intro F ρ σ H Q f q
  unfold evAnd at q
  refine simTvB ha F ρ σ H (fun c H1 => if c = true then tb σ H1 Q else Q (.bl false) H1) f ((wpo_bind.mp q).mono fun a _ q => ?_)
  intro F1 H1 A1
  split at q
  · rename_i e
    rw [if_pos e]
    refine hb F1 a.2 σ H1 _ A1.fr (q.mono fun b _ q => ?_)
    intro v F2 H2 A2 R2
    exact q v F2 H2 (A1.trans A2) (R2.back A1)
  · rename_i e
    rw [if_neg e]
    exact q _ F1 H1 A1 (.bl _)
theorem simNot {k : Kx} {ta : TE} {ma : EM} (ha : SimE k ta ma) : SimE k (tNotV ta) (evNot ma) := by
  intro F ρ σ H Q f q
  unfold evNot at q
  refine simTvB ha F ρ σ H (fun c H1 => Q (.bl (!c)) H1) f ((wpo_bind.mp q).mono fun a _ q => ?_)
  intro F1 H1 A1
  exact q _ F1 H1 A1 (.bl _)
theorem simIf {k : Kx} {tt : TT} {ta tb : TE} {mt : TM} {ma mb : EM} (ht : SimT k tt mt) (ha : SimE k ta ma) (hb : SimE k tb mb) : SimE k (tIf tt ta tb) (evIf mt ma mb) := by
  intro F ρ σ H Q f q
  unfold evIf at q
  refine ht F ρ σ H _ f ((wpo_bind.mp q).mono fun a _ q => ?_)
  intro F1 H1 A1
  split at q
  · rename_i e
    rw [if_pos e]
    refine ha F1 a.2 σ H1 _ A1.fr (q.mono fun b _ q => ?_)
    intro v F2 H2 A2 R2
    exact q v F2 H2 (A1.trans A2) (R2.back A1)
  · rename_i e
    rw [if_neg e]
    refine hb F1 a.2 σ H1 _ A1.fr (q.mono fun b _ q => ?_)
    intro v F2 H2 A2 R2
    exact q v F2 H2 (A1.trans A2) (R2.back A1)
/-! chains a < b < c -/
def evChain (g g' : D → D → Option SV) (ma mb mc : EM) : EM := fun ρ => (ma ρ).bind fun a => (mb a.2).bind fun b => (rdD b.2 a.1).bind fun d1 => (rdD b.2 b.1).bind fun d2 => (g d1 d2).bind fun s => (toB s.d).bind fun c =>
  if c = true then (mc b.2).bind fun z => (rdD z.2 b.1).bind fun d2' => (rdD z.2 z.1).bind fun d3 => (g' d2' d3).bind fun s' => some (.sv s', z.2) else some (.sv (.val (.bool false)), b.2)
theorem simChain {k : Kx} {r r' : R2} {g g' : D → D → Option SV} {ta tb tc : TE} {ma mb mc : EM} (hr : OpSim k r g) (hr' : OpSim k r' g') (ha : SimE k ta ma) (hb : SimE k tb mb) (hc : SimE k tc mc) : SimE k (tChain r r' ta tb tc) (evChain g g' ma mb mc) := by
  intro F ρ σ H Q f h
  unfold evChain at h
  refine ha F ρ σ H _ f ((wpo_bind.mp h).mono fun a _ h => ?_)
  intro v F1 H1 A1 R1
  refine hb F1 a.2 σ H1 _ A1.fr ((wpo_bind.mp h).mono fun b _ h => ?_)
  intro u F2 H2 A2 R2
  have R1' := R1.step f A1 A2
  have R2' := R2.back A1
  have A12 := A1.trans A2
  have h := wpo_bind.mp h
  cases e1 : rdD b.2 a.1 with
  | none => rw [e1] at h; exact h.elim
  | some d1 =>
    rw [e1] at h
    have h := wpo_bind.mp h
    cases e2 : rdD b.2 b.1 with
    | none => rw [e2] at h; exact h.elim
    | some d2 =>
      rw [e2] at h
      refine hr F2 b.2 σ H2 v u d1 d2 _ A2.fr (R1'.rd A2.fr e1) (R2.rd A2.fr e2) ((wpo_bind.mp h).mono fun s _ h => ?_)
      intro z F3 H3 A3 R3
      have h := wpo_bind.mp h
      cases e3 : toB s.d with
      | none => rw [e3] at h; exact h.elim
      | some c =>
        rw [e3] at h
        have hs : s = .val (.bool c) := by
          cases s with
          | val d => cases d <;> simp [toB] at e3; rw [e3]
          | own o => cases o <;> simp [toB] at e3
        subst hs
        have hz : z = .bl c := by cases R3; rfl
        refine ⟨c, hz, ?_⟩
        have A123 := A12.trans A3
        have h : wpo (if c = true then (mc b.2).bind fun z => (rdD z.2 b.1).bind fun d2' => (rdD z.2 z.1).bind fun d3 => (g' d2' d3).bind fun s' => some (Rv.sv s', z.2) else some (.sv (.val (.bool false)), b.2)) _ := h
        by_cases ec : c = true
        · rw [if_pos ec] at h ⊢
          refine hc F3 b.2 σ H3 _ A3.fr ((wpo_bind.mp h).mono fun y _ h => ?_)
          intro w F4 H4 A4 R4
          have R2'' := R2'.step f A12 (A3.trans A4)
          have h := wpo_bind.mp h
          cases e4 : rdD y.2 b.1 with
          | none => rw [e4] at h; exact h.elim
          | some d4 =>
            rw [e4] at h
            have h := wpo_bind.mp h
            cases e5 : rdD y.2 y.1 with
            | none => rw [e5] at h; exact h.elim
            | some d5 =>
              rw [e5] at h
              refine hr' F4 y.2 σ H4 u w d4 d5 Q A4.fr (R2''.rd A4.fr e4) (R4.rd A4.fr e5) ((wpo_bind.mp h).mono fun s' _ h => ?_)
              intro x F5 H5 A5 R5
              exact h x F5 H5 ((A123.trans A4).trans A5) (R5.back (A123.trans A4))
        · rw [if_neg ec] at h ⊢
          exact h _ F3 H3 A123 (.bl _)
end Pv

/-! Pv5: statements, loops. -/
namespace Pv
open PySem PySem.Spec PySem.SeqAt L2

structure Ent where
  F : Hp
  H : Hp
  I : Addr → Prop
  pr : List (Nat × V)
structure SInv (k : Kx) (e : Ent) (ρ : Rho) (σ : L2.St) (F H : Hp) : Prop where
  fr : FR k F ρ σ H
  tr : Tr e.I e.F e.H F H
  ow : ∀ p, Own ρ σ p → e.I p ∨ e.H p = none
  pr : ∀ q ∈ e.pr, σ[q.1]? = some (some q.2)
inductive Fl where
  | nx | ret (r : Rv) | bk | ct
abbrev SM := Rho → Option (Fl × Rho)
abbrev excD (x : Str) (fs : List (Str × D)) : D := .dict ((.str x, .none) :: fs.map fun p => (.str p.1, p.2))
def ExcR (k : Kx) (F H : Hp) (x : Str) (fs : List (Str × D)) (cls : Value) (d : Option Addr) : Prop := ∃ vs : List V, cls = .ref (He.ga k.K x) ∧ RepL k F vs (fs.map (·.2)) ∧
  ((d = none ∧ fs = []) ∨ ∃ dd, fs ≠ [] ∧ d = some dd ∧ F dd = none ∧ H dd = some (.xd ((fs.map (·.1)).zip vs)))
def PostX (k : Kx) (e : Ent) (W : WX) (r : Rv) (ρ : Rho) : Prop := ∀ c fs, r = .sv (.val (excD c fs)) → ∀ cls d σ F H, SInv k e ρ σ F H → ExcR k F H c fs cls d → W cls d σ H
def Post (k : Kx) (e : Ent) (Wx : Option WX) (D : Ends) : Fl × Rho → Prop
  | (.nx, ρ) => ∀ σ F H, SInv k e ρ σ F H → D.nx σ H
  | (.ret r, ρ) => (∀ v σ F H, SInv k e ρ σ F H → RR k e.H F ρ σ H r v → D.rt v H) ∧ ∀ W, Wx = some W → PostX k e W r ρ
  | (.bk, ρ) => ∀ σ F H, SInv k e ρ σ F H → D.bk σ H
  | (.ct, ρ) => ∀ σ F H, SInv k e ρ σ F H → D.ct σ H
def SimS (k : Kx) (P : List Nat) (Wx : Option WX) (ts : TS) (m : SM) : Prop := ∀ (e : Ent) (ρ : Rho) (σ : L2.St) (F H : Hp) (D : Ends), (∀ q ∈ e.pr, q.1 ∈ P) → SInv k e ρ σ F H → wpo (m ρ) (Post k e Wx D) → ts D σ H
def SS (k : Kx) (P : List Nat) (Wx : Option WX) (X : Cx) (st : Stmt) (m : SM) : Prop := ∃ ts, PS X st ts ∧ SimS k P Wx ts m
def SSs (k : Kx) (P : List Nat) (Wx : Option WX) (X : Cx) (sts : List Stmt) (m : SM) : Prop := ∃ ts, PSs X sts ts ∧ SimS k P Wx ts m
section
variable {k : Kx} {P : List Nat} {Wx : Option WX} {e : Ent} {ρ ρ' : Rho} {σ : L2.St} {F H F' H' : Hp}
theorem SInv.aft (s : SInv k e ρ σ F H) (A : Aft k ρ σ F H ρ' F' H') : SInv k e ρ' σ F' H' :=
  ⟨A.fr, s.tr.trans A.tr s.ow, fun p h => s.ow p (A.ow p h), s.pr⟩
theorem SInv.back (s : SInv k e ρ σ F H) {r : Rv} {v : V} {ρ2 : Rho} {F2 H2 : Hp} (h : RR k H F2 ρ2 σ H2 r v) : RR k e.H F2 ρ2 σ H2 r v := by
  match r, h with
  | .sv (.val d), h => exact h
  | .sv (.own o), ⟨p, ho, e1, n, q⟩ =>
    refine ⟨p, ho, e1, ?_, q⟩
    cases z : e.H p with
    | none => rfl
    | some u =>
      obtain ⟨u', hu'⟩ := s.tr.there p u z
      rw [n] at hu'; cases hu'
  | .plc i, h => exact h

/-! ### storing to a slot -/
def stoS (P : List Nat) (i : Nat) (ρ : Rho) : Rv → Option Rho
  | .sv s => if i ∈ P then none else some (ρ.set i (some s))
  | .plc j => if i ∈ P then none else (frz1 ρ (.plc j)).bind fun a => some (a.2.set i (some (.val a.1)))
theorem get_set {α : Type} {l : List α} {i j : Nat} {x : α} (h : i ≠ j) : (l.set i x)[j]? = l[j]? := List.getElem?_set_ne h
theorem FR.setVal (f : FR k F ρ σ H) {i : Nat} {v : V} {d : D} (r : Rep k F v d) : FR k F (ρ.set i (some (.val d))) (σ.set i (some v)) H := by
  refine ⟨f.sub, by simpa using f.len, fun j d' q => ?_, fun j o' q => ?_, fun j l o1 o2 q e1 e2 e3 e4 => ?_⟩
  · rcases set_get q with ⟨rfl, h, hl⟩ | ⟨nj, h⟩
    · cases h; exact ⟨v, List.getElem?_set_self (f.len ▸ hl), r⟩
    · rw [get_set (Ne.symm nj)]; exact f.vals j d' h
  · rcases set_get q with ⟨_, h, _⟩ | ⟨nj, h⟩
    · cases h
    · rw [get_set (Ne.symm nj)]; exact f.owns j o' h
  · rcases set_get e1 with ⟨_, h, _⟩ | ⟨n1, h1⟩
    · cases h
    · rcases set_get e2 with ⟨_, h, _⟩ | ⟨n2, h2⟩
      · cases h
      · rw [get_set (Ne.symm n1)] at e3
        rw [get_set (Ne.symm n2)] at e4
        exact f.dist j l o1 o2 q h1 h2 e3 e4
theorem FR.setOwn (f : FR k F ρ σ H) {i : Nat} {p : Addr} {ho : HO} {o : OB} (hp : H p = some ho) (n : F p = none) (r : RepO k F p o ho) (no : ¬ Own ρ σ p) : FR k F (ρ.set i (some (.own o))) (σ.set i (some (.ref p))) H := by
  refine ⟨f.sub, by simpa using f.len, fun j d' q => ?_, fun j o' q => ?_, fun j l o1 o2 q e1 e2 e3 e4 => ?_⟩
  · rcases set_get q with ⟨_, h, _⟩ | ⟨nj, h⟩
    · cases h
    · rw [get_set (Ne.symm nj)]; exact f.vals j d' h
  · rcases set_get q with ⟨rfl, h, hl⟩ | ⟨nj, h⟩
    · cases h; exact ⟨p, ho, List.getElem?_set_self (f.len ▸ hl), hp, n, r⟩
    · rw [get_set (Ne.symm nj)]; exact f.owns j o' h
  · rcases set_get e1 with ⟨a1, b1, c1⟩ | ⟨n1, h1⟩
    · rcases set_get e2 with ⟨a2, b2, c2⟩ | ⟨n2, h2⟩
      · rw [a1, a2]
      · subst a1
        rw [List.getElem?_set_self (f.len ▸ c1)] at e3; cases e3
        rw [get_set (Ne.symm n2)] at e4
        exact absurd ⟨l, o2, h2, e4⟩ no
    · rcases set_get e2 with ⟨a2, b2, c2⟩ | ⟨n2, h2⟩
      · subst a2
        rw [List.getElem?_set_self (f.len ▸ c2)] at e4; cases e4
        rw [get_set (Ne.symm n1)] at e3
        exact absurd ⟨j, o1, h1, e3⟩ no
      · rw [get_set (Ne.symm n1)] at e3
        rw [get_set (Ne.symm n2)] at e4
        exact f.dist j l o1 o2 q h1 h2 e3 e4
theorem Own.of_setVal {i : Nat} {v : V} {d : D} {p : Addr} (h : Own (ρ.set i (some (.val d))) (σ.set i (some v)) p) : Own ρ σ p := by
  obtain ⟨j, o, e1, e2⟩ := h
  rcases set_get e1 with ⟨_, h, _⟩ | ⟨nj, h⟩
  · cases h
  · rw [get_set (Ne.symm nj)] at e2; exact ⟨j, o, h, e2⟩
theorem Own.of_setOwn {i : Nat} {q : Addr} {o : OB} {p : Addr} (h : Own (ρ.set i (some (.own o))) (σ.set i (some (.ref q))) p) : Own ρ σ p ∨ p = q := by
  obtain ⟨j, o', e1, e2⟩ := h
  rcases set_get e1 with ⟨rfl, h, _⟩ | ⟨nj, h⟩
  · rcases set_get e2 with ⟨_, h2, _⟩ | ⟨nn, _⟩
    · cases h2; exact .inr rfl
    · exact absurd rfl nn
  · rw [get_set (Ne.symm nj)] at e2; exact .inl ⟨j, o', h, e2⟩
theorem pr_set (hP : ∀ q ∈ e.pr, q.1 ∈ P) {i : Nat} {v : V} (hi : i ∉ P) (h : ∀ q ∈ e.pr, σ[q.1]? = some (some q.2)) : ∀ q ∈ e.pr, (σ.set i (some v))[q.1]? = some (some q.2) := fun q hq => by
  have ne : i ≠ q.1 := fun z => hi (z ▸ hP q hq)
  rw [get_set ne]; exact h q hq
theorem sto_ok (hP : ∀ q ∈ e.pr, q.1 ∈ P) (s : SInv k e ρ σ F H) {i : Nat} {r : Rv} {v : V} (R : RR k e.H F ρ σ H r v) (no : ∀ o, r = .sv (.own o) → ∀ p, v = .ref p → ¬ Own ρ σ p) (h : stoS P i ρ r = some ρ') :
    ∃ F', SInv k e ρ' (σ.set i (some v)) F' H ∧ Sub F F' := by
  match r, R with
  | .sv (.val d), R =>
    simp only [stoS] at h
    split at h
    · cases h
    · rename_i hi
      cases h
      exact ⟨F, ⟨s.fr.setVal R, s.tr, fun p z => s.ow p z.of_setVal, pr_set hP hi s.pr⟩, Sub.refl _⟩
  | .sv (.own o), ⟨p, ho, e1, n, h1, n1, q⟩ =>
    simp only [stoS] at h
    split at h
    · cases h
    · rename_i hi
      cases h
      subst e1
      refine ⟨F, ⟨s.fr.setOwn h1 n1 q (no o rfl p rfl), s.tr, fun a z => ?_, pr_set hP hi s.pr⟩, Sub.refl _⟩
      rcases z.of_setOwn with z | rfl
      · exact s.ow a z
      · exact .inr n
  | .plc j, ⟨e1, sv, h1⟩ =>
    simp only [stoS] at h
    split at h
    · cases h
    · rename_i hi
      obtain ⟨a, e2, e3⟩ := Option.bind_eq_some_iff.mp h
      cases e3
      obtain ⟨F1, A1, s1, r1, _⟩ := frz1_ok s.fr (Aft.refl s.fr) (r := .plc j) (v := v) ⟨e1, sv, h1⟩ e2
      have s' := s.aft A1
      exact ⟨F1, ⟨s'.fr.setVal r1, s'.tr, fun p z => s'.ow p z.of_setVal, pr_set hP hi s'.pr⟩, s1⟩
end

/-! ### statements -/
section
variable {k : Kx} {P : List Nat} {Wx : Option WX}
def exAsg (P : List Nat) (i : Nat) (me : EM) : SM := fun ρ => (me ρ).bind fun a => (stoS P i a.2 a.1).bind fun ρ' => some (.nx, ρ')
theorem simAsg {te : TE} {me : EM} {i : Nat} (he : SimE k te me) : SimS k P Wx (tAsg te (gName i)) (exAsg P i me) := by
  intro e ρ σ F H D hP s h
  unfold exAsg at h
  refine he F ρ σ H _ s.fr ((wpo_bind.mp h).mono fun a _ h => ?_)
  intro v F1 H1 A1 R1
  have h := wpo_bind.mp h
  cases e1 : stoS P i a.2 a.1 with
  | none => rw [e1] at h; exact h.elim
  | some ρ' =>
    rw [e1] at h
    have s1 := s.aft A1
    obtain ⟨F', s2, _⟩ := sto_ok hP s1 (s.back R1) (fun o ho p hp z => by
      rw [ho] at R1
      obtain ⟨q, _, e2, n, _⟩ := R1
      rw [hp] at e2; cases e2
      obtain ⟨u, hu⟩ := s.fr.own_some (A1.ow p z)
      rw [n] at hu; cases hu) e1
    exact h _ F' H1 s2
def exRet (me : EM) : SM := fun ρ => (me ρ).bind fun a => some (.ret a.1, a.2)
theorem simRet {te : TE} {me : EM} (he : SimE k te me) : SimS k P Wx (tRet te) (exRet me) := by
  intro e ρ σ F H D hP s h
  unfold exRet at h
  refine he F ρ σ H _ s.fr ((wpo_bind.mp h).mono fun a _ h => ?_)
  intro v F1 H1 A1 R1
  exact h.1 v σ F1 H1 (s.aft A1) (s.back R1)
def exRetN : SM := fun ρ => some (.ret (.sv (.val .none)), ρ)
def exExpr (me : EM) : SM := fun ρ => (me ρ).bind fun a => some (.nx, a.2)
theorem simExpr {te : TE} {me : EM} (he : SimE k te me) : SimS k P Wx (tDrop te) (exExpr me) := by
  intro e ρ σ F H D hP s h
  unfold exExpr at h
  refine he F ρ σ H _ s.fr ((wpo_bind.mp h).mono fun a _ h => ?_)
  intro v F1 H1 A1 R1
  exact h σ F1 H1 (s.aft A1)
def exPass : SM := fun ρ => some (.nx, ρ)
theorem simPass : SimS k P Wx tNext exPass := fun e ρ σ F H D hP s h => h σ F H s
def exBad : SM := fun _ => none
theorem simBad {ts : TS} : SimS k P Wx ts exBad := fun e ρ σ F H D hP s h => h.elim
def exSeq (m n : SM) : SM := fun ρ => (m ρ).bind fun a => match a.1 with
  | .nx => n a.2
  | fl => some (fl, a.2)
theorem simSeq {t u : TS} {m n : SM} (hm : SimS k P Wx t m) (hn : SimS k P Wx u n) : SimS k P Wx (tSeq t u) (exSeq m n) := by
  intro e ρ σ F H D hP s h
  unfold exSeq at h
  refine hm e ρ σ F H _ hP s ((wpo_bind.mp h).mono fun a _ h => ?_)
  obtain ⟨fl, ρ1⟩ := a
  cases fl with
  | nx => exact fun σ1 F1 H1 s1 => hn e ρ1 σ1 F1 H1 D hP s1 h
  | ret r => exact h
  | bk => exact h
  | ct => exact h
def exIf (mt : TM) (m n : SM) : SM := fun ρ => (mt ρ).bind fun a => if a.1 = true then m a.2 else n a.2
theorem simIfS {tt : TT} {t u : TS} {mt : TM} {m n : SM} (ht : SimT k tt mt) (hm : SimS k P Wx t m) (hn : SimS k P Wx u n) : SimS k P Wx (tIfS tt t u) (exIf mt m n) := by
  intro e ρ σ F H D hP s h
  unfold exIf at h
  refine ht F ρ σ H _ s.fr ((wpo_bind.mp h).mono fun a _ h => ?_)
  intro F1 H1 A1
  split at h
  · rename_i c
    rw [if_pos c]; exact hm e a.2 σ F1 H1 D hP (s.aft A1) h
  · rename_i c
    rw [if_neg c]; exact hn e a.2 σ F1 H1 D hP (s.aft A1) h
def kill (ks : List Nat) (ρ : Rho) : Rho := ks.foldl (fun ρ i => ρ.set i none) ρ
theorem FR.kill1 {F H : Hp} {ρ : Rho} {σ : L2.St} (f : FR k F ρ σ H) (i : Nat) : FR k F (ρ.set i none) σ H := by
  refine ⟨f.sub, by simpa using f.len, fun j d' q => ?_, fun j o' q => ?_, fun j l o1 o2 q e1 e2 e3 e4 => ?_⟩
  · rcases set_get q with ⟨_, h, _⟩ | ⟨nj, h⟩
    · cases h
    · exact f.vals j d' h
  · rcases set_get q with ⟨_, h, _⟩ | ⟨nj, h⟩
    · cases h
    · exact f.owns j o' h
  · rcases set_get e1 with ⟨_, h, _⟩ | ⟨n1, h1⟩
    · cases h
    · rcases set_get e2 with ⟨_, h, _⟩ | ⟨n2, h2⟩
      · cases h
      · exact f.dist j l o1 o2 q h1 h2 e3 e4
theorem Own.kill1 {ρ : Rho} {σ : L2.St} {i : Nat} {p : Addr} (h : Own (ρ.set i none) σ p) : Own ρ σ p := by
  obtain ⟨j, o, e1, e2⟩ := h
  rcases set_get e1 with ⟨_, h, _⟩ | ⟨nj, h⟩
  · cases h
  · exact ⟨j, o, h, e2⟩
theorem SInv.kill {e : Ent} {σ : L2.St} {F H : Hp} : ∀ (ks : List Nat) {ρ : Rho}, SInv k e ρ σ F H → SInv k e (kill ks ρ) σ F H
  | [], _, s => s
  | i :: ks, ρ, s => SInv.kill ks (ρ := ρ.set i none) ⟨s.fr.kill1 i, s.tr, fun p h => s.ow p h.kill1, s.pr⟩
def exKill (ks : List Nat) (m : SM) : SM := fun ρ => (m ρ).bind fun a => match a.1 with
  | .ret r => some (.ret r, a.2)
  | fl => some (fl, kill ks a.2)
theorem simKill {t : TS} {m : SM} (ks : List Nat) (hm : SimS k P Wx t m) : SimS k P Wx t (exKill ks m) := by
  intro e ρ σ F H D hP s h
  unfold exKill at h
  refine hm e ρ σ F H _ hP s ((wpo_bind.mp h).mono fun a _ h => ?_)
  obtain ⟨fl, ρ1⟩ := a
  cases fl with
  | nx => exact fun σ1 F1 H1 s1 => h σ1 F1 H1 (s1.kill ks)
  | ret r => exact h
  | bk => exact fun σ1 F1 H1 s1 => h σ1 F1 H1 (s1.kill ks)
  | ct => exact fun σ1 F1 H1 s1 => h σ1 F1 H1 (s1.kill ks)
/-! while -/
end
end Pv

/-! Pv6: what is walked; for; comprehensions. -/
namespace Pv
open PySem PySem.Spec PySem.SeqAt L2

/-! ### a list or a tuple -/
def iSeq (K : PySem.W.Frag) (tl : TE) : TI := fun σ H R => tl σ H fun x H1 => (∃ a, x = .ref a ∧ (∃ xs, SqL K H1 a xs) ∧ R (Itl K a) H1) ∨ (∃ a, x = .ref a ∧ (∃ xs, SqT K H1 a xs) ∧ R (Itt K a) H1)
theorem pi_seq {X : Cx} {tg l : Expr} {tl : TE} (hl : PE X l tl) : PI X tg l (iSeq X.K tl) := by
  constructor
  intro pins s σ H R I w
  refine thn (hl.run pins s σ H _ I w) fun u t g => ?_
  obtain ⟨x, G, J, rx, ⟨a, ea, ⟨xs, ha⟩, w⟩ | ⟨a, ea, ⟨xs, ha⟩, w⟩⟩ := g
  · subst ea
    obtain rfl : u = Value.ref a := rx
    obtain ⟨_, _, hp, _⟩ := J.list ha
    exact wpAny_pyIter_list hp.isList (pi_one (tk := t.toks) J _ (turn_list a _) ⟨_, Heap.get?_push_size _ rfl, rfl, rfl⟩ w)
  · subst ea
    obtain rfl : u = Value.ref a := rx
    obtain ⟨us, _, hp, _⟩ := J.tuple ha
    exact wpAny_pyIter_tuple (items := us.toArray) hp (pi_one (tk := t.toks) J _ (turn_tuple a _) ⟨_, Heap.get?_push_size _ rfl, rfl, rfl⟩ w)

/-! ### walks give data -/
def LkK (F H H' : Hp) : Prop := ∀ a od u, F a ≠ none → H a = some (.frz od u) → H' a = some (.frz od u)
def YOk (k : Kx) (F H : Hp) (x : V) (H' : Hp) (d : D) : Prop := (H' = H ∧ Rep k F x d) ∨ (∃ T o, H T = none ∧ H' = upd H T o ∧ Rep k (upd F T o) x d) ∨ (∃ T ws, H' = H ∧ H T = some (.tup ws) ∧ Rep k (upd F T (.tup ws)) x d) ∨ ∃ q qs T o, H q = some (.tup qs) ∧ H T = none ∧ H' = upd H T o ∧ Rep k (upd (upd F q (.tup qs)) T o) x d
theorem FR.adm {k : Kx} {F : Hp} {ρ : Rho} {σ : L2.St} {H : Hp} (f : FR k F ρ σ H) {T : Addr} {ws : List V} (h : H T = some (.tup ws)) : Sub F (upd F T (.tup ws)) ∧ FR k (upd F T (.tup ws)) ρ σ H := by
  have sb : Sub F (upd F T (.tup ws)) := fun a o e => by
    by_cases ha : a = T
    · subst ha
      obtain ⟨o', e', z⟩ := f.sub a o e
      rw [h] at e'; cases e'
      exact ⟨_, upd_same, z⟩
    · exact ⟨o, by rw [upd_ne ha]; exact e, rfl⟩
  refine ⟨sb, fun a o e => ?_, f.len, fun i d e => let ⟨v, q, r⟩ := f.vals i d e; ⟨v, q, r.mono sb⟩, fun i o e => ?_, f.dist⟩
  · by_cases ha : a = T
    · subst ha; rw [upd_same] at e; cases e; exact ⟨_, h, rfl⟩
    · rw [upd_ne ha] at e; exact f.sub a o e
  · obtain ⟨p, ho, q, hp, n, r⟩ := f.owns i o e
    have ne : p ≠ T := fun z => by
      subst z; rw [h] at hp; cases hp; exact r.nt.elim
    exact ⟨p, ho, q, hp, by rw [upd_ne ne]; exact n, r.mono sb⟩
theorem Aft.adm {k : Kx} {F : Hp} {ρ : Rho} {σ : L2.St} {H : Hp} (f : FR k F ρ σ H) {T : Addr} {ws : List V} (h : H T = some (.tup ws)) : Aft k ρ σ F H ρ (upd F T (.tup ws)) H :=
  ⟨(f.adm h).2, ⟨(f.adm h).1, fun _ _ e _ => e, fun p o e m n _ => by
    have ne : p ≠ T := fun z => by subst z; rw [h] at e; cases e; exact m.elim
    rw [upd_ne ne]; exact n, fun p o e => ⟨o, e⟩⟩, fun _ h => h, fun _ s h => ⟨s, h⟩⟩
theorem YOk.aft {k : Kx} {F : Hp} {ρ : Rho} {σ : L2.St} {H H' : Hp} {x : V} {d : D} (y : YOk k F H x H' d) (f : FR k F ρ σ H) : ∃ F', Aft k ρ σ F H ρ F' H' ∧ Rep k F' x d := by
  rcases y with ⟨rfl, r⟩ | ⟨T, o, n, rfl, r⟩ | ⟨T, ws, rfl, e, r⟩ | ⟨q, qs, T, o, e, n, rfl, r⟩
  · exact ⟨F, Aft.refl f, r⟩
  · exact ⟨_, Aft.newF f n, r⟩
  · exact ⟨_, Aft.adm f e, r⟩
  · exact ⟨_, (Aft.adm f e).trans (Aft.newF (f.adm e).2 n), r⟩
structure WalkD (k : Kx) (J : It) (F : Hp) (ds : List D) : Prop where
  w : ∃ G Y, Walk J ds.length G Y ∧ (∀ F' H', Sub F F' → Sub F' H' → G H') ∧
    ∀ (i : Nat) (d : D) (F' H' : Hp) (x : V) (H'' : Hp), ds[i]? = some d → Sub F F' → Sub F' H' → Y i H' x H'' → YOk k F' H' x H'' d
structure WalkL (k : Kx) (J : It) (F H : Hp) (ds : List D) : Prop where
  w : ∃ G Y, Walk J ds.length G Y ∧ (∀ F' H', Sub F F' → Sub F' H' → LkK F H H' → G H') ∧
    ∀ (i : Nat) (d : D) (F' H' : Hp) (x : V) (H'' : Hp), ds[i]? = some d → Sub F F' → Sub F' H' → LkK F H H' → Y i H' x H'' → YOk k F' H' x H'' d
theorem WalkD.l {k : Kx} {J : It} {F H : Hp} {ds : List D} (w : WalkD k J F ds) : WalkL k J F H ds :=
  let ⟨G, Y, a, b, c⟩ := w.w
  ⟨G, Y, a, fun F' H' s1 s2 _ => b F' H' s1 s2, fun i d F' H' x H'' e s1 s2 _ y => c i d F' H' x H'' e s1 s2 y⟩
abbrev IM := Rho → Option (List D × Rho)
def SimI (k : Kx) (wi : TI) (m : IM) : Prop := ∀ (F : Hp) (ρ : Rho) (σ : L2.St) (H : Hp) (R : It → Hp → Prop), FR k F ρ σ H →
  wpo (m ρ) (fun x => ∀ J F' H', Aft k ρ σ F H x.2 F' H' → WalkD k J F' x.1 → R J H') → wi σ H R
def seqD : D → Option (List D)
  | .list xs => some xs
  | .tuple xs => some xs
  | .dict [(.bool true, .list xs)] => some xs
  | _ => none
def ivSeq (me : EM) : IM := fun ρ => (me ρ).bind fun a => (frz1 a.2 a.1).bind fun b => (seqD b.1).bind fun xs => some (xs, b.2)
theorem walkD_list {k : Kx} {F : Hp} {a : Addr} {vs : List V} {xs : List D} (h : SqL k.K F a vs) (r : RepL k F vs xs) : WalkD k (Itl k.K a) F xs := by
  refine ⟨fun H => SqL k.K H a vs, YAt vs, r.length ▸ walk_list, fun F' H' s1 s2 => s2.sqL (s1.sqL h), fun i d F' H' x H'' e s1 s2 y => .inl ⟨y.1, ?_⟩⟩
  obtain ⟨v, e1, r1⟩ := r.get e
  rw [y.2] at e1; cases e1
  exact r1.mono s1
theorem walkD_tup {k : Kx} {F : Hp} {a : Addr} {vs : List V} {xs : List D} (h : SqT k.K F a vs) (r : RepL k F vs xs) : WalkD k (Itt k.K a) F xs := by
  refine ⟨fun H => SqT k.K H a vs, YAt vs, r.length ▸ walk_tup, fun F' H' s1 s2 => s2.sqT (s1.sqT h), fun i d F' H' x H'' e s1 s2 y => .inl ⟨y.1, ?_⟩⟩
  obtain ⟨v, e1, r1⟩ := r.get e
  rw [y.2] at e1; cases e1
  exact r1.mono s1
theorem simSeqI {k : Kx} {tl : TE} {me : EM} (he : SimE k tl me) : SimI k (iSeq k.K tl) (ivSeq me) := by
  intro F ρ σ H R f h
  unfold ivSeq at h
  refine he F ρ σ H _ f ((wpo_bind.mp h).mono fun a _ h => ?_)
  intro v F1 H1 A1 R1
  have h := wpo_bind.mp h
  cases e1 : frz1 a.2 a.1 with
  | none => rw [e1] at h; exact h.elim
  | some b =>
    rw [e1] at h
    obtain ⟨F2, A2, s2, r2, _⟩ := frz1_ok f A1 R1 e1
    have h := wpo_bind.mp h
    obtain ⟨d, ρ2⟩ := b
    dsimp only at h r2 A2
    unfold seqD at h
    split at h
    · cases r2 with
      | lst h2 r3 => exact .inl ⟨_, rfl, ⟨_, .inl (.inl (A2.fr.sub.ex h2))⟩, h _ F2 H1 A2 (walkD_list (.inl (.inl h2)) r3)⟩
    · cases r2 with
      | tup h2 r3 => exact .inr ⟨_, rfl, ⟨_, A2.fr.sub.sqT (SqT.of h2)⟩, h _ F2 H1 A2 (walkD_tup (SqT.of h2) r3)⟩
    · cases r2 with
      | fls h2 r3 => exact .inl ⟨_, rfl, ⟨_, A2.fr.sub.sqL h2.sq⟩, h _ F2 H1 A2 (walkD_list h2.sq r3)⟩
    · exact h.elim
/-! range -/
def rngD (lo : Int) (n : Nat) : List D := (List.range n).map fun (i : Nat) => .int (lo + (i : Int))
theorem walkD_range {k : Kx} {F : Hp} {lo : Int} {n : Nat} : WalkD k (Itr lo n) F (rngD lo n) := by
  have hl : (rngD lo n).length = n := by simp [rngD]
  refine ⟨fun _ => True, YFn fun i => .int (lo + i), by rw [hl]; exact walk_range, fun _ _ _ _ => trivial, fun i d F' H' x H'' e s1 s2 y => .inl ⟨y.1, ?_⟩⟩
  rw [y.2]
  have hi : i < n := by
    have := (List.getElem?_eq_some_iff.mp e).1
    omega
  simp [rngD, hi] at e
  rw [← e]
  exact .int _
def big62 (i : Int) : Bool := Nat.ble i.natAbs 4611686018427387903
theorem big62_ok {i : Int} (h : big62 i = true) : -(2 ^ 62) ≤ i ∧ i < 2 ^ 62 := by
  simp [big62] at h
  omega
def rng1 : List D → Option (List D)
  | [.int j] => if big62 j = true then some (rngD 0 j.toNat) else none
  | _ => none
def rng2 : List D → Option (List D)
  | [.int i, .int j] => if (big62 i && big62 j) = true then some (rngD i (j - i).toNat) else none
  | _ => none
def ivArgs (g : List D → Option (List D)) (ma : AM) : IM := fun ρ => (ma ρ).bind fun a => (rdAll a.2 a.1).bind fun ds => (g ds).bind fun xs => some (xs, a.2)
theorem simRng1 {k : Kx} {ta : TA} {ma : AM} (ha : SimA k ta ma) : SimI k (iRng1 ta) (ivArgs rng1 ma) := by
  intro F ρ σ H R f h
  unfold ivArgs at h
  refine ha F ρ σ H _ f ((wpo_bind.mp h).mono fun a _ h => ?_)
  intro vs F1 H1 A1 R1
  have h := wpo_bind.mp h
  cases e1 : rdAll a.2 a.1 with
  | none => rw [e1] at h; exact h.elim
  | some ds =>
    rw [e1] at h
    have rd := R1.rd A1.fr e1
    replace h : wpo (rng1 ds) _ := wpo_bind.mp h
    unfold rng1 at h
    split at h
    · rename_i j
      split at h
      · rename_i hb
        replace hb := big62_ok hb
        cases rd with
        | cons r1 r2 =>
          cases r2
          rw [r1.int]
          exact ⟨j, rfl, hb.1, hb.2, h _ F1 H1 A1 walkD_range⟩
      · exact h.elim
    · exact h.elim
theorem simRng2 {k : Kx} {ta : TA} {ma : AM} (ha : SimA k ta ma) : SimI k (iRng2 ta) (ivArgs rng2 ma) := by
  intro F ρ σ H R f h
  unfold ivArgs at h
  refine ha F ρ σ H _ f ((wpo_bind.mp h).mono fun a _ h => ?_)
  intro vs F1 H1 A1 R1
  have h := wpo_bind.mp h
  cases e1 : rdAll a.2 a.1 with
  | none => rw [e1] at h; exact h.elim
  | some ds =>
    rw [e1] at h
    have rd := R1.rd A1.fr e1
    replace h : wpo (rng2 ds) _ := wpo_bind.mp h
    unfold rng2 at h
    split at h
    · rename_i i j
      split at h
      · rename_i hb
        rw [Bool.and_eq_true] at hb
        replace hb := And.intro (big62_ok hb.1) (big62_ok hb.2)
        cases rd with
        | cons r1 r2 =>
          cases r2 with
          | cons r2 r3 =>
            cases r3
            rw [r1.int, r2.int]
            exact ⟨i, j, rfl, ⟨hb.1.1, hb.1.2, hb.2.1, hb.2.2⟩, h _ F1 H1 A1 walkD_range⟩
      · exact h.elim
    · exact h.elim

/-! ### targets -/
abbrev GM := D → Rho → Option Rho
def Sls (ρ ρ' : Rho) : Prop := ∀ (i : Nat) (s : SV), ρ[i]? = some (some s) → ∃ s', ρ'[i]? = some (some s')
def Agr (ts : List Nat) (σ σ' : L2.St) : Prop := σ'.length = σ.length ∧ ∀ j : Nat, j ∉ ts → σ'[j]? = σ[j]?
def SimG (k : Kx) (P ts : List Nat) (g : TG) (m : GM) : Prop := ∀ (e : Ent) (ρ : Rho) (σ : L2.St) (F H : Hp) (v : V) (d : D) (Q : L2.St → Hp → Prop), (∀ q ∈ e.pr, q.1 ∈ P) → SInv k e ρ σ F H → Rep k F v d →
  wpo (m d ρ) (fun ρ' => ∀ σ', SInv k e ρ' σ' F H → Agr ts σ σ' → (∀ p, Own ρ' σ' p → Own ρ σ p) → Sls ρ ρ' → Q σ' H) → g v σ H Q
def tgName (P : List Nat) (i : Nat) : GM := fun d ρ => if i ∈ P then none else some (ρ.set i (some (.val d)))
theorem simGName {k : Kx} {P : List Nat} {i : Nat} : SimG k P [i] (gName i) (tgName P i) := by
  intro e ρ σ F H v d Q hP s r h
  unfold tgName at h
  split at h
  · exact h.elim
  · rename_i hi
    exact h _ ⟨s.fr.setVal r, s.tr, fun p z => s.ow p z.of_setVal, pr_set hP hi s.pr⟩ ⟨by simp, fun j hj => get_set fun z => hj (by simp [z])⟩ (fun p z => z.of_setVal) slots_set
abbrev GsM := List D → Rho → Option Rho
def SimGs (k : Kx) (P ts : List Nat) (g : TGs) (m : GsM) : Prop := ∀ (e : Ent) (ρ : Rho) (σ : L2.St) (F H : Hp) (vs : List V) (ds : List D) (Q : L2.St → Hp → Prop), (∀ q ∈ e.pr, q.1 ∈ P) → SInv k e ρ σ F H → RepL k F vs ds →
  wpo (m ds ρ) (fun ρ' => ∀ σ', SInv k e ρ' σ' F H → Agr ts σ σ' → (∀ p, Own ρ' σ' p → Own ρ σ p) → Sls ρ ρ' → Q σ' H) → g vs σ H Q
def tgNil : GsM := fun ds ρ => match ds with
  | [] => some ρ
  | _ => none
def tgCons (m : GM) (n : GsM) : GsM := fun ds ρ => match ds with
  | d :: r => (m d ρ).bind fun ρ1 => n r ρ1
  | [] => none
theorem simGsNil {k : Kx} {P : List Nat} : SimGs k P [] gNil tgNil := by
  intro e ρ σ F H vs ds Q hP s r h
  unfold tgNil at h
  cases r with
  | nil => exact ⟨rfl, h σ s ⟨rfl, fun _ _ => rfl⟩ (fun _ z => z) fun _ s h => ⟨s, h⟩⟩
  | cons => exact h.elim
theorem simGsCons {k : Kx} {P ts us : List Nat} {g : TG} {u : TGs} {m : GM} {n : GsM} (h1 : SimG k P ts g m) (h2 : SimGs k P us u n) : SimGs k P (ts ++ us) (gCons g u) (tgCons m n) := by
  intro e ρ σ F H vs ds Q hP s r h
  unfold tgCons at h
  cases r with
  | nil => exact h.elim
  | cons r1 r2 =>
    refine ⟨_, _, rfl, h1 e ρ σ F H _ _ _ hP s r1 ((wpo_bind.mp h).mono fun ρ1 _ h => ?_)⟩
    intro σ' s' a1 o1 l1
    refine h2 e ρ1 σ' F H _ _ Q hP s' r2 (h.mono fun ρ2 _ h => ?_)
    intro σ2 s2 a2 o2 l2
    exact h σ2 s2 ⟨a2.1.trans a1.1, fun j hj => (a2.2 j fun z => hj (List.mem_append_right _ z)).trans (a1.2 j fun z => hj (List.mem_append_left _ z))⟩ (fun p z => o1 p (o2 p z)) fun i s h => let ⟨s', h'⟩ := l1 i s h; l2 i s' h'
def tgTup (n : Nat) (m : GsM) : GM := fun d ρ => match d with
  | .tuple xs => if xs.length = n then m xs ρ else none
  | _ => none
theorem simGTup {k : Kx} {P ts : List Nat} {n : Nat} {g : TGs} {m : GsM} (h1 : SimGs k P ts g m) : SimG k P ts (gTup k.K n g) (tgTup n m) := by
  intro e ρ σ F H v d Q hP s r h
  unfold tgTup at h
  split at h
  · split at h
    · rename_i hl
      cases r with
      | tup h2 r3 => exact ⟨_, _, rfl, s.fr.sub.sqT (SqT.of h2), by rw [r3.length]; exact hl, h1 e ρ σ F H _ _ Q hP s r3 h⟩
    · exact h.elim
  · exact h.elim

/-! ### for -/
def goFor (mg : GM) (mb : SM) : List D → SM
  | [], ρ => some (.nx, ρ)
  | d :: ds, ρ => (mg d ρ).bind fun ρ1 => (mb ρ1).bind fun b => (match b.1 with
      | .nx => goFor mg mb ds b.2
      | .ct => goFor mg mb ds b.2
      | .bk => some (.nx, b.2)
      | .ret r => some (.ret r, b.2))
def exFor (mi : IM) (mg : GM) (mb : SM) : SM := fun ρ => (mi ρ).bind fun a => goFor mg mb a.1 a.2
theorem SInv.newF {k : Kx} {e : Ent} {ρ : Rho} {σ : L2.St} {F H : Hp} {T : Addr} {o : HO} (s : SInv k e ρ σ F H) (h : H T = none) : SInv k e ρ σ (upd F T o) (upd H T o) := s.aft (Aft.newF s.fr h)
abbrev Ent.new (e : Ent) (ρ : Rho) (σ : L2.St) (F H : Hp) : Ent := ⟨F, H, Own ρ σ, e.pr⟩
section
variable {k : Kx} {e : Ent} {ρ ρ' : Rho} {σ σ' : L2.St} {F H F' H' : Hp}
theorem SInv.fresh (s : SInv k e ρ σ F H) : SInv k (e.new ρ σ F H) ρ σ F H := ⟨s.fr, Tr.refl, fun p h => .inl h, s.pr⟩
theorem SInv.unfresh (s : SInv k e ρ σ F H) (s' : SInv k (e.new ρ σ F H) ρ' σ' F' H') : SInv k e ρ' σ' F' H' :=
  ⟨s'.fr, s.tr.trans s'.tr s.ow, fun p h => (s'.ow p h).elim (s.ow p) fun z => .inr (by
    cases q : e.H p with
    | none => rfl
    | some u => obtain ⟨u', hu⟩ := s.tr.there p u q; exact absurd hu (by rw [show H p = none from z]; simp)), s'.pr⟩
theorem SInv.backR (s : SInv k e ρ σ F H) {r : Rv} {v : V} (h : RR k H F' ρ' σ' H' r v) : RR k e.H F' ρ' σ' H' r v := by
  match r, h with
  | .sv (.val d), h => exact h
  | .sv (.own o), ⟨p, ho, e1, n, q⟩ =>
    refine ⟨p, ho, e1, ?_, q⟩
    cases z : e.H p with
    | none => rfl
    | some u => obtain ⟨u', hu'⟩ := s.tr.there p u z; rw [n] at hu'; cases hu'
  | .plc i, h => exact h
theorem Post.fresh (s : SInv k e ρ σ F H) {Wx : Option WX} {D : Ends} : ∀ {x : Fl × Rho}, Post k e Wx D x → Post k (e.new ρ σ F H) Wx D x
  | (.nx, _), h => fun σ' F' H' s' => h σ' F' H' (s.unfresh s')
  | (.ret _, _), h => ⟨fun v σ' F' H' s' r => h.1 v σ' F' H' (s.unfresh s') (s.backR r), fun W hW c fs er cls d σ' F' H' s' x => h.2 W hW c fs er cls d σ' F' H' (s.unfresh s') x⟩
  | (.bk, _), h => fun σ' F' H' s' => h σ' F' H' (s.unfresh s')
  | (.ct, _), h => fun σ' F' H' s' => h σ' F' H' (s.unfresh s')
end
theorem simFor_at {k : Kx} {P ts : List Nat} {Wx : Option WX} {wi : TI} {g : TG} {tb : TS} {mi : IM} {mg : GM} {mb : SM} (hg : SimG k P ts g mg) (hb : SimS k P Wx tb mb) {e : Ent} {ρ : Rho} {σ : L2.St} {F H : Hp} {D : Ends} (hP : ∀ q ∈ e.pr, q.1 ∈ P) (s : SInv k e ρ σ F H)
    (hi : ∀ R : It → Hp → Prop, wpo (mi ρ) (fun x => ∀ J F' H', Aft k ρ σ F H x.2 F' H' → WalkL k J F' H' x.1 → R J H') → wi σ H R) (h : wpo (exFor mi mg mb ρ) (Post k e Wx D)) : tFor wi g tb D σ H := by
  unfold exFor at h
  refine hi _ ((wpo_bind.mp h).mono fun a _ h => ?_)
  intro J F1 H1 A1 W
  obtain ⟨G, Y, w, hG, hY⟩ := W.w
  have s0 : SInv k e a.2 σ F1 H1 := s.aft A1
  let e0 : Ent := e.new a.2 σ F1 H1
  have lk : ∀ {ρ' : Rho} {σ' : L2.St} {F' H' : Hp}, SInv k e0 ρ' σ' F' H' → LkK F1 H1 H' := fun {ρ' σ' F' H'} s' b od u h1 h2 => s'.tr.keep b _ h2 fun z => h1 (s0.fr.own_none z)
  refine for_it w (fun i σ H => ∃ ρ F, SInv k e0 ρ σ F H ∧ wpo (goFor mg mb (a.1.drop i) ρ) (Post k e0 Wx D)) ⟨a.2, F1, s0.fresh, h.mono fun _ _ => Post.fresh s0⟩ (fun i σ H hi ⟨ρ, F, s', _⟩ => hG F H s'.tr.sub s'.fr.sub (lk s')) ?_ ?_
  · rintro i x σ H H' hi ⟨ρ, F, s', h⟩ y
    have e1 : a.1[i]? = some a.1[i] := List.getElem?_eq_getElem hi
    rw [List.drop_eq_getElem_cons hi] at h
    unfold goFor at h
    have fin : ∀ (F2 H2 : Hp), SInv k e0 ρ σ F2 H2 → Rep k F2 x a.1[i] → g x σ H2 fun σ2 H2 => tb { D with nx := fun σ H => ∃ ρ F, SInv k e0 ρ σ F H ∧ wpo (goFor mg mb (a.1.drop (i + 1)) ρ) (Post k e0 Wx D), ct := fun σ H => ∃ ρ F, SInv k e0 ρ σ F H ∧ wpo (goFor mg mb (a.1.drop (i + 1)) ρ) (Post k e0 Wx D), bk := D.nx } σ2 H2 := by
      intro F2 H2 s2 rp
      refine hg e0 ρ σ F2 H2 x _ _ hP s2 rp ((wpo_bind.mp h).mono fun ρ1 _ h => ?_)
      intro σ3 s3 _ _ _
      refine hb e0 ρ1 σ3 F2 H2 _ hP s3 ((wpo_bind.mp h).mono fun b _ h => ?_)
      obtain ⟨fl, ρ2⟩ := b
      cases fl with
      | nx => exact fun σ1 F1 H1 s1 => ⟨ρ2, F1, s1, h⟩
      | ret r => exact h
      | bk => exact h
      | ct => exact fun σ1 F1 H1 s1 => ⟨ρ2, F1, s1, h⟩
    obtain ⟨F2, A2, rp⟩ := (hY i _ F H x H' e1 s'.tr.sub s'.fr.sub (lk s') y).aft s'.fr
    exact fin F2 H' (s'.aft A2) rp
  · rintro σ H ⟨ρ, F, s', h⟩
    rw [List.drop_length] at h
    exact h σ F H s'
theorem simFor {k : Kx} {P ts : List Nat} {Wx : Option WX} {wi : TI} {g : TG} {tb : TS} {mi : IM} {mg : GM} {mb : SM} (hi : SimI k wi mi) (hg : SimG k P ts g mg) (hb : SimS k P Wx tb mb) : SimS k P Wx (tFor wi g tb) (exFor mi mg mb) :=
  fun e ρ σ F H D hP s h => simFor_at hg hb hP s (fun R q => hi F ρ σ H R s.fr (q.mono fun x _ q J F1 H1 A W => q J F1 H1 A W.l)) h
end Pv

/-! Pv7: list comprehensions. -/
namespace Pv
open PySem PySem.Spec PySem.SeqAt L2

def goComp (mg : GM) (mt : TM) (me : EM) (vs : List Nat) : List D → Rho → Option (List D × Rho)
  | [], ρ => some ([], ρ)
  | d :: r, ρ => (mg d ρ).bind fun ρ1 => (mt ρ1).bind fun b => if b.1 = true then (me b.2).bind fun x => (frz1 x.2 x.1).bind fun y => (goComp mg mt me vs r (kill vs y.2)).bind fun z => some (y.1 :: z.1, z.2)
      else goComp mg mt me vs r (kill vs b.2)
def restore (vs : List Nat) (ρ1 ρ : Rho) : Rho := vs.foldl (fun ρ v => ρ.set v ρ1[v]?.join) ρ
def evComp (mi : IM) (mg : GM) (mt : TM) (me : EM) (vs : List Nat) : EM := fun ρ => (mi ρ).bind fun a => if a.1.length ≤ sizeLine then (goComp mg mt me vs a.1 (kill vs a.2)).bind fun z => some (.sv (.own (.lst z.1)), restore vs a.2 z.2) else none

/-! slots -/
theorem kill_get : ∀ {vs : List Nat} {ρ : Rho} {i : Nat} {s : SV}, (kill vs ρ)[i]? = some (some s) → ρ[i]? = some (some s) ∧ i ∉ vs
  | [], _, _, _, h => ⟨h, by simp⟩
  | v :: vs, ρ, i, s, h => by
    obtain ⟨h1, h2⟩ := kill_get (vs := vs) (ρ := ρ.set v none) h
    rcases set_get h1 with ⟨_, h, _⟩ | ⟨ne, h⟩
    · cases h
    · exact ⟨h, by simp only [List.mem_cons, not_or]; exact ⟨ne, h2⟩⟩
theorem kill_len : ∀ {vs : List Nat} {ρ : Rho}, (kill vs ρ).length = ρ.length
  | [], _ => rfl
  | v :: vs, ρ => by
    show (kill vs (ρ.set v none)).length = _
    rw [kill_len]; simp
theorem wipe_ne {σ : L2.St} {i : Nat} : ∀ {vs : List Nat}, i ∉ vs → (wipe σ vs)[i]? = σ[i]?
  | [], _ => rfl
  | v :: vs, h => by
    simp only [List.mem_cons, not_or] at h
    unfold wipe
    rw [List.getElem?_set_ne (Ne.symm h.1)]
    exact wipe_ne h.2
theorem wipe_in {σ : L2.St} {i : Nat} : ∀ {vs : List Nat}, i ∈ vs → (wipe σ vs)[i]? = if i < σ.length then some none else none
  | v :: vs, h => by
    unfold wipe
    by_cases e : i = v
    · subst e
      by_cases hl : i < σ.length
      · rw [List.getElem?_set_self (by rw [wipe_length]; exact hl), if_pos hl]
      · rw [List.getElem?_eq_none (by rw [List.length_set, wipe_length]; omega), if_neg hl]
    · rw [List.getElem?_set_ne (Ne.symm e)]
      rcases List.mem_cons.mp h with h | h
      · exact absurd h e
      · exact wipe_in h
theorem wipe_agr {σ σ' : L2.St} {ts vs : List Nat} (h : Agr ts σ σ') (hs : ∀ t ∈ ts, t ∈ vs) : wipe σ' vs = wipe σ vs := by
  apply List.ext_getElem?
  intro i
  by_cases hi : i ∈ vs
  · rw [wipe_in hi, wipe_in hi, h.1]
  · rw [wipe_ne hi, wipe_ne hi]
    exact h.2 i fun z => hi (hs i z)
theorem wipe_wipe {σ : L2.St} {vs : List Nat} : wipe (wipe σ vs) vs = wipe σ vs := by
  apply List.ext_getElem?
  intro i
  by_cases hi : i ∈ vs
  · rw [wipe_in hi, wipe_in hi, wipe_length]
  · rw [wipe_ne hi]
theorem restore_get {ρ1 : Rho} : ∀ {vs : List Nat} {ρ : Rho} {i : Nat} {s : SV}, (restore vs ρ1 ρ)[i]? = some (some s) → (i ∈ vs ∧ ρ1[i]? = some (some s)) ∨ (i ∉ vs ∧ ρ[i]? = some (some s))
  | [], _, _, _, h => .inr ⟨by simp, h⟩
  | v :: vs, ρ, i, s, h => by
    rcases restore_get (vs := vs) (ρ := ρ.set v ρ1[v]?.join) h with ⟨h1, h2⟩ | ⟨h1, h2⟩
    · exact .inl ⟨List.mem_cons_of_mem _ h1, h2⟩
    · rcases set_get h2 with ⟨e, h, _⟩ | ⟨ne, h⟩
      · subst e
        refine .inl ⟨List.mem_cons_self, ?_⟩
        cases z : ρ1[i]? with
        | none => rw [z] at h; cases h
        | some x => rw [z] at h; cases x with
          | none => cases h
          | some s' => cases h; rfl
      · exact .inr ⟨by simp only [List.mem_cons, not_or]; exact ⟨ne, h1⟩, h⟩
theorem restore_len {ρ1 : Rho} : ∀ {vs : List Nat} {ρ : Rho}, (restore vs ρ1 ρ).length = ρ.length
  | [], _ => rfl
  | v :: vs, ρ => by
    show (restore vs ρ1 (ρ.set v ρ1[v]?.join)).length = _
    rw [restore_len]; simp
theorem restore_in {ρ1 : Rho} {i : Nat} {s : SV} (h1 : ρ1[i]? = some (some s)) : ∀ {vs : List Nat} {ρ : Rho}, i < ρ.length → (i ∈ vs ∨ ρ[i]? = some (some s)) → (restore vs ρ1 ρ)[i]? = some (some s)
  | [], _, _, h => h.elim (fun z => by cases z) id
  | v :: vs, ρ, hl, h => by
    refine restore_in h1 (vs := vs) (ρ := ρ.set v ρ1[v]?.join) (by simpa using hl) ?_
    by_cases e : i = v
    · subst e
      exact .inr (by rw [List.getElem?_set_self hl, h1]; rfl)
    · rcases h with h | h
      · rcases List.mem_cons.mp h with h | h
        · exact absurd h e
        · exact .inl h
      · exact .inr (by rw [List.getElem?_set_ne (Ne.symm e)]; exact h)
theorem restore_out {ρ1 : Rho} {i : Nat} : ∀ {vs : List Nat} {ρ : Rho}, i ∉ vs → (restore vs ρ1 ρ)[i]? = ρ[i]?
  | [], _, _ => rfl
  | v :: vs, ρ, h => by
    simp only [List.mem_cons, not_or] at h
    show (restore vs ρ1 (ρ.set v ρ1[v]?.join))[i]? = _
    rw [restore_out h.2, List.getElem?_set_ne (Ne.symm h.1)]
theorem kill_out {i : Nat} : ∀ {ws : List Nat} {ρ : Rho}, i ∉ ws → (kill ws ρ)[i]? = ρ[i]?
  | [], _, _ => rfl
  | w :: ws, ρ, hw => by
    simp only [List.mem_cons, not_or] at hw
    show (kill ws (ρ.set w none))[i]? = _
    rw [kill_out hw.2, List.getElem?_set_ne (Ne.symm hw.1)]
section
variable {k : Kx} {F H F1 H1 : Hp} {ρ ρ1 : Rho} {σ : L2.St} {vs : List Nat}
theorem FR.wiped (f : FR k F ρ σ H) : FR k F (kill vs ρ) (wipe σ vs) H := by
  refine ⟨f.sub, by rw [kill_len, wipe_length]; exact f.len, fun j d q => ?_, fun j o q => ?_, fun j l o1 o2 q e1 e2 e3 e4 => ?_⟩
  · obtain ⟨h1, h2⟩ := kill_get q
    rw [wipe_ne h2]; exact f.vals j d h1
  · obtain ⟨h1, h2⟩ := kill_get q
    rw [wipe_ne h2]; exact f.owns j o h1
  · obtain ⟨h1, h2⟩ := kill_get e1
    obtain ⟨h3, h4⟩ := kill_get e2
    rw [wipe_ne h2] at e3
    rw [wipe_ne h4] at e4
    exact f.dist j l o1 o2 q h1 h3 e3 e4
theorem Own.wiped {p : Addr} (h : Own (kill vs ρ) (wipe σ vs) p) : Own ρ σ p := by
  obtain ⟨j, o, e1, e2⟩ := h
  obtain ⟨h1, h2⟩ := kill_get e1
  rw [wipe_ne h2] at e2
  exact ⟨j, o, h1, e2⟩
theorem FR.restored (f1 : FR k F1 ρ1 σ H1) (tr : Tr (Own (kill vs ρ1) (wipe σ vs)) F1 H1 F H) (ow : ∀ p, Own ρ (wipe σ vs) p → Own (kill vs ρ1) (wipe σ vs) p) (f : FR k F ρ (wipe σ vs) H) : FR k F (restore vs ρ1 ρ) σ H := by
  have out : ∀ (j : Nat) (o : OB) (p : Addr), j ∈ vs → ρ1[j]? = some (some (.own o)) → σ[j]? = some (some (.ref p)) → ¬ Own (kill vs ρ1) (wipe σ vs) p := fun j o p hj e1 e2 z => by
    obtain ⟨l, o', e3, e4⟩ := z
    obtain ⟨h1, h2⟩ := kill_get e3
    rw [wipe_ne h2] at e4
    exact h2 (f1.dist l j o' o p h1 e1 e4 e2 ▸ hj)
  refine ⟨f.sub, by rw [restore_len, f.len, wipe_length], fun j d q => ?_, fun j o q => ?_, fun j l o1 o2 q e1 e2 e3 e4 => ?_⟩
  · rcases restore_get q with ⟨h1, h2⟩ | ⟨h1, h2⟩
    · obtain ⟨v, e, r⟩ := f1.vals j d h2
      exact ⟨v, e, r.mono tr.sub⟩
    · obtain ⟨v, e, r⟩ := f.vals j d h2
      rw [wipe_ne h1] at e
      exact ⟨v, e, r⟩
  · rcases restore_get q with ⟨h1, h2⟩ | ⟨h1, h2⟩
    · obtain ⟨p, ho, e, hp, n, r⟩ := f1.owns j o h2
      have no := out j o p h1 h2 e
      exact ⟨p, ho, e, tr.keep p ho hp no, tr.new p ho hp r.nt n no, r.mono tr.sub⟩
    · obtain ⟨p, ho, e, r⟩ := f.owns j o h2
      rw [wipe_ne h1] at e
      exact ⟨p, ho, e, r⟩
  · rcases restore_get e1 with ⟨h1, h2⟩ | ⟨h1, h2⟩
    · rcases restore_get e2 with ⟨h3, h4⟩ | ⟨h3, h4⟩
      · exact f1.dist j l o1 o2 q h2 h4 e3 e4
      · exact absurd (ow q ⟨l, o2, h4, by rw [wipe_ne h3]; exact e4⟩) (out j o1 q h1 h2 e3)
    · rcases restore_get e2 with ⟨h3, h4⟩ | ⟨h3, h4⟩
      · exact absurd (ow q ⟨j, o1, h2, by rw [wipe_ne h1]; exact e3⟩) (out l o2 q h3 h4 e4)
      · exact f.dist j l o1 o2 q h2 h4 (by rw [wipe_ne h1]; exact e3) (by rw [wipe_ne h3]; exact e4)
theorem Own.restored (ow : ∀ p, Own ρ (wipe σ vs) p → Own (kill vs ρ1) (wipe σ vs) p) {p : Addr} (h : Own (restore vs ρ1 ρ) σ p) : Own ρ1 σ p := by
  obtain ⟨j, o, e1, e2⟩ := h
  rcases restore_get e1 with ⟨h1, h2⟩ | ⟨h1, h2⟩
  · exact ⟨j, o, h2, e2⟩
  · exact (ow p ⟨j, o, h2, by rw [wipe_ne h1]; exact e2⟩).wiped
end
theorem SInv.temp {k : Kx} {e : Ent} {ρ : Rho} {σ : L2.St} {F H : Hp} {T : Addr} {o : HO} (s : SInv k e ρ σ F H) (n : e.H T = none) (f : F T = none) (no : ¬ Own ρ σ T) : SInv k e ρ σ F (upd H T o) := by
  refine ⟨⟨fun a u q => ?_, s.fr.len, s.fr.vals, fun i ob q => ?_, s.fr.dist⟩, ⟨s.tr.sub, fun p u q nI => ?_, s.tr.new, fun p u q => ?_⟩, s.ow, s.pr⟩
  · rw [upd_ne (fun z => by rw [z, f] at q; cases q)]; exact s.fr.sub a u q
  · obtain ⟨p, ho, e1, e2, e3, e4⟩ := s.fr.owns i ob q
    have ne : p ≠ T := fun z => no (by rw [← z]; exact ⟨i, ob, q, e1⟩)
    exact ⟨p, ho, e1, by rw [upd_ne ne]; exact e2, e3, e4⟩
  · rw [upd_ne (fun z => by rw [z, n] at q; cases q)]; exact s.tr.keep p u q nI
  · rw [upd_ne (fun z => by rw [z, n] at q; cases q)]; exact s.tr.there p u q
structure CI (k : Kx) (e : Ent) (ρ0 ρ : Rho) (σ : L2.St) (F H : Hp) (T : Addr) (acc : List V) (ds : List D) : Prop where
  s : SInv k e ρ σ F H
  ow : ∀ p, Own ρ σ p → Own ρ0 σ p
  sl : ∀ (i : Nat) (x : SV), ρ0[i]? = some (some x) → ∃ x', ρ[i]? = some (some x')
  hT : H T = some (.lst acc)
  fT : F T = none
  r : RepL k F acc ds
theorem CI.aft {k : Kx} {e : Ent} {ρ0 ρ ρ' : Rho} {σ : L2.St} {F H F' H' : Hp} {T : Addr} {acc : List V} {ds : List D} (c : CI k e ρ0 ρ σ F H T acc ds) (nO : ¬ Own ρ0 σ T) (A : Aft k ρ σ F H ρ' F' H') : CI k e ρ0 ρ' σ F' H' T acc ds :=
  ⟨c.s.aft A, fun p z => c.ow p (A.ow p z), fun i x q => let ⟨x', q'⟩ := c.sl i x q; A.sl i x' q', A.tr.keep T _ c.hT fun z => nO (c.ow T z), A.tr.new T _ c.hT trivial c.fT fun z => nO (c.ow T z), c.r.mono A.tr.sub⟩
theorem simComp_at {k : Kx} {ts vs : List Nat} {wi : TI} {g : TG} {tt : TT} {te : TE} {mi : IM} {mg : GM} {mt : TM} {me : EM} (hg : SimG k [] ts g mg) (ht : SimT k tt mt) (he : SimE k te me) (hv : ∀ t ∈ ts, t ∈ vs) {F : Hp} {ρ : Rho} {σ : L2.St} {H : Hp} {Q : VK} (f : FR k F ρ σ H)
    (hi : ∀ R : It → Hp → Prop, wpo (mi ρ) (fun x => ∀ J F' H', Aft k ρ σ F H x.2 F' H' → WalkL k J F' H' x.1 → R J H') → wi σ H R)
    (h : wpo (evComp mi mg mt me vs ρ) (fun x => ∀ v F' H', Aft k ρ σ F H x.2 F' H' → RR k H F' x.2 σ H' x.1 v → Q v H')) : tLc wi g tt te vs σ H Q := by
  unfold evComp at h
  refine hi _ ((wpo_bind.mp h).mono fun a _ h => ?_)
  intro J F1 H1 A1 W T hT
  obtain ⟨G, Y, w, hG, hY⟩ := W.w
  split at h
  · rename_i hz
    let e : Ent := ⟨F1, H1, Own (kill vs a.2) (wipe σ vs), []⟩
    have s0 : SInv k e (kill vs a.2) (wipe σ vs) F1 H1 := ⟨A1.fr.wiped, Tr.refl, fun p z => .inl z, fun q hq => by cases hq⟩
    have nT : F1 T = none := A1.fr.sub.none_of hT
    have eT : e.H T = none := hT
    have noT : ¬ Own (kill vs a.2) (wipe σ vs) T := fun z => by
      obtain ⟨u, hu⟩ := s0.fr.own_some z
      rw [hT] at hu; cases hu
    have lk : ∀ {ρ' : Rho} {F' H' : Hp}, SInv k e ρ' (wipe σ vs) F' H' → LkK F1 H1 H' := fun {ρ' F' H'} s' b od u h1 h2 => s'.tr.keep b _ h2 fun z => h1 (s0.fr.own_none z)
    let C : List D → List D × Rho → Prop := fun ds z => ∀ v F' H', Aft k ρ σ F H (restore vs a.2 z.2) F' H' → RR k H F' (restore vs a.2 z.2) σ H' (.sv (.own (.lst (ds ++ z.1)))) v → Q v H'
    refine lc_it w (fun i H => ∃ ρ F acc ds, CI k e (kill vs a.2) ρ (wipe σ vs) F H T acc ds ∧ acc.length ≤ i ∧ wpo (goComp mg mt me vs (a.1.drop i) ρ) (C ds)) ?_ ?_ ?_ ?_
    · exact ⟨kill vs a.2, F1, [], [], ⟨s0.temp hT nT noT, fun p z => z, fun i x q => ⟨x, q⟩, upd_same, nT, .nil⟩, Nat.zero_le _, (wpo_bind.mp h).mono fun z _ h => fun v F' H' A R => h v F' H' A R⟩
    · rintro i H hi ⟨ρ', F', acc, ds, c, _⟩
      exact hG F' H c.s.tr.sub c.s.fr.sub (lk c.s)
    · rintro i x H H' hi ⟨ρ', F', acc, ds, c, hl, h⟩ y
      have e1 : a.1[i]? = some a.1[i] := List.getElem?_eq_getElem hi
      rw [List.drop_eq_getElem_cons hi] at h
      unfold goComp at h
      have fin : ∀ (F2 H2 : Hp), CI k e (kill vs a.2) ρ' (wipe σ vs) F2 H2 T acc ds → Rep k F2 x a.1[i] → g x (wipe σ vs) H2 fun σ2 H2 => wipe σ2 vs = wipe σ vs ∧ tt σ2 H2 fun b H3 =>
          if b = true then te σ2 H3 fun y H4 => ∃ acc, H4 T = some (.lst acc) ∧ acc.length < sizeLine ∧ ∃ ρ F acc' ds, CI k e (kill vs a.2) ρ (wipe σ vs) F (upd H4 T (.lst (acc ++ [y]))) T acc' ds ∧ acc'.length ≤ i + 1 ∧ wpo (goComp mg mt me vs (a.1.drop (i + 1)) ρ) (C ds)
          else ∃ ρ F acc ds, CI k e (kill vs a.2) ρ (wipe σ vs) F H3 T acc ds ∧ acc.length ≤ i + 1 ∧ wpo (goComp mg mt me vs (a.1.drop (i + 1)) ρ) (C ds) := by
        intro F2 H2 c rp
        refine hg e ρ' (wipe σ vs) F2 H2 x _ _ (fun q hq => by cases hq) c.s rp ((wpo_bind.mp h).mono fun ρ1 em h => ?_)
        intro σ3 s3 ag ow3 sl3
        have ew : wipe σ3 vs = wipe σ vs := (wipe_agr ag hv).trans wipe_wipe
        refine ⟨ew, ht F2 ρ1 σ3 H2 _ s3.fr ((wpo_bind.mp h).mono fun b _ h => ?_)⟩
        intro F3 H3 A3
        have s3' := s3.aft A3
        have no3 : ¬ Own ρ1 σ3 T := fun z => noT (c.ow T (ow3 T z))
        have hT3 := A3.tr.keep T _ c.hT no3
        have fT3 := A3.tr.new T _ c.hT trivial c.fT no3
        -- the slots outside of vs stay
        have slk : ∀ {ρ4 : Rho}, (∀ (i : Nat) (x : SV), ρ1[i]? = some (some x) → ∃ x', ρ4[i]? = some (some x')) → ∀ (i : Nat) (x : SV), (kill vs a.2)[i]? = some (some x) → ∃ x', (kill vs ρ4)[i]? = some (some x') := by
          intro ρ4 h4 j x0 q
          obtain ⟨q1, q2⟩ := kill_get q
          obtain ⟨x1, q3⟩ := c.sl j x0 q
          obtain ⟨x2, q4⟩ := sl3 j x1 q3
          obtain ⟨x3, q5⟩ := h4 j x2 q4
          exact ⟨x3, by rw [kill_out q2]; exact q5⟩
        have wip : ∀ {ρ4 : Rho} {F4 H4 : Hp}, SInv k e ρ4 σ3 F4 H4 → SInv k e (kill vs ρ4) (wipe σ vs) F4 H4 := fun {ρ4 F4 H4} s4 => by
          rw [← ew]
          exact ⟨s4.fr.wiped, s4.tr, fun p z => s4.ow p z.wiped, fun q hq => by cases hq⟩
        have wow : ∀ {ρ4 : Rho}, (∀ p, Own ρ4 σ3 p → Own ρ1 σ3 p) → ∀ p, Own (kill vs ρ4) (wipe σ vs) p → Own (kill vs a.2) (wipe σ vs) p := fun {ρ4} h4 p z => by
          rw [← ew] at z
          exact c.ow p (ow3 p (h4 p z.wiped))
        split at h
        · rename_i eb
          rw [if_pos eb]
          refine he F3 b.2 σ3 H3 _ s3'.fr ((wpo_bind.mp h).mono fun z _ h => ?_)
          intro v F4 H4 A4 R4
          have h := wpo_bind.mp h
          cases ef : frz1 z.2 z.1 with
          | none => rw [ef] at h; exact h.elim
          | some y =>
            rw [ef] at h
            obtain ⟨F5, A5, s5, r5, _⟩ := frz1_ok s3'.fr A4 R4 ef
            have no3' : ¬ Own b.2 σ3 T := fun z => no3 (A3.ow T z)
            have hT5 := A5.tr.keep T _ hT3 no3'
            have fT5 := A5.tr.new T _ hT3 trivial fT3 no3'
            have sub5 : Sub F2 F5 := A3.tr.sub.trans A5.tr.sub
            have s5' := s3'.aft A5
            have no5 : ¬ Own (kill vs y.2) (wipe σ vs) T := fun z => noT (wow (fun p q => A3.ow p (A5.ow p q)) T z)
            refine ⟨acc, hT5, by omega, kill vs y.2, F5, acc ++ [v], ds ++ [y.1], ⟨(wip s5').temp eT fT5 no5, wow fun p q => A3.ow p (A5.ow p q), slk fun i x q => let ⟨x', q'⟩ := A3.sl i x q; A5.sl i x' q', upd_same, fT5, (c.r.mono sub5).append (.cons r5 .nil)⟩, by simp; omega, ?_⟩
            refine (wpo_bind.mp h).mono fun z _ h => ?_
            intro v F' H' A R
            rw [List.append_assoc] at R
            exact h v F' H' A R
        · rename_i eb
          rw [if_neg eb]
          exact ⟨kill vs b.2, F3, acc, ds, ⟨wip s3', wow A3.ow, slk A3.sl, hT3, fT3, c.r.mono A3.tr.sub⟩, by omega, h⟩
      obtain ⟨F2, A2, rp⟩ := (hY i _ F' H x H' e1 c.s.tr.sub c.s.fr.sub (lk c.s) y).aft c.s.fr
      exact fin F2 H' (c.aft noT A2) rp
    · rintro H' ⟨ρ', F', acc, ds, c, hl, h⟩
      rw [List.drop_length] at h
      have h : C ds ([], ρ') := h
      refine h _ F' H' ?_ ?_
      · refine A1.trans ⟨FR.restored A1.fr c.s.tr c.ow c.s.fr, ⟨c.s.tr.sub, fun p o q nI => c.s.tr.keep p o q fun z => nI z.wiped, fun p o q m f nI => c.s.tr.new p o q m f fun z => nI z.wiped, c.s.tr.there⟩, fun p z => z.restored c.ow, fun i s q => ?_⟩
        by_cases hi : i ∈ vs
        · refine ⟨s, restore_in q ?_ (.inl hi)⟩
          have l1 := (List.getElem?_eq_some_iff.mp q).1
          have l2 : ρ'.length = (wipe σ vs).length := c.s.fr.len
          rw [wipe_length] at l2
          show i < ρ'.length
          have l3 := A1.fr.len
          omega
        · obtain ⟨x', q'⟩ := c.sl i s (by rw [kill_out hi]; exact q)
          exact ⟨x', by rw [restore_out hi]; exact q'⟩
      · exact ⟨T, _, rfl, A1.none_of hT, c.hT, c.fT, acc, rfl, by rw [List.append_nil]; exact c.r⟩
  · exact h.elim
theorem simComp {k : Kx} {ts vs : List Nat} {wi : TI} {g : TG} {tt : TT} {te : TE} {mi : IM} {mg : GM} {mt : TM} {me : EM} (hi : SimI k wi mi) (hg : SimG k [] ts g mg) (ht : SimT k tt mt) (he : SimE k te me) (hv : ∀ t ∈ ts, t ∈ vs) :
    SimE k (tLc wi g tt te vs) (evComp mi mg mt me vs) := fun F ρ σ H Q f h => simComp_at hg ht he hv f (fun R q => hi F ρ σ H R f (q.mono fun x _ q J F1 H1 A W => q J F1 H1 A W.l)) h
end Pv

/-! Pv8: defs and their calls. -/
namespace Pv
open PySem PySem.Spec PySem.SeqAt L2

abbrev CM := List SV → Option (SV × SV)
def ArgR (k : Kx) (F H : Hp) : SV → V → Prop
  | .val d, v => Rep k F v d
  | .own o, v => ∃ p ho, v = .ref p ∧ H p = some ho ∧ F p = none ∧ RepO k F p o ho
inductive ArgsR (k : Kx) (F H : Hp) : List SV → List V → Prop
  | nil : ArgsR k F H [] []
  | cons {s : SV} {v : V} {ss : List SV} {vs : List V} : ArgR k F H s v → ArgsR k F H ss vs → (∀ o, s = .own o → ∀ (j : Nat) (o' : OB), ss[j]? = some (.own o') → vs[j]? ≠ some v) → ArgsR k F H (s :: ss) (v :: vs)
def ArgOwn (ss : List SV) (vs : List V) (p : Addr) : Prop := ∃ (i : Nat) (o : OB), ss[i]? = some (.own o) ∧ vs[i]? = some (.ref p)
def ArgGiv (io : Bool) (ss : List SV) (vs : List V) (p : Addr) : Prop := ∃ (i : Nat) (o : OB), (io = true → i ≠ 0) ∧ ss[i]? = some (.own o) ∧ vs[i]? = some (.ref p)
def ResR (k : Kx) (A : Addr → Prop) (H F' H' : Hp) : SV → V → Prop
  | .val d, v => Rep k F' v d
  | .own o, v => ∃ p ho, v = .ref p ∧ (H p = none ∨ A p) ∧ H' p = some ho ∧ F' p = none ∧ RepO k F' p o ho
def spF (k : Kx) (io : Bool) (np : Nat) (cm : CM) : Sp := fun vs H Q _ => ∃ F args, Sub F H ∧ ArgsR k F H args vs ∧ vs.length = np ∧
  wpo (cm args) (fun x => ∀ v F' H', Sub F' H' → Tr (ArgOwn args vs) F H F' H' → ResR k (ArgGiv io args vs) H F' H' x.1 v → (io = true → ∃ u, vs[0]? = some u ∧ ArgR k F' H' x.2 u) → Q v H')
def excOut (k : Kx) (F H : Hp) (args : List SV) (vs : List V) (W : Value → Option Addr → Hp → Prop) (x : SV × SV) : Prop := ∀ c fs, x.1 = .val (excD c fs) → ∀ cls d F' H', Sub F' H' → Tr (ArgOwn args vs) F H F' H' → ExcR k F' H' c fs cls d → W cls d H'
def spX (k : Kx) (io : Bool) (np : Nat) (cm : CM) : Sp := fun vs H Q E => ∃ F args, Sub F H ∧ ArgsR k F H args vs ∧ vs.length = np ∧
  wpo (cm args) (fun x => (∀ v F' H', Sub F' H' → Tr (ArgOwn args vs) F H F' H' → ResR k (ArgGiv io args vs) H F' H' x.1 v → (io = true → ∃ u, vs[0]? = some u ∧ ArgR k F' H' x.2 u) → Q v H') ∧ excOut k F H args vs E x)
def retS (io : Bool) (ρ : Rho) : Rv → Option (SV × Rho)
  | .sv s => some (s, ρ)
  | .plc j => match ρ[j]? with
    | some (some (.val d)) => some (.val d, ρ)
    | some (some (.own o)) => if io = true then (match ρ[(0 : Nat)]? with
        | some (some (.own _)) => if j = 0 then some (.val o.d, ρ.set j (some (.val o.d))) else some (.own o, ρ)
        | _ => some (.val o.d, ρ.set j (some (.val o.d)))) else some (.own o, ρ)
    | _ => none
def out0 (io : Bool) (ρ : Rho) : Option SV := if io = true then (match ρ[(0 : Nat)]? with
    | some (some s) => some s
    | _ => none) else some (.val .none)
def runB (io : Bool) (nl : Nat) (mb : SM) : CM := fun args => (mb (args.map some ++ List.replicate (nl - args.length) none)).bind fun a => match a.1 with
  | .nx => (out0 io a.2).bind fun o => some (.val .none, o)
  | .ret r => (retS io a.2 r).bind fun b => (out0 io b.2).bind fun o => some (b.1, o)
  | _ => none
section
variable {k : Kx} {F H : Hp}
theorem ArgsR.len : ∀ {ss : List SV} {vs : List V}, ArgsR k F H ss vs → ss.length = vs.length
  | _, _, .nil => rfl
  | _, _, .cons _ b _ => by simp [b.len]
theorem ArgsR.get : ∀ {ss : List SV} {vs : List V} {i : Nat} {s : SV}, ArgsR k F H ss vs → ss[i]? = some s → ∃ v, vs[i]? = some v ∧ ArgR k F H s v
  | _, _, _, _, .nil, h => by simp at h
  | _, _, 0, _, .cons a _ _, h => by simp at h; subst h; exact ⟨_, rfl, a⟩
  | _, _, i + 1, s, .cons _ b _, h => by
    obtain ⟨v, h1, h2⟩ := ArgsR.get (i := i) (s := s) b (by simpa using h)
    exact ⟨v, by simpa using h1, h2⟩
theorem ArgsR.dist : ∀ {ss : List SV} {vs : List V} {i j : Nat} {o o' : OB} {v : V}, ArgsR k F H ss vs → ss[i]? = some (.own o) → ss[j]? = some (.own o') → vs[i]? = some v → vs[j]? = some v → i = j
  | _, _, _, _, _, _, _, .nil, h, _, _, _ => by simp at h
  | _, _, 0, 0, _, _, _, .cons _ _ _, _, _, _, _ => rfl
  | _, _, 0, j + 1, o, o', v, .cons _ _ c, h1, h2, h3, h4 => by
    simp at h1 h3; subst h3
    exact absurd (by simpa using h4) (c o h1 j o' (by simpa using h2))
  | _, _, i + 1, 0, o, o', v, .cons _ _ c, h1, h2, h3, h4 => by
    simp at h2 h4; subst h4
    exact absurd (by simpa using h3) (c o' h2 i o (by simpa using h1))
  | _, _, i + 1, j + 1, o, o', v, .cons _ b _, h1, h2, h3, h4 => by
    have := ArgsR.dist (i := i) (j := j) b (by simpa using h1) (by simpa using h2) (by simpa using h3) (by simpa using h4)
    omega
theorem start_get {α : Type} {l : List α} {n : Nat} {i : Nat} {x : α} (h : (l.map some ++ List.replicate n none)[i]? = some (some x)) : l[i]? = some x := by
  by_cases hi : i < l.length
  · rw [List.getElem?_append_left (by simpa using hi), List.getElem?_map] at h
    cases e : l[i]? with
    | none => rw [e] at h; cases h
    | some y => rw [e] at h; cases h; rfl
  · rw [List.getElem?_append_right (by simpa using hi), List.getElem?_replicate] at h
    split at h <;> cases h
theorem start_of {α : Type} {l : List α} {n : Nat} {i : Nat} {x : α} (h : l[i]? = some x) : (l.map some ++ List.replicate n none)[i]? = some (some x) := by
  have hi : i < l.length := (List.getElem?_eq_some_iff.mp h).1
  rw [List.getElem?_append_left (by simpa using hi), List.getElem?_map, h]; rfl
theorem runB_gen {Wx : Option WX} {io : Bool} {np nl : Nat} {ts : TS} {mb : SM} {N : List Str} (hN : N.length = nl) (hio : io = true → 0 < np) (hb : SimS k (if io = true then [0] else []) Wx ts mb) {vs : List V} {Q : VK} {args : List SV} (sb : Sub F H) (ar : ArgsR k F H args vs) (hl : vs.length = np)
    (h : wpo (runB io nl mb args) (fun x => (∀ v F' H', Sub F' H' → Tr (ArgOwn args vs) F H F' H' → ResR k (ArgGiv io args vs) H F' H' x.1 v → (io = true → ∃ u, vs[0]? = some u ∧ ArgR k F' H' x.2 u) → Q v H') ∧ ∀ W, Wx = some W → excOut k F H args vs (fun cls d H' => ∀ σ, W cls d σ H') x)) :
    ts { nx := fun _ H' => Q .non H', rt := Q } (L2.start N vs) H := by
  unfold runB at h
  have al := ar.len
  let e : Ent := ⟨F, H, ArgOwn args vs, if io = true then (match vs[0]? with | some u => [(0, u)] | none => []) else []⟩
  have s0 : SInv k e (args.map some ++ List.replicate (nl - args.length) none) (L2.start N vs) F H := by
    refine ⟨⟨sb, ?_, fun i d q => ?_, fun i o q => ?_, fun i j o o' p e1 e2 e3 e4 => ?_⟩, Tr.refl, fun p z => .inl ?_, fun q hq => ?_⟩
    · unfold L2.start; simp; omega
    · obtain ⟨v, h1, h2⟩ := ar.get (start_get q)
      exact ⟨v, start_of h1, h2⟩
    · obtain ⟨v, h1, p, ho, rfl, h2⟩ := ar.get (start_get q)
      exact ⟨p, ho, start_of h1, h2⟩
    · exact ar.dist (start_get e1) (start_get e2) (start_get e3) (start_get e4)
    · obtain ⟨i, o, e1, e2⟩ := z
      exact ⟨i, o, start_get e1, start_get e2⟩
    · have hq : q ∈ (if io = true then (match vs[0]? with | some u => [(0, u)] | none => []) else [] : List (Nat × V)) := hq
      split at hq
      · split at hq
        · rename_i u hu
          simp at hq; subst hq
          exact start_of hu
        · cases hq
      · cases hq
  have hP : ∀ q ∈ e.pr, q.1 ∈ (if io = true then [0] else [] : List Nat) := fun q hq => by
    have hq : q ∈ (if io = true then (match vs[0]? with | some u => [(0, u)] | none => []) else [] : List (Nat × V)) := hq
    split at hq
    · rename_i hio
      rw [if_pos hio]
      split at hq
      · simp at hq; subst hq; simp
      · cases hq
    · cases hq
  -- what is given back
  have outs : ∀ {ρ : Rho} {σ : L2.St} {F' H' : Hp} {s : SV}, SInv k e ρ σ F' H' → out0 io ρ = some s → (io = true → ∃ u, vs[0]? = some u ∧ ArgR k F' H' s u) := by
    intro ρ σ F' H' s si ho hi
    unfold out0 at ho
    rw [if_pos hi] at ho
    split at ho
    · rename_i s' hs
      cases ho
      have h0 : 0 < σ.length := by rw [← si.fr.len]; exact (List.getElem?_eq_some_iff.mp hs).1
      cases hu : vs[0]? with
      | none =>
        have := hio hi
        rw [List.getElem?_eq_none_iff] at hu
        omega
      | some u =>
        refine ⟨u, rfl, ?_⟩
        have hp : σ[0]? = some (some u) := si.pr (0, u) (by
          show _ ∈ (if io = true then (match vs[0]? with | some u => [(0, u)] | none => []) else [] : List (Nat × V))
          rw [if_pos hi, hu]; simp)
        cases s with
        | val d =>
          obtain ⟨v, h1, h2⟩ := si.fr.vals 0 d hs
          rw [hp] at h1; cases h1; exact h2
        | own o =>
          obtain ⟨p, ho, h1, h2⟩ := si.fr.owns 0 o hs
          rw [hp] at h1; cases h1; exact ⟨p, ho, rfl, h2⟩
    · cases ho
  refine hb e _ _ F H _ hP s0 ((wpo_bind.mp h).mono fun a _ h => ?_)
  obtain ⟨fl, ρ1⟩ := a
  cases fl with
  | nx =>
    intro σ F' H' s'
    have h := wpo_bind.mp h
    cases eo : out0 io ρ1 with
    | none => rw [eo] at h; exact h.elim
    | some o =>
      rw [eo] at h
      exact h.1 .non F' H' s'.fr.sub s'.tr .non (outs s' eo)
  | ret r =>
    refine ⟨?_, fun W hW c fs er cls d σ F' H' s' x => ?_⟩
    rotate_left
    · subst er
      have h := wpo_bind.mp h
      have h : wpo ((out0 io ρ1).bind fun o => some ((SV.val (excD c fs), o) : SV × SV)) _ := h
      have h := wpo_bind.mp h
      cases eo : out0 io ρ1 with
      | none => rw [eo] at h; exact h.elim
      | some o =>
        rw [eo] at h
        exact h.2 W hW c fs rfl cls d F' H' s'.fr.sub s'.tr x σ
    replace h : wpo (match Fl.ret r with
      | .nx => (out0 io ρ1).bind fun o => some ((SV.val .none, o) : SV × SV)
      | .ret r => (retS io ρ1 r).bind fun b => (out0 io b.2).bind fun o => some (b.1, o)
      | _ => none) (fun x => ∀ v F' H', Sub F' H' → Tr (ArgOwn args vs) F H F' H' → ResR k (ArgGiv io args vs) H F' H' x.1 v → (io = true → ∃ u, vs[0]? = some u ∧ ArgR k F' H' x.2 u) → Q v H') := h.mono fun x _ q => q.1
    intro v σ F' H' s' R
    have h := wpo_bind.mp h
    cases er : retS io ρ1 r with
    | none => rw [er] at h; exact h.elim
    | some b =>
      rw [er] at h
      have h := wpo_bind.mp h
      cases eo : out0 io b.2 with
      | none => rw [eo] at h; exact h.elim
      | some o =>
        rw [eo] at h
        have h : ∀ v F' H', Sub F' H' → Tr (ArgOwn args vs) F H F' H' → ResR k (ArgGiv io args vs) H F' H' b.1 v → (io = true → ∃ u, vs[0]? = some u ∧ ArgR k F' H' o u) → Q v H' := h
        have frz : ∀ (j : Nat) (ob : OB), σ[j]? = some (some v) → ρ1[j]? = some (some (.own ob)) → b = (.val ob.d, ρ1.set j (some (.val ob.d))) → Q v H' := fun j ob R1 R2 eb => by
          subst eb
          obtain ⟨F2, A2, _, r2, _⟩ := frz1_ok (r := .plc j) (v := v) s'.fr (Aft.refl s'.fr) ⟨R1, _, R2⟩ (show frz1 ρ1 (.plc j) = some (ob.d, ρ1.set j (some (.val ob.d))) by simp [frz1, R2])
          have s2 := s'.aft A2
          exact h v F2 H' s2.fr.sub s2.tr r2 (outs s2 eo)
        have giv : ∀ (j : Nat) (ob : OB), σ[j]? = some (some v) → ρ1[j]? = some (some (.own ob)) → (io = true → j ≠ 0 ∧ ∃ o0, ρ1[0]? = some (some (.own o0))) → b = (.own ob, ρ1) → Q v H' := fun j ob R1 R2 hj eb => by
          subst eb
          obtain ⟨p, ho, h1, h2, h3, h4⟩ := s'.fr.owns j ob R2
          rw [R1] at h1; cases h1
          refine h (.ref p) F' H' s'.fr.sub s'.tr ⟨p, ho, rfl, ?_, h2, h3, h4⟩ (outs s' eo)
          rcases s'.ow p ⟨j, ob, R2, R1⟩ with ⟨i, o', q1, q2⟩ | z
          · refine .inr ⟨i, o', fun hi ei => ?_, q1, q2⟩
            subst ei
            obtain ⟨nj, o0, h0⟩ := hj hi
            have hp : σ[0]? = some (some (.ref p)) := s'.pr (0, .ref p) (by
              show _ ∈ (if io = true then (match vs[0]? with | some u => [(0, u)] | none => []) else [] : List (Nat × V))
              rw [if_pos hi, q2]; simp)
            exact nj (s'.fr.dist j 0 ob o0 p R2 h0 R1 hp)
          · exact .inl z
        match r, R, er with
        | .sv (.val d), R, er =>
          cases er
          exact h v F' H' s'.fr.sub s'.tr R (outs s' eo)
        | .sv (.own ob), ⟨p, ho, e1, e2, e3⟩, er =>
          cases er
          exact h v F' H' s'.fr.sub s'.tr ⟨p, ho, e1, .inl e2, e3⟩ (outs s' eo)
        | .plc j, ⟨R1, sv, R2⟩, er =>
          cases sv with
          | val d =>
            simp only [retS, R2, Option.some.injEq] at er
            subst er
            obtain ⟨v', h1, h2⟩ := s'.fr.vals j d R2
            rw [R1] at h1; cases h1
            exact h v F' H' s'.fr.sub s'.tr h2 (outs s' eo)
          | own ob =>
            simp only [retS, R2] at er
            split at er
            · rename_i hi
              split at er
              · rename_i o0 h0
                split at er
                · cases er; exact frz j ob R1 R2 rfl
                · rename_i nj
                  cases er; exact giv j ob R1 R2 (fun _ => ⟨nj, o0, h0⟩) rfl
              · cases er; exact frz j ob R1 R2 rfl
            · rename_i hi
              cases er; exact giv j ob R1 R2 (fun z => absurd z hi) rfl
  | bk => exact h.elim
  | ct => exact h.elim
theorem runB_ok {io : Bool} {np nl : Nat} {ts : TS} {mb : SM} {N : List Str} (hN : N.length = nl) (hio : io = true → 0 < np) (hb : SimS k (if io = true then [0] else []) none ts mb) {vs : List V} {Q : VK} {E : XK} (h : spF k io np (runB io nl mb) vs H Q E) :
    ts { nx := fun _ H' => Q .non H', rt := Q } (L2.start N vs) H := by
  obtain ⟨F, args, sb, ar, hl, h⟩ := h
  exact runB_gen hN hio hb sb ar hl (h.mono fun x _ q => ⟨q, fun W hW => nomatch hW⟩)
theorem runB_okX {W : WX} {io : Bool} {np nl : Nat} {ts : TS} {mb : SM} {N : List Str} (hN : N.length = nl) (hio : io = true → 0 < np) (hb : SimS k (if io = true then [0] else []) (some W) ts mb) {vs : List V} {Q : VK} {E : XK} (hE : ∀ cls d σ H', E cls d H' → W cls d σ H') (h : spX k io np (runB io nl mb) vs H Q E) :
    ts { nx := fun _ H' => Q .non H', rt := Q } (L2.start N vs) H := by
  obtain ⟨F, args, sb, ar, hl, h⟩ := h
  exact runB_gen hN hio hb sb ar hl (h.mono fun x _ q => ⟨q.1, fun W' hW => by cases hW; exact fun c fs e cls d F' H' s t x σ => hE _ _ _ _ (q.2 c fs e cls d F' H' s t x)⟩)
end
end Pv

/-! Pv9: a def called. -/
namespace Pv
open PySem PySem.Spec PySem.SeqAt L2

def flat0 : D → Bool
  | .none => true
  | .bool _ => true
  | .int _ => true
  | .str _ => true
  | _ => false
mutual
def nl : D → Bool
  | .none => true
  | .bool _ => true
  | .int _ => true
  | .str _ => true
  | .tuple xs => nlAll xs
  | .list _ => false
  | .dict kvs => (match kvs with
    | [(.bool true, .list xs)] => xs.all flat0
    | _ => false)
def nlAll : List D → Bool
  | [] => true
  | x :: xs => nl x && nlAll xs
end
def nlS : SV → Bool
  | .val d => nl d
  | .own (.lst xs) => nlAll xs
  | .own (.ins _ fs) => nlAll fs
  | .own (.dct _ _ _) => false
def Mu : HO → Prop
  | .lst _ => True
  | .ins _ _ _ => True
  | .dK _ => True
  | .dT _ => True
  | .frz _ (.dK _) => True
  | .frz _ (.dT _) => True
  | _ => False
theorem Mu.sub {F F' : Hp} (s : Sub F F') {p : Addr} {o : HO} (e : F p = some o) (m : Mu o) : ∃ o, F' p = some o ∧ Mu o := by
  obtain ⟨o', e', z⟩ := s p o e
  refine ⟨o', e', ?_⟩
  cases o with
  | lst xs => rw [nlk_fx z True.intro]; trivial
  | ins a b c => rw [nlk_fx z True.intro]; trivial
  | dK x => rcases nlk_dc z True.intro with rfl | ⟨od, rfl⟩ <;> trivial
  | dT x => rcases nlk_dc z True.intro with rfl | ⟨od, rfl⟩ <;> trivial
  | frz od u =>
    cases u with
    | dK x => rcases nlk_dc (o := .dK x) z True.intro with rfl | ⟨od, rfl⟩ <;> trivial
    | dT x => rcases nlk_dc (o := .dT x) z True.intro with rfl | ⟨od, rfl⟩ <;> trivial
    | _ => exact m.elim
  | _ => exact m.elim
theorem rep_flat {k : Kx} {F F2 : Hp} {v : V} {d : D} (h : flat0 d = true) (r : Rep k F v d) : Rep k F2 v d := by
  cases r <;> first | exact .non | exact .bl _ | exact .int _ | exact .str _ | simp [flat0] at h
theorem repL_flat {k : Kx} {F F2 : Hp} : ∀ {vs : List V} {ds : List D}, ds.all flat0 = true → RepL k F vs ds → RepL k F2 vs ds
  | _, _, _, .nil => .nil
  | _, _, h, .cons a b => by
    simp only [List.all_cons, Bool.and_eq_true] at h
    exact .cons (rep_flat h.1 a) (repL_flat h.2 b)
section
variable {k : Kx} {F F2 : Hp} {B : Addr → Prop} (hB : ∀ a, B a → ∃ o, F a = some o ∧ Mu o) (h2 : ∀ a, ¬ B a → F2 a = F a)
include hB h2
mutual
theorem nl_del : ∀ {v : V} {d : D}, nl d = true → Rep k F v d → Rep k F2 v d
  | _, _, _, .non => .non
  | _, _, _, .bl b => .bl b
  | _, _, _, .int i => .int i
  | _, _, _, .str x => .str x
  | _, _, h, .lst _ _ => by simp [nl] at h
  | _, .tuple xs, h, .tup (a := a) e r => by
    have h' : nlAll xs = true := by simpa [nl] using h
    refine .tup ?_ (nlAll_del h' r)
    rw [h2 a fun z => by obtain ⟨o, q, m⟩ := hB a z; rw [e] at q; cases q; exact m.elim]; exact e
  | _, .dict [(.bool true, .list xs)], h, .fls (a := a) e r => by
    have h' : xs.all flat0 = true := by simpa [nl] using h
    refine .fls ?_ (repL_flat h' r)
    rcases e with ⟨ob, e⟩ | e
    · exact .inl ⟨ob, by rw [h2 a fun z => by obtain ⟨o, q, m⟩ := hB a z; rw [e] at q; cases q; exact m.elim]; exact e⟩
    · exact .inr e
  | _, _, h, .obj _ _ _ _ _ => by simp [nl] at h
  | _, _, h, .dnil _ => by simp [nl] at h
  | _, _, h, .dct _ _ _ => by simp [nl] at h
  | _, _, h, .fn _ => by simp [nl] at h
theorem nlAll_del : ∀ {vs : List V} {ds : List D}, nlAll ds = true → RepL k F vs ds → RepL k F2 vs ds
  | _, _, _, .nil => .nil
  | _, _, h, .cons a b => by
    simp only [nlAll, Bool.and_eq_true] at h
    exact .cons (nl_del h.1 a) (nlAll_del h.2 b)
end
end
def passB (ρ : Rho) : List Rv → Option (List SV)
  | [] => some []
  | .sv s :: rs => (passB ρ rs).bind fun ss => some (s :: ss)
  | .plc j :: rs => match ρ[j]? with
    | some (some s) => (passB ρ rs).bind fun ss => some (.val s.d :: ss)
    | _ => none
def frAll (ρ : Rho) : List Rv → Rho
  | [] => ρ
  | .sv _ :: rs => frAll ρ rs
  | .plc j :: rs => match ρ[j]? with
    | some (some (.own o)) => frAll (ρ.set j (some (.val o.d))) rs
    | _ => frAll ρ rs
def plcs : List Rv → List Nat
  | [] => []
  | .sv _ :: rs => plcs rs
  | .plc j :: rs => j :: plcs rs
def evCallL (np : Nat) (cm : CM) (ma : AM) : EM := fun ρ => (ma ρ).bind fun a => (passB a.2 a.1).bind fun as => if as.length = np then (cm as).bind fun x => some (.sv x.1, if nlS x.1 = true then a.2 else frAll a.2 a.1) else none
def evCallI (np : Nat) (cm : CM) (ma : AM) : EM := fun ρ => (ma ρ).bind fun a => match a.1 with
  | .plc j :: rs => (match a.2[j]? with
    | some (some (.own o)) => if j ∈ plcs rs then none else (passB a.2 rs).bind fun as => if as.length + 1 = np then (cm (.own o :: as)).bind fun x =>
        some (.sv x.1, (if (nlS x.1 && nlS x.2) = true then a.2 else frAll a.2 rs).set j (some x.2)) else none
    | _ => none)
  | _ => none
theorem mem_plcs {j : Nat} : ∀ {rs : List Rv}, j ∈ plcs rs ↔ Rv.plc j ∈ rs
  | [] => by simp [plcs]
  | .sv _ :: rs => by simp [plcs, mem_plcs (rs := rs)]
  | .plc i :: rs => by simp [plcs, mem_plcs (rs := rs)]
theorem frAll_len : ∀ {rs : List Rv} {ρ : Rho}, (frAll ρ rs).length = ρ.length
  | [], _ => rfl
  | .sv _ :: rs, ρ => by unfold frAll; exact frAll_len
  | .plc j :: rs, ρ => by
    unfold frAll
    split
    · rw [frAll_len]; simp
    · exact frAll_len
theorem frAll_get : ∀ {rs : List Rv} {ρ : Rho} {i : Nat} {s : SV}, (frAll ρ rs)[i]? = some (some s) → (ρ[i]? = some (some s) ∧ ∀ o, s = .own o → Rv.plc i ∉ rs) ∨ (∃ o, Rv.plc i ∈ rs ∧ ρ[i]? = some (some (.own o)) ∧ s = .val o.d)
  | [], _, _, _, h => .inl ⟨h, fun _ _ => by simp⟩
  | .sv _ :: rs, ρ, i, s, h => by
    unfold frAll at h
    rcases frAll_get h with ⟨h1, h2⟩ | ⟨o, h1, h2⟩
    · exact .inl ⟨h1, fun o e => by simp only [List.mem_cons, not_or]; exact ⟨by simp, h2 o e⟩⟩
    · exact .inr ⟨o, List.mem_cons_of_mem _ h1, h2⟩
  | .plc j :: rs, ρ, i, s, h => by
    unfold frAll at h
    split at h
    · rename_i o ho
      rcases frAll_get h with ⟨h1, h2⟩ | ⟨o', h1, h2, h3⟩
      · rcases set_get h1 with ⟨e1, e2, _⟩ | ⟨ne, h1⟩
        · subst e1
          cases e2
          exact .inr ⟨o, List.mem_cons_self, ho, rfl⟩
        · exact .inl ⟨h1, fun o e => by simp only [List.mem_cons, not_or]; exact ⟨by rintro ⟨⟩; exact ne rfl, h2 o e⟩⟩
      · rcases set_get h2 with ⟨_, e2, _⟩ | ⟨ne, h2⟩
        · cases e2
        · exact .inr ⟨o', List.mem_cons_of_mem _ h1, h2, h3⟩
    · rename_i hno
      rcases frAll_get h with ⟨h1, h2⟩ | ⟨o, h1, h2⟩
      · refine .inl ⟨h1, fun o e => ?_⟩
        simp only [List.mem_cons, not_or]
        refine ⟨?_, h2 o e⟩
        rintro ⟨⟩
        subst e
        exact hno o h1
      · exact .inr ⟨o, List.mem_cons_of_mem _ h1, h2⟩
theorem frAll_sls : ∀ {rs : List Rv} {ρ : Rho}, Sls ρ (frAll ρ rs)
  | [], _ => fun _ s h => ⟨s, h⟩
  | .sv _ :: rs, ρ => by unfold frAll; exact frAll_sls
  | .plc j :: rs, ρ => by
    unfold frAll
    split
    · exact fun i s h => let ⟨s', h'⟩ := slots_set i s h; frAll_sls i s' h'
    · exact frAll_sls
def Lent (ρ : Rho) (σ : L2.St) (rs : List Rv) (p : Addr) : Prop := ∃ (j : Nat) (o : OB), Rv.plc j ∈ rs ∧ ρ[j]? = some (some (.own o)) ∧ σ[j]? = some (some (.ref p))
open Classical in
noncomputable def lendF (B : Addr → Prop) (F H : Hp) : Hp := fun a => if B a then H a else F a
open Classical in
noncomputable def unlF (B : Addr → Prop) (F : Hp) : Hp := fun a => if B a then none else F a
section
variable {k : Kx} {ρ ρ1 : Rho} {σ : L2.St} {F H F1 H1 F' H' : Hp} {rs : List Rv} {vs : List V}
theorem Lent.own {p : Addr} (h : Lent ρ σ rs p) : Own ρ σ p := let ⟨j, o, _, h2, h3⟩ := h; ⟨j, o, h2, h3⟩
theorem Lent.lst (f : FR k F ρ σ H) {p : Addr} (h : Lent ρ σ rs p) : ∃ o, H p = some o ∧ Mu o := by
  obtain ⟨j, o, _, h2, h3⟩ := h
  obtain ⟨q, ho, e1, e2, _, e4⟩ := f.owns j o h2
  rw [h3] at e1; cases e1
  cases o with
  | lst xs => obtain ⟨ws, rfl, _⟩ := e4; exact ⟨_, e2, trivial⟩
  | ins c fs => obtain ⟨C, ns, dx, vs, _, rfl, _⟩ := e4; exact ⟨_, e2, trivial⟩
  | dct t ks ds =>
    obtain ⟨vs, rfl, _⟩ := e4
    refine ⟨_, e2, ?_⟩
    unfold hoD
    split <;> trivial
theorem lend_sub (f : FR k F ρ σ H) : Sub F (lendF (Lent ρ σ rs) F H) := fun a o e => by
  unfold lendF
  split
  · rename_i h
    rw [f.own_none h.own] at e; cases e
  · exact ⟨_, e, rfl⟩
theorem lend_in (f : FR k F ρ σ H) : Sub (lendF (Lent ρ σ rs) F H) H := fun a o e => by
  unfold lendF at e
  split at e
  · exact ⟨_, e, rfl⟩
  · exact f.sub a o e
theorem lend_at {p : Addr} (h : Lent ρ σ rs p) : lendF (Lent ρ σ rs) F H p = H p := by unfold lendF; rw [if_pos h]
theorem lend_off {p : Addr} (h : ¬ Lent ρ σ rs p) : lendF (Lent ρ σ rs) F H p = F p := by unfold lendF; rw [if_neg h]
theorem passB_ok (f0 : FR k F ρ σ H) (A : Aft k ρ σ F H ρ1 F1 H1) {all : List Rv} (hall : ∀ r ∈ rs, r ∈ all) : ∀ {rs : List Rv} {vs : List V} {Hs : Hp} {as : List SV}, (∀ r ∈ rs, r ∈ all) → (∀ p, H p ≠ none → Hs p ≠ none) → RRs k F1 ρ1 σ H1 Hs rs vs → passB ρ1 rs = some as →
    ArgsR k (lendF (Lent ρ1 σ all) F1 H1) H1 as vs ∧ ∀ p, ArgOwn as vs p → Hs p = none ∧ H1 p ≠ none
  | [], _, _, _, _, _, .nil, e => by
    simp only [passB, Option.some.injEq] at e
    subst e
    exact ⟨.nil, fun p ⟨i, o, h, _⟩ => by simp at h⟩
  | .sv s :: rs, v :: vs, Hs, as, hm, hs, .cons (H1 := Hn) a b c d, e => by
    simp only [passB, Option.bind_eq_some_iff] at e
    obtain ⟨ss, e1, e2⟩ := e
    cases e2
    obtain ⟨i1, i2⟩ := passB_ok f0 A hall (rs := rs) (fun r hr => hm r (List.mem_cons_of_mem _ hr)) (fun p h => c p (hs p h)) b e1
    have hd : ArgR k (lendF (Lent ρ1 σ all) F1 H1) H1 s v := by
      cases s with
      | val dd => exact Rep.mono (lend_sub A.fr) a
      | own o =>
        obtain ⟨p, ho, q1, q2, q3, q4, q5⟩ := a
        refine ⟨p, ho, q1, q3, ?_, q5.mono (lend_sub A.fr)⟩
        rw [lend_off]
        · exact q4
        · intro z
          obtain ⟨u, hu⟩ := f0.own_some (A.ow p z.own)
          exact absurd q2 (hs p (by rw [hu]; simp))
    refine ⟨.cons hd i1 fun o eo j o' h1 h2 => ?_, fun p hp => ?_⟩
    · obtain ⟨p, q1, q2⟩ := d o (by rw [eo])
      exact absurd (i2 p ⟨j, o', h1, by rw [h2, q1]⟩).1 q2
    · obtain ⟨i, o, h1, h2⟩ := hp
      cases i with
      | zero =>
        simp at h1 h2
        subst h1
        obtain ⟨q, ho, q1, q2, q3, q4, q5⟩ := a
        rw [h2] at q1; cases q1
        exact ⟨q2, by rw [q3]; simp⟩
      | succ i =>
        obtain ⟨z1, z2⟩ := i2 p ⟨i, o, by simpa using h1, by simpa using h2⟩
        refine ⟨?_, z2⟩
        cases z : Hs p with
        | none => rfl
        | some u => exact absurd z1 (c p (by rw [z]; simp))
  | .plc j :: rs, v :: vs, Hs, as, hm, hs, .cons (H1 := Hn) a b c d, e => by
    simp only [passB] at e
    split at e
    · rename_i s0 hs0
      simp only [Option.bind_eq_some_iff] at e
      obtain ⟨ss, e1, e2⟩ := e
      cases e2
      obtain ⟨i1, i2⟩ := passB_ok f0 A hall (rs := rs) (fun r hr => hm r (List.mem_cons_of_mem _ hr)) (fun p h => c p (hs p h)) b e1
      have hd : Rep k (lendF (Lent ρ1 σ all) F1 H1) v s0.d := by
        obtain ⟨q1, _⟩ := a
        cases s0 with
        | val dd =>
          obtain ⟨v', r1, r2⟩ := A.fr.vals j dd hs0
          rw [q1] at r1; cases r1
          exact r2.mono (lend_sub A.fr)
        | own o =>
          obtain ⟨p, ho, r1, r2, r3, r4⟩ := A.fr.owns j o hs0
          rw [q1] at r1; cases r1
          exact RepO.rep (r4.mono (lend_sub A.fr)) ⟨_, (by rw [lend_at ⟨j, o, hm _ List.mem_cons_self, hs0, q1⟩]; exact r2), rfl⟩
      refine ⟨.cons hd i1 (fun o eo => nomatch eo), fun p hp => ?_⟩
      obtain ⟨i, o, h1, h2⟩ := hp
      cases i with
      | zero => simp at h1
      | succ i =>
        obtain ⟨z1, z2⟩ := i2 p ⟨i, o, by simpa using h1, by simpa using h2⟩
        refine ⟨?_, z2⟩
        cases z : Hs p with
        | none => rfl
        | some u => exact absurd z1 (c p (by rw [z]; simp))
    · cases e
end
end Pv

/-! Pva: a def called: the simulation. -/
namespace Pv
open PySem PySem.Spec PySem.SeqAt L2
section
variable {k : Kx} {ρ ρ1 : Rho} {σ : L2.St} {F H F1 H1 F' H' : Hp} {rs : List Rv} {vs : List V}
theorem unl_off {B : Addr → Prop} {p : Addr} (h : ¬ B p) : unlF B F p = F p := by unfold unlF; rw [if_neg h]
theorem unl_at {B : Addr → Prop} {p : Addr} (h : B p) : unlF B F p = none := by unfold unlF; rw [if_pos h]
theorem unl_sub {B : Addr → Prop} : Sub (unlF B F) F := fun a o e => by
  unfold unlF at e
  split at e
  · cases e
  · exact ⟨_, e, rfl⟩
theorem backL (f1 : FR k F1 ρ1 σ H1) {I : Addr → Prop} (sb : Sub F' H') (tr : Tr I (lendF (Lent ρ1 σ rs) F1 H1) H1 F' H') (hI : ∀ p, I p → ¬ Own ρ1 σ p ∨ ∃ j o, Rv.plc j ∉ rs ∧ ρ1[j]? = some (some (.own o)) ∧ σ[j]? = some (some (.ref p))) {ρ2 : Rho} {F2 : Hp}
    (hF : (F2 = unlF (Lent ρ1 σ rs) F' ∧ ρ2 = ρ1) ∨ (F2 = F' ∧ ρ2 = frAll ρ1 rs)) :
    Sub F2 H' ∧ Sub F1 F2 ∧ ρ2.length = σ.length ∧ Sls ρ1 ρ2 ∧ (∀ (i : Nat) (d : D), ρ2[i]? = some (some (.val d)) → ∃ v, σ[i]? = some (some v) ∧ Rep k F2 v d) ∧
    (∀ (i : Nat) (o : OB), ρ2[i]? = some (some (.own o)) → ρ1[i]? = some (some (.own o)) ∧ ∃ p ho, σ[i]? = some (some (.ref p)) ∧ (¬ I p → H' p = some ho ∧ F2 p = none ∧ RepO k F2 p o ho)) ∧
    (∀ p o, H1 p = some o → ¬ I p → H' p = some o) ∧ (∀ p o, H1 p = some o → NoT o → F1 p = none → ¬ I p → ¬ Own ρ1 σ p → F2 p = none) := by
  have nI : ∀ p, Lent ρ1 σ rs p → ¬ I p := fun p h z => by
    rcases hI p z with n | ⟨j, o, h1, h2, h3⟩
    · exact n h.own
    · obtain ⟨j', o', q1, q2, q3⟩ := h
      have := f1.dist j j' o o' p h2 q2 h3 q3
      subst this
      exact h1 q1
  have s1 : Sub F1 F' := (lend_sub f1).trans tr.sub
  rcases hF with ⟨rfl, rfl⟩ | ⟨rfl, rfl⟩
  · have s2 : Sub F1 (unlF (Lent ρ2 σ rs) F') := fun a o e => by
      rw [unl_off]
      · exact s1 a o e
      · intro z
        rw [f1.own_none z.own] at e; cases e
    refine ⟨unl_sub.trans sb, s2, f1.len, fun i s h => ⟨s, h⟩, fun i d h => ?_, fun i o h => ⟨h, ?_⟩, tr.keep, fun p o h1 m h2 h3 h4 => ?_⟩
    · obtain ⟨v, e, r⟩ := f1.vals i d h
      exact ⟨v, e, r.mono s2⟩
    · obtain ⟨p, ho, e1, e2, e3, e4⟩ := f1.owns i o h
      refine ⟨p, ho, e1, fun n => ⟨tr.keep p ho e2 n, ?_, e4.mono s2⟩⟩
      by_cases z : Lent ρ2 σ rs p
      · exact unl_at z
      · rw [unl_off z]
        exact tr.new p ho e2 e4.nt (by rw [lend_off z]; exact e3) n
    · have z : ¬ Lent ρ2 σ rs p := fun z => h4 z.own
      rw [unl_off z]
      exact tr.new p o h1 m (by rw [lend_off z]; exact h2) h3
  · refine ⟨sb, s1, by rw [frAll_len]; exact f1.len, frAll_sls, fun i d h => ?_, fun i o h => ?_, tr.keep, fun p o h1 m h2 h3 h4 => ?_⟩
    · rcases frAll_get h with ⟨h1, _⟩ | ⟨o, h1, h2, h3⟩
      · obtain ⟨v, e, r⟩ := f1.vals i d h1
        exact ⟨v, e, r.mono s1⟩
      · cases h3
        obtain ⟨p, ho, e1, e2, e3, e4⟩ := f1.owns i o h2
        refine ⟨.ref p, e1, RepO.rep (e4.mono s1) ?_⟩
        exact tr.sub p ho (by rw [lend_at ⟨i, o, h1, h2, e1⟩]; exact e2)
    · rcases frAll_get h with ⟨h1, h2⟩ | ⟨o', h1, h2, h3⟩
      · obtain ⟨p, ho, e1, e2, e3, e4⟩ := f1.owns i o h1
        refine ⟨h1, p, ho, e1, fun n => ⟨tr.keep p ho e2 n, ?_, e4.mono s1⟩⟩
        have z : ¬ Lent ρ1 σ rs p := fun ⟨j, o', q1, q2, q3⟩ => by
          have := f1.dist i j o o' p h1 q2 e1 q3
          subst this
          exact h2 o rfl q1
        exact tr.new p ho e2 e4.nt (by rw [lend_off z]; exact e3) n
      · cases h3
    · have z : ¬ Lent ρ1 σ rs p := fun z => h4 z.own
      exact tr.new p o h1 m (by rw [lend_off z]; exact h2) h3
theorem Lent.lstF (f1 : FR k F1 ρ1 σ H1) {I : Addr → Prop} (tr : Tr I (lendF (Lent ρ1 σ rs) F1 H1) H1 F' H') : ∀ p, Lent ρ1 σ rs p → ∃ o, F' p = some o ∧ Mu o := fun p h => by
  obtain ⟨ws, e, m⟩ := h.lst f1
  exact Mu.sub tr.sub (show lendF (Lent ρ1 σ rs) F1 H1 p = some ws by rw [lend_at h]; exact e) m
theorem nlS_del {B : Addr → Prop} (hB : ∀ a, B a → ∃ o, F' a = some o ∧ Mu o) {A : Addr → Prop} {s : SV} {v : V} (h : nlS s = true) (r : ResR k A H F' H' s v) : ResR k A H (unlF B F') H' s v := by
  cases s with
  | val d => exact nl_del hB (fun a z => unl_off z) h r
  | own o =>
    cases o with
    | lst xs =>
      obtain ⟨p, ho, e1, e2, e3, e4, ws, rfl, r⟩ := r
      refine ⟨p, _, e1, e2, e3, ?_, ws, rfl, nlAll_del hB (fun a z => unl_off z) h r⟩
      by_cases z : B p
      · exact unl_at z
      · rw [unl_off z]; exact e4
    | dct t ks ds => simp [nlS] at h
    | ins c fs =>
      obtain ⟨p, ho, e1, e2, e3, e4, C, ns, dx, vs, q1, rfl, q3, q4, r⟩ := r
      refine ⟨p, _, e1, e2, e3, ?_, C, ns, dx, vs, q1, rfl, ?_, q4, nlAll_del hB (fun a z => unl_off z) h r⟩
      · by_cases z : B p
        · exact unl_at z
        · rw [unl_off z]; exact e4
      · rw [unl_off]
        · exact q3
        · intro z
          obtain ⟨o, y1, y2⟩ := hB dx z
          rw [q3] at y1; cases y1; exact y2
theorem nlA_del {B : Addr → Prop} (hB : ∀ a, B a → ∃ o, F' a = some o ∧ Mu o) {s : SV} {v : V} (h : nlS s = true) (r : ArgR k F' H' s v) : ArgR k (unlF B F') H' s v := by
  cases s with
  | val d => exact nl_del hB (fun a z => unl_off z) h r
  | own o =>
    cases o with
    | lst xs =>
      obtain ⟨p, ho, e1, e3, e4, ws, rfl, r⟩ := r
      refine ⟨p, _, e1, e3, ?_, ws, rfl, nlAll_del hB (fun a z => unl_off z) h r⟩
      by_cases z : B p
      · exact unl_at z
      · rw [unl_off z]; exact e4
    | dct t ks ds => simp [nlS] at h
    | ins c fs =>
      obtain ⟨p, ho, e1, e3, e4, C, ns, dx, vs, q1, rfl, q3, q4, r⟩ := r
      refine ⟨p, _, e1, e3, ?_, C, ns, dx, vs, q1, rfl, ?_, q4, nlAll_del hB (fun a z => unl_off z) h r⟩
      · by_cases z : B p
        · exact unl_at z
        · rw [unl_off z]; exact e4
      · rw [unl_off]
        · exact q3
        · intro z
          obtain ⟨o, y1, y2⟩ := hB dx z
          rw [q3] at y1; cases y1; exact y2
end
theorem simCallL {k : Kx} {io : Bool} {np : Nat} {cm : CM} {E : XK} {ta : TA} {ma : AM} (ha : SimA k ta ma) : SimE k (tCall (spF k io np cm) [] E ta) (evCallL np cm ma) := by
  intro F ρ σ H Q f h
  unfold evCallL at h
  refine ha F ρ σ H _ f ((wpo_bind.mp h).mono fun a _ h => ?_)
  intro vs F1 H1 A1 R1
  have h := wpo_bind.mp h
  cases e1 : passB a.2 a.1 with
  | none => rw [e1] at h; exact h.elim
  | some as =>
    rw [e1] at h
    have h : wpo (if as.length = np then (cm as).bind fun x => some (Rv.sv x.1, if nlS x.1 = true then a.2 else frAll a.2 a.1) else none) _ := h
    obtain ⟨ar, ao⟩ := passB_ok (all := a.1) (rs := a.1) f A1 (fun _ z => z) (fun _ z => z) (fun _ z => z) R1 e1
    split at h
    · rename_i hl
      have el := ar.len
      refine ⟨_, as, lend_in A1.fr, by rw [List.append_nil]; exact ar, by rw [List.append_nil]; omega, (wpo_bind.mp h).mono fun x _ h => ?_⟩
      intro v F' H' sb tr rr _
      rw [List.append_nil] at tr rr
      have hI : ∀ p, ArgOwn as vs p → ¬ Own a.2 σ p := fun p z o => by
        obtain ⟨u, hu⟩ := f.own_some (A1.ow p o)
        rw [(ao p z).1] at hu; cases hu
      have hI' : ∀ p, ArgOwn as vs p → ¬ Own a.2 σ p ∨ ∃ j o, Rv.plc j ∉ a.1 ∧ a.2[j]? = some (some (.own o)) ∧ σ[j]? = some (some (.ref p)) := fun p z => .inl (hI p z)
      have fin : ∀ {ρ2 : Rho} {F2 : Hp}, ((F2 = unlF (Lent a.2 σ a.1) F' ∧ ρ2 = a.2) ∨ (F2 = F' ∧ ρ2 = frAll a.2 a.1)) → Aft k ρ σ F H ρ2 F2 H' := fun {ρ2 F2} hF => by
        obtain ⟨b1, b2, b3, b4, b5, b6, b7, b8⟩ := backL A1.fr sb tr hI' hF
        have ow : ∀ p, Own ρ2 σ p → Own a.2 σ p := fun p ⟨i, o, q1, q2⟩ => ⟨i, o, (b6 i o q1).1, q2⟩
        refine ⟨⟨b1, b3, b5, fun i o q => ?_, fun i j o o' p q1 q2 q3 q4 => A1.fr.dist i j o o' p (b6 i o q1).1 (b6 j o' q2).1 q3 q4⟩, ⟨A1.tr.sub.trans b2, fun p o q n => ?_, fun p o q m n n2 => ?_, fun p o q => ?_⟩, fun p z => A1.ow p (ow p z), fun i s q => let ⟨s', q'⟩ := A1.sl i s q; b4 i s' q'⟩
        · obtain ⟨q0, p, ho, q1, q2⟩ := b6 i o q
          obtain ⟨q3, q4, q5⟩ := q2 fun z => hI p z ⟨i, o, q0, q1⟩
          exact ⟨p, ho, q1, q3, q4, q5⟩
        · exact b7 p o (A1.tr.keep p o q n) fun z => by rw [(ao p z).1] at q; cases q
        · exact b8 p o (A1.tr.keep p o q n2) m (A1.tr.new p o q m n n2) (fun z => by rw [(ao p z).1] at q; cases q) fun z => n2 (A1.ow p z)
        · obtain ⟨o', q'⟩ := A1.tr.there p o q
          exact tr.there p o' q'
      have res : ∀ {ρ2 : Rho} {F2 : Hp}, ResR k (ArgGiv io as vs) H1 F2 H' x.1 v → RR k H F2 ρ2 σ H' (.sv x.1) v := fun {ρ2 F2} rr => by
        cases hx : x.1 with
        | val d => rw [hx] at rr; exact rr
        | own o =>
          rw [hx] at rr
          obtain ⟨p, ho, q1, q2, q3⟩ := rr
          refine ⟨p, ho, q1, ?_, q3⟩
          rcases q2 with q2 | ⟨i, o', _, q4, q5⟩
          · exact A1.none_of q2
          · exact (ao p ⟨i, o', q4, q5⟩).1
      by_cases hn : nlS x.1 = true
      · have h := h v (unlF (Lent a.2 σ a.1) F') H'
        simp only [if_pos hn] at h
        exact h (fin (.inl ⟨rfl, rfl⟩)) (res (nlS_del (Lent.lstF A1.fr tr) hn rr))
      · have h := h v F' H'
        simp only [if_neg hn] at h
        exact h (fin (.inr ⟨rfl, rfl⟩)) (res rr)
    · exact h.elim
theorem simCallI {k : Kx} {np : Nat} {cm : CM} {E : XK} {ta : TA} {ma : AM} (ha : SimA k ta ma) : SimE k (tCall (spF k true np cm) [] E ta) (evCallI np cm ma) := by
  intro F ρ σ H Q f h
  unfold evCallI at h
  refine ha F ρ σ H _ f ((wpo_bind.mp h).mono fun a _ h => ?_)
  intro vs F1 H1 A1 R1
  obtain ⟨al, ρ1⟩ := a
  dsimp only at h A1 R1
  match al, h, R1 with
  | [], h, _ => exact h.elim
  | .sv _ :: _, h, _ => exact h.elim
  | .plc j :: rs, h, R1 =>
    dsimp only at h
    split at h
    · rename_i o hj
      split at h
      · exact h.elim
      · rename_i njp
        have nj : Rv.plc j ∉ rs := fun z => njp (mem_plcs.mpr z)
        match vs, R1 with
        | v0 :: vs, .cons (H1 := Hn) r0 R1 c d =>
          obtain ⟨q1, _⟩ := r0
          obtain ⟨p0, ho, e1, e2, e3, e4⟩ := A1.fr.owns j o hj
          rw [q1] at e1; cases e1
          have op0 : Own ρ1 σ p0 := ⟨j, o, hj, q1⟩
          have h := wpo_bind.mp h
          cases eb : passB ρ1 rs with
          | none => rw [eb] at h; exact h.elim
          | some as =>
            rw [eb] at h
            have h : wpo (if as.length + 1 = np then (cm (.own o :: as)).bind fun x => some (Rv.sv x.1, List.set (if (nlS x.1 && nlS x.2) = true then ρ1 else frAll ρ1 rs) j (some x.2)) else none) _ := h
            obtain ⟨ar, ao⟩ := passB_ok (all := rs) (rs := rs) f A1 (fun _ z => z) (fun _ z => z) c R1 eb
            have aoH : ∀ p, ArgOwn as vs p → H p = none := fun p z => by
              cases y : H p with
              | none => rfl
              | some u => exact absurd (ao p z).1 (c p (by rw [y]; simp))
            have nl0 : ¬ Lent ρ1 σ rs p0 := fun ⟨j', o', z1, z2, z3⟩ => by
              have := A1.fr.dist j j' o o' p0 hj z2 q1 z3
              subst this
              exact nj z1
            have n0 : ¬ ArgOwn as vs p0 := fun z => by
              obtain ⟨u, hu⟩ := f.own_some (A1.ow p0 op0)
              rw [aoH p0 z] at hu; cases hu
            have AO : ∀ p, ArgOwn (.own o :: as) (.ref p0 :: vs) p → p = p0 ∨ ArgOwn as vs p := fun p ⟨i, o', z1, z2⟩ => by
              cases i with
              | zero => simp at z2; exact .inl z2.symm
              | succ i => exact .inr ⟨i, o', by simpa using z1, by simpa using z2⟩
            split at h
            · rename_i hl
              have el := ar.len
              refine ⟨lendF (Lent ρ1 σ rs) F1 H1, .own o :: as, lend_in A1.fr, ?_, ?_, (wpo_bind.mp h).mono fun x _ h => ?_⟩
              · rw [List.append_nil]
                exact .cons ⟨p0, ho, rfl, e2, by rw [lend_off nl0]; exact e3, e4.mono (lend_sub A1.fr)⟩ ar fun o1 _ i o' z1 z2 => n0 ⟨i, o', z1, z2⟩
              · rw [List.append_nil, List.length_cons]; omega
              intro v F' H' sb tr rr outs
              rw [List.append_nil] at tr rr outs
              obtain ⟨u, hu, ou⟩ := outs rfl
              simp at hu
              subst hu
              have hI : ∀ p, ArgOwn (.own o :: as) (.ref p0 :: vs) p → ¬ Own ρ1 σ p ∨ ∃ j o, Rv.plc j ∉ rs ∧ ρ1[j]? = some (some (.own o)) ∧ σ[j]? = some (some (.ref p)) := fun p z => by
                rcases AO p z with rfl | z
                · exact .inr ⟨j, o, nj, hj, q1⟩
                · refine .inl fun w => ?_
                  obtain ⟨u, hu⟩ := f.own_some (A1.ow p w)
                  rw [aoH p z] at hu; cases hu
              have fin : ∀ {ρ2 : Rho} {F2 : Hp}, ArgR k F2 H' x.2 (.ref p0) → ((F2 = unlF (Lent ρ1 σ rs) F' ∧ ρ2 = ρ1) ∨ (F2 = F' ∧ ρ2 = frAll ρ1 rs)) → Aft k ρ σ F H (ρ2.set j (some x.2)) F2 H' := fun {ρ2 F2} ou hF => by
                obtain ⟨b1, b2, b3, b4, b5, b6, b7, b8⟩ := backL A1.fr sb tr hI hF
                have own2 : ∀ (i : Nat) (o' : OB), (ρ2.set j (some x.2))[i]? = some (some (.own o')) → ∃ o1, ρ1[i]? = some (some (.own o1)) := fun i o' z => by
                  rcases set_get z with ⟨rfl, _, _⟩ | ⟨_, z⟩
                  · exact ⟨o, hj⟩
                  · exact ⟨o', (b6 i o' z).1⟩
                have ow : ∀ p, Own (ρ2.set j (some x.2)) σ p → Own ρ1 σ p := fun p ⟨i, o', z1, z2⟩ => let ⟨o1, z3⟩ := own2 i o' z1; ⟨i, o1, z3, z2⟩
                have nI : ∀ p, (∃ i o', i ≠ j ∧ ρ1[i]? = some (some (.own o')) ∧ σ[i]? = some (some (.ref p))) → ¬ ArgOwn (.own o :: as) (.ref p0 :: vs) p := fun p ⟨i, o', ni, z1, z2⟩ z => by
                  rcases AO p z with rfl | z
                  · exact ni (A1.fr.dist i j o' o p z1 hj z2 q1)
                  · obtain ⟨u, hu⟩ := f.own_some (A1.ow p ⟨i, o', z1, z2⟩)
                    rw [aoH p z] at hu; cases hu
                refine ⟨⟨b1, by simpa using b3, fun i dd q => ?_, fun i o' q => ?_, fun i i' o1 o2 p z1 z2 z3 z4 => ?_⟩, ⟨A1.tr.sub.trans b2, fun p o' q n => ?_, fun p o' q m n n2 => ?_, fun p o' q => ?_⟩, fun p z => A1.ow p (ow p z), fun i s q => ?_⟩
                · rcases set_get q with ⟨rfl, z, _⟩ | ⟨_, z⟩
                  · cases z2 : x.2 with
                    | val d' =>
                      rw [z2] at z ou; cases z
                      exact ⟨_, q1, ou⟩
                    | own o' => rw [z2] at z; cases z
                  · exact b5 i dd z
                · rcases set_get q with ⟨rfl, z, _⟩ | ⟨ni, z⟩
                  · cases z2 : x.2 with
                    | val d' => rw [z2] at z; cases z
                    | own o1 =>
                      rw [z2] at z ou; cases z
                      obtain ⟨p, ho', y1, y2, y3, y4⟩ := ou
                      cases y1
                      exact ⟨p0, ho', q1, y2, y3, y4⟩
                  · obtain ⟨z0, p, ho', z1, z2⟩ := b6 i o' z
                    obtain ⟨y1, y2, y3⟩ := z2 (nI p ⟨i, o', ni, z0, z1⟩)
                    exact ⟨p, ho', z1, y1, y2, y3⟩
                · obtain ⟨_, y1⟩ := own2 i o1 z1
                  obtain ⟨_, y2⟩ := own2 i' o2 z2
                  exact A1.fr.dist i i' _ _ p y1 y2 z3 z4
                · exact b7 p o' (A1.tr.keep p o' q n) fun z => by
                    rcases AO p z with rfl | z
                    · exact n (A1.ow p op0)
                    · rw [aoH p z] at q; cases q
                · exact b8 p o' (A1.tr.keep p o' q n2) m (A1.tr.new p o' q m n n2) (fun z => by
                    rcases AO p z with rfl | z
                    · exact n2 (A1.ow p op0)
                    · rw [aoH p z] at q; cases q) fun z => n2 (A1.ow p z)
                · obtain ⟨o1, q'⟩ := A1.tr.there p o' q
                  exact tr.there p o1 q'
                · obtain ⟨s1, q1'⟩ := A1.sl i s q
                  obtain ⟨s2, q2⟩ := b4 i s1 q1'
                  by_cases ei : i = j
                  · subst ei
                    exact ⟨x.2, List.getElem?_set_self (List.getElem?_eq_some_iff.mp q2).1⟩
                  · exact ⟨s2, by rw [get_set (Ne.symm ei)]; exact q2⟩
              have res : ∀ {ρ2 : Rho} {F2 : Hp}, ResR k (ArgGiv true (.own o :: as) (.ref p0 :: vs)) H1 F2 H' x.1 v → RR k H F2 ρ2 σ H' (.sv x.1) v := fun {ρ2 F2} rr => by
                cases hx : x.1 with
                | val d => rw [hx] at rr; exact rr
                | own o1 =>
                  rw [hx] at rr
                  obtain ⟨p, ho', q1, q2, q3⟩ := rr
                  refine ⟨p, ho', q1, ?_, q3⟩
                  rcases q2 with q2 | ⟨i, o', q6, q4, q5⟩
                  · exact A1.none_of q2
                  · cases i with
                    | zero => exact absurd rfl (q6 rfl)
                    | succ i => exact aoH p ⟨i, o', by simpa using q4, by simpa using q5⟩
              by_cases hn : (nlS x.1 && nlS x.2) = true
              · have hn' := Bool.and_eq_true_iff.mp hn
                have h := h v (unlF (Lent ρ1 σ rs) F') H'
                simp only [if_pos hn] at h
                exact h (fin (nlA_del (Lent.lstF A1.fr tr) hn'.2 ou) (.inl ⟨rfl, rfl⟩)) (res (nlS_del (Lent.lstF A1.fr tr) hn'.1 rr))
              · have h := h v F' H'
                simp only [if_neg hn] at h
                exact h (fin ou (.inr ⟨rfl, rfl⟩)) (res rr)
            · exact h.elim
    · exact h.elim
end Pv

/-! Pvb: built-in functions. -/
namespace Pv
open PySem PySem.Spec PySem.SeqAt L2

theorem RdRs.one {k : Kx} {F H : Hp} {vs : List V} {d : D} (h : RdRs k F H vs [d]) : ∃ v, vs = [v] ∧ RdR k F H v d := by
  cases h with
  | cons a b => cases b; exact ⟨_, rfl, a⟩
theorem RdRs.two {k : Kx} {F H : Hp} {vs : List V} {d e : D} (h : RdRs k F H vs [d, e]) : ∃ v u, vs = [v, u] ∧ RdR k F H v d ∧ RdR k F H u e := by
  cases h with
  | cons a b =>
    obtain ⟨u, rfl, r⟩ := b.one
    exact ⟨_, u, rfl, a, r⟩
/-! len -/
def gLen : List D → Option SV
  | [.list xs] => some (.val (.int xs.length))
  | [.tuple xs] => some (.val (.int xs.length))
  | [.dict [(.bool true, .list xs)]] => some (.val (.int xs.length))
  | [.str x] => if x.length ≤ sizeLine then some (.val (.int x.length)) else none
  | _ => none
def rLenS (K : PySem.W.Frag) : List V → Hp → VK → Prop := fun xs H Q => (∃ p ys, xs = [.ref p] ∧ (SqL K H p ys ∨ SqT K H p ys) ∧ Q (.int ys.length) H) ∨ (∃ z, xs = [.str z] ∧ z.length ≤ sizeLine ∧ Q (.int z.length) H)
theorem cr_lenS {X : Cx} : CallR X (.builtin "len") (rLenS X.K) := call_len_seq.or call_len_str
theorem simLen {k : Kx} : CallSim k (rLenS k.K) gLen := by
  intro F ρ σ H vs ds Q f rd h
  unfold gLen at h
  split at h
  · obtain ⟨v, rfl, r⟩ := rd.one
    obtain ⟨a, ws, rfl, ha, rl⟩ := r.lst f.sub
    exact .inl ⟨a, ws, rfl, .inl (.inl (.inl ha)), by rw [rl.length]; exact h _ F H (Aft.refl f) (.int _)⟩
  · obtain ⟨v, rfl, r⟩ := rd.one
    obtain ⟨a, ws, rfl, _, ha, rl⟩ := r.tup f.sub
    exact .inl ⟨a, ws, rfl, .inr ha, by rw [rl.length]; exact h _ F H (Aft.refl f) (.int _)⟩
  · obtain ⟨v, rfl, r⟩ := rd.one
    obtain ⟨a, ws, rfl, ha, rl⟩ := r.fls f.sub
    exact .inl ⟨a, ws, rfl, .inl ha, by rw [rl.length]; exact h _ F H (Aft.refl f) (.int _)⟩
  · obtain ⟨v, rfl, r⟩ := rd.one
    split at h
    · rename_i hz
      rw [r.str]
      exact .inr ⟨_, rfl, hz, h _ F H (Aft.refl f) (.int _)⟩
    · exact h.elim
  · exact h.elim
/-! int -/
def gInt : List D → Option SV
  | [.int i] => some (.val (.int i))
  | [.bool b] => some (.val (.int (if b then 1 else 0)))
  | _ => none
def rInt1 : List V → Hp → VK → Prop := fun xs H Q => (∃ i, xs = [.int i] ∧ Q (.int i) H) ∨ ∃ k, xs = [.bl k] ∧ Q (.int (if k then 1 else 0)) H
theorem simInt {k : Kx} : CallSim k rInt1 gInt := by
  intro F ρ σ H vs ds Q f rd h
  unfold gInt at h
  split at h
  · obtain ⟨v, rfl, r⟩ := rd.one
    rw [r.int]
    exact .inl ⟨_, rfl, h _ F H (Aft.refl f) (.int _)⟩
  · obtain ⟨v, rfl, r⟩ := rd.one
    rw [r.bl]
    exact .inr ⟨_, rfl, h _ F H (Aft.refl f) (.int _)⟩
  · exact h.elim
/-! list, tuple -/
def gList (ds : List D) : Option SV := match ds with
  | [d] => (seqD d).map fun xs => .own (.lst xs)
  | _ => none
def rListOf (K : PySem.W.Frag) : List V → Hp → VK → Prop := fun xs H Q => ∃ p ys, xs = [.ref p] ∧ (SqL K H p ys ∨ SqT K H p ys) ∧ ∀ l, H l = none → Q (.ref l) (upd H l (.lst ys))
theorem RdR.seq {k : Kx} {F H : Hp} {v : V} {d : D} {xs : List D} (s : Sub F H) (r : RdR k F H v d) (e : seqD d = some xs) : ∃ a vs, v = .ref a ∧ (SqL k.K H a vs ∨ SqT k.K H a vs) ∧ RepL k F vs xs := by
  unfold seqD at e
  split at e
  · cases e
    obtain ⟨a, ws, rfl, ha, rl⟩ := r.lst s
    exact ⟨a, ws, rfl, .inl (.inl (.inl ha)), rl⟩
  · cases e
    obtain ⟨a, ws, rfl, _, ha, rl⟩ := r.tup s
    exact ⟨a, ws, rfl, .inr ha, rl⟩
  · cases e
    obtain ⟨a, ws, rfl, ha, rl⟩ := r.fls s
    exact ⟨a, ws, rfl, .inl ha, rl⟩
  · cases e
theorem simList {k : Kx} : CallSim k (rListOf k.K) gList := by
  intro F ρ σ H vs ds Q f rd h
  unfold gList at h
  split at h
  · rename_i d
    obtain ⟨v, rfl, r⟩ := rd.one
    cases e : seqD d with
    | none => rw [e] at h; exact h.elim
    | some xs =>
      rw [e] at h
      obtain ⟨a, ws, rfl, ha, rl⟩ := r.seq f.sub e
      exact ⟨a, ws, rfl, ha, fun l hl => h _ F _ (Aft.newO f hl) ⟨l, _, rfl, hl, upd_same, f.sub.none_of hl, _, rfl, rl⟩⟩
  · exact h.elim
def gTuple : List D → Option SV
  | [.list xs] => some (.val (.tuple xs))
  | [.tuple xs] => some (.val (.tuple xs))
  | _ => none
def rTupleOf (K : PySem.W.Frag) : List V → Hp → VK → Prop := fun xs H Q => ∃ p ys, xs = [.ref p] ∧ ((SqL K H p ys ∧ ∀ l, H l = none → Q (.ref l) (upd H l (.tup ys))) ∨ (SqT K H p ys ∧ Q (.ref p) H))
theorem simTuple {k : Kx} : CallSim k (rTupleOf k.K) gTuple := by
  intro F ρ σ H vs ds Q f rd h
  unfold gTuple at h
  split at h
  · obtain ⟨v, rfl, r⟩ := rd.one
    obtain ⟨a, ws, rfl, ha, rl⟩ := r.lst f.sub
    exact ⟨a, ws, rfl, .inl ⟨.inl (.inl ha), fun l hl => h _ _ _ (Aft.newF f hl) (Rep.tup upd_same (rl.mono (Sub.upd (f.sub.none_of hl))))⟩⟩
  · obtain ⟨v, rfl, r⟩ := rd.one
    obtain ⟨a, ws, rfl, ha', ha, rl⟩ := r.tup f.sub
    exact ⟨a, ws, rfl, .inr ⟨ha, h _ F H (Aft.refl f) (Rep.tup ha' rl)⟩⟩
  · exact h.elim
/-! sum, all, any -/
def intsD : List D → Option (List Int)
  | [] => some []
  | .int i :: r => (intsD r).map (i :: ·)
  | _ => none
def boolsD : List D → Option (List Bool)
  | [] => some []
  | .bool i :: r => (boolsD r).map (i :: ·)
  | _ => none
theorem RepL.ints {k : Kx} {F : Hp} : ∀ {vs : List V} {ds : List D} {ns : List Int}, RepL k F vs ds → intsD ds = some ns → vs = ns.map V.int
  | _, _, _, .nil, e => by simp [intsD] at e; subst e; rfl
  | _, .int i :: _, _, .cons a b, e => by
    simp only [intsD, Option.map_eq_some_iff] at e
    obtain ⟨ms, e1, rfl⟩ := e
    cases a
    rw [b.ints e1]; rfl
theorem RepL.bools {k : Kx} {F : Hp} : ∀ {vs : List V} {ds : List D} {ns : List Bool}, RepL k F vs ds → boolsD ds = some ns → vs = ns.map V.bl
  | _, _, _, .nil, e => by simp [boolsD] at e; subst e; rfl
  | _, .bool i :: _, _, .cons a b, e => by
    simp only [boolsD, Option.map_eq_some_iff] at e
    obtain ⟨ms, e1, rfl⟩ := e
    cases a
    rw [b.bools e1]; rfl
def gAll : List D → Option SV
  | [.list xs] => (boolsD xs).map fun ns => .val (.bool (ns.all id))
  | _ => none
theorem simAll {k : Kx} : CallSim k (rAll k.K) gAll := by
  intro F ρ σ H vs ds Q f rd h
  unfold gAll at h
  split at h
  · rename_i xs
    obtain ⟨v, rfl, r⟩ := rd.one
    obtain ⟨a, ws, rfl, ha, rl⟩ := r.lst f.sub
    cases e : boolsD xs with
    | none => rw [e] at h; exact h.elim
    | some ns =>
      rw [e] at h
      exact ⟨a, ns, rfl, by rw [← rl.bools e]; exact .inl (.inl ha), h _ F H (Aft.refl f) (.bl _)⟩
  · exact h.elim
/-! max, min of data; of two ints -/
theorem DpAll.getD {K : PySem.W.Frag} {H : Hp} : ∀ {vs : List V} {ds : List D} {i : Nat} {v : V}, DpAll K H vs ds → vs[i]? = some v → ∃ d, ds[i]? = some d ∧ Dp K H v d
  | _, _, _, _, .nil, h => by simp at h
  | _, _, 0, _, .cons a b, h => by simp at h; subst h; exact ⟨_, rfl, a⟩
  | _, _, i + 1, v, .cons a b, h => by
    obtain ⟨d, h1, h2⟩ := DpAll.getD (i := i) (v := v) b (by simpa using h)
    exact ⟨d, by simpa using h1, h2⟩
mutual
theorem dp_plain {K : PySem.W.Frag} {H : Hp} : ∀ {v : V} {d : D}, Dp K H v d → d.plain = true
  | _, _, .non => rfl
  | _, _, .bl _ => rfl
  | _, _, .int _ => rfl
  | _, _, .str _ => rfl
  | _, _, .lst _ r => by simp only [PyData.plain]; exact dpAll_plain r
  | _, _, .tup _ r => by simp only [PyData.plain]; exact dpAll_plain r
theorem dpAll_plain {K : PySem.W.Frag} {H : Hp} : ∀ {vs : List V} {ds : List D}, DpAll K H vs ds → PyData.plainAll ds = true
  | _, _, .nil => rfl
  | _, _, .cons a b => by simp only [PyData.plainAll, Bool.and_eq_true]; exact ⟨dp_plain a, dpAll_plain b⟩
end
/-! sorted -/
theorem Paired.len {α β : Type} {R : α → β → Prop} : ∀ {as : List α} {bs : List β}, Paired R as bs → as.length = bs.length
  | _, _, .nil => rfl
  | _, _, .cons _ t => by simp [Paired.len t]
end Pv

/-! Pvr: set(list of ints). -/
namespace Pv
open PySem PySem.Spec PySem.SeqAt L2
open PyProof.Rows (IntsAre)
section
variable {P : Program} {w : World} {A : Around} {E : Value → Shared → Prop} {s : Shared}
end
end Pv

/-! Pvs: sorted(set(list of ints)). -/
namespace Pv
open PySem PySem.Spec PySem.SeqAt L2
open PyProof.Rows (IntsAre)
def dd : List Int → List Int
  | [] => []
  | x :: r => if x ∈ r then dd r else x :: dd r
theorem dd_mem {x : Int} : ∀ {l : List Int}, x ∈ dd l ↔ x ∈ l
  | [] => by simp [dd]
  | y :: r => by
    unfold dd
    split
    · rename_i h
      rw [dd_mem, List.mem_cons]
      exact ⟨.inr, fun z => z.elim (fun z => z ▸ h) id⟩
    · rw [List.mem_cons, List.mem_cons, dd_mem]
theorem dd_nodup : ∀ l : List Int, (dd l).Nodup
  | [] => by simp [dd]
  | y :: r => by
    unfold dd
    split
    · exact dd_nodup r
    · rename_i h
      exact List.nodup_cons.mpr ⟨fun z => h (dd_mem.mp z), dd_nodup r⟩
theorem len_of_same {as bs : List Int} (na : as.Nodup) (nb : bs.Nodup) (h : ∀ x, x ∈ as ↔ x ∈ bs) : as.length = bs.length := ((List.perm_ext_iff_of_nodup na nb).mpr h).length_eq
theorem SetR.count {w : World} {h : Heap} {a : Addr} {ns : List Int} {c : Nat} (R : SetR w h a (fun j => decide (j ∈ ns)) c) : c = (dd ns).length := by
  obtain ⟨o, es, ep, t, _, _, _, _, nd, mem, _, _, sz, _⟩ := R
  rw [← sz, ← Array.length_toList, ← List.length_map (f := keyOf)]
  refine len_of_same nd (dd_nodup _) fun x => ?_
  have := mem x
  simp only [decide_eq_true_eq] at this
  rw [← this, dd_mem]
def ssrt (ns : List Int) : List Int := (dd ns).mergeSort (fun a b => decide (a ≤ b))
theorem ssrt_le (ns : List Int) : (ssrt ns).Pairwise (fun a b => a ≤ b) := by
  have := List.pairwise_mergeSort (le := fun a b : Int => decide (a ≤ b)) (fun a b c h1 h2 => by simp at *; omega) (fun a b => by simp; omega) (dd ns)
  simpa [ssrt] using this
theorem ssrt_perm (ns : List Int) : (ssrt ns).Perm (dd ns) := List.mergeSort_perm _ _
theorem ssrt_mem {ns : List Int} {k : Int} : k ∈ ssrt ns ↔ k ∈ ns := by rw [(ssrt_perm ns).mem_iff, dd_mem]
theorem repL_ints {k : Kx} {F : Hp} : ∀ ns : List Int, RepL k F (ns.map V.int) (ns.map PyData.int)
  | [] => .nil
  | n :: r => .cons (.int n) (repL_ints r)
end Pv

/-! Pvc: isinstance, slices, list methods, stores, fields. -/
namespace Pv
open PySem PySem.Spec PySem.SeqAt L2

/-! ### isinstance -/
inductive TR where
  | ty (n : String) | cls (c : Int)
  deriving DecidableEq
def tyNames : List String := ["NoneType", "bool", "int", "str", "list", "tuple", "dict"]
def tyD : D → Option TR
  | .none => some (.ty "NoneType")
  | .bool _ => some (.ty "bool")
  | .int _ => some (.ty "int")
  | .str _ => some (.ty "str")
  | .list _ => some (.ty "list")
  | .tuple _ => some (.ty "tuple")
  | .dict [] => some (.ty "dict")
  | .dict [(.bool true, .list _)] => some (.ty "list")
  | .dict [(.none, .int c), (.none, .tuple _)] => some (.cls c)
  | .dict _ => none
def isi1 : TR → TR → Option Bool
  | .ty a, .ty b => if (tyNames.contains a && tyNames.contains b) = true then some (a == b || (a == "bool" && b == "int")) else none
  | .ty a, .cls _ => if tyNames.contains a = true then some false else none
  | .cls _, .ty b => if tyNames.contains b = true then some false else none
  | .cls c, .cls c' => some (c == c')
def isiAny (t : TR) : List TR → Option Bool
  | [] => some false
  | c :: r => (isi1 t c).bind fun b => if b = true then some true else isiAny t r
structure IsiOk (k : Kx) : Prop where
  cl : ∀ c C ns, k.CT c = some (C, ns) → Cls k.K C ∧ PySem.W.findIn k.K (.ref C) "__class__" = some (some (.builtin "object.__class__")) ∧ PySem.W.specialIn k.K (.builtin "object.__class__") "__get__" = some (some (.builtin "getset_descriptor.__get__")) ∧
    PySem.W.takesIn k.K (.builtin "object.__class__") = some true ∧ PySem.W.mroIn k.K C (.type "object") = some true
  tc : ∀ a c C ns, tyNames.contains a = true → k.CT c = some (C, ns) → PySem.W.kitOne k.K (.type a) (.ref C) = some false
  ct : ∀ b c C ns, tyNames.contains b = true → k.CT c = some (C, ns) → PySem.W.kitOne k.K (.ref C) (.type b) = some false
  cc : ∀ c c' C C' ns ns', k.CT c = some (C, ns) → k.CT c' = some (C', ns') → PySem.W.kitOne k.K (.ref C) (.ref C') = some (c == c')
inductive TRV (k : Kx) : TR → V → Value → Prop
  | ty (n : String) : TRV k (.ty n) (.ty n) (.type n)
  | cls {c : Int} {C : Addr} {ns : List Str} : k.CT c = some (C, ns) → TRV k (.cls c) (.ref C) (.ref C)
theorem TRV.clsV {k : Kx} {t : TR} {v : V} {u : Value} (h : TRV k t v u) : ClsV v u := by
  cases h with
  | ty n => exact .ty n
  | cls _ => exact .own _
def kitTab : Bool := tyNames.all fun a => tyNames.all fun b => decide (kitB a b = some (a == b || (a == "bool" && b == "int")))
theorem kitTab_ok : kitTab = true := by decide +kernel
theorem kit_tt {K : PySem.W.Frag} {a b : String} (ha : tyNames.contains a = true) (hb : tyNames.contains b = true) : PySem.W.kitOne K (.type a) (.type b) = some (a == b || (a == "bool" && b == "int")) := by
  refine kit_ty ?_
  have h := kitTab_ok
  simp only [kitTab, List.all_eq_true, decide_eq_true_eq] at h
  exact h a (by simpa using ha) b (by simpa using hb)
inductive TyW (k : Kx) : TR → Value → Prop
  | ty (n : String) : TyW k (.ty n) (.type n)
  | cls {c : Int} {C : Addr} {ns : List Str} : k.CT c = some (C, ns) → TyW k (.cls c) (.ref C)
theorem isi1_ok {k : Kx} (ok : IsiOk k) {t c : TR} {tv u : Value} {v : V} {b : Bool} (ht : TyW k t tv) (hc : TRV k c v u) (e : isi1 t c = some b) : PySem.W.kitOne k.K tv u = some b := by
  cases ht with
  | ty a => cases hc with
    | ty m =>
      simp only [isi1] at e
      split at e
      · rename_i hh
        simp only [Bool.and_eq_true] at hh
        cases e
        exact kit_tt hh.1 hh.2
      · cases e
    | cls h =>
      simp only [isi1] at e
      split at e
      · rename_i hh
        cases e
        exact ok.tc a _ _ _ hh h
      · cases e
  | cls h => cases hc with
    | ty m =>
      simp only [isi1] at e
      split at e
      · rename_i hh
        cases e
        exact ok.ct m _ _ _ hh h
      · cases e
    | cls h' =>
      simp only [isi1, Option.some.injEq] at e
      subst e
      exact ok.cc _ _ _ _ _ _ h h'
theorem sqT_ty {K : PySem.W.Frag} {H : Hp} {a : Addr} {vs : List V} (h : SqT K H a vs) : TyX K H (.ref a) (.type "tuple") := by
  rcases h with (h | ⟨o, h⟩) | ⟨o, its, n, h1, h2, _⟩
  · exact .base (.tup h)
  · exact .fTuple h
  · exact .kTuple h1 h2
theorem RdR.tyx {k : Kx} (ok : IsiOk k) {F H : Hp} {v : V} {d : D} {t : TR} (s : Sub F H) (r : RdR k F H v d) (e : tyD d = some t) : ∃ tv, TyX k.K H v tv ∧ TyW k t tv := by
  have ob : ∀ {a dx C : Addr} {c : Int} {ns : List Str} {fs : List (Str × V)}, k.CT c = some (C, ns) → H a = some (.ins C dx fs) → ∃ tv, TyX k.K H (.ref a) tv ∧ TyW k (.cls c) tv := fun h1 h2 => by
    obtain ⟨c1, c2, c3, c4, c5⟩ := ok.cl _ _ _ h1
    exact ⟨_, .base (.ins h2 c1 c2 c3 c4 c5), .cls h1⟩
  rcases r with r | ⟨q, o, ho, rfl, h1, h2, rfl⟩
  · cases r with
    | non => cases e; exact ⟨_, .base .non, .ty _⟩
    | bl b => cases e; exact ⟨_, .base (.bl b), .ty _⟩
    | int i => cases e; exact ⟨_, .base (.int i), .ty _⟩
    | str x => cases e; exact ⟨_, .base (.str x), .ty _⟩
    | lst h _ => cases e; exact ⟨_, .base (.lst (s.ex h)), .ty _⟩
    | tup h _ => cases e; exact ⟨_, sqT_ty (s.sqT (SqT.of h)), .ty _⟩
    | fls h _ =>
      cases e
      rcases h with ⟨o, h⟩ | (h | ⟨o, h⟩) | ⟨o, its, n, h1, h2, _⟩
      · exact ⟨_, .base (.frz (s.ex h)), .ty _⟩
      · cases h
      · cases h
      · exact ⟨_, .kList h1 h2, .ty _⟩
    | obj h1 h2 _ _ _ => cases e; exact ob h1 (s.ex h2)
    | dnil h =>
      cases e
      rcases s.rd h with z | ⟨o, z⟩
      · exact ⟨_, .base (.dK z), .ty _⟩
      · exact ⟨_, .fDict z, .ty _⟩
    | dct h hl r => cases e
    | fn x => cases e
  · cases o with
    | lst xs =>
      cases e
      obtain ⟨vs, rfl, _⟩ := h2
      exact ⟨_, .base (.lst h1), .ty _⟩
    | ins c fs =>
      cases e
      obtain ⟨C, ns, dx, vs, q1, rfl, _⟩ := h2
      exact ob q1 h1
    | dct t ks ds => cases e
def evIsi (ts : List TR) (me : EM) : EM := fun ρ => (me ρ).bind fun a => (rdD a.2 a.1).bind fun d => (tyD d).bind fun t => (isiAny t ts).bind fun b => some (.sv (.val (.bool b)), a.2)
theorem simIsi {k : Kx} (ok : IsiOk k) {te : TE} {me : EM} {t : TR} {v : V} {u : Value} (ht : TRV k t v u) (he : SimE k te me) : SimE k (tCB (rIsi k.K) (tCons te (tCons (tC v) tNil))) (evIsi [t] me) := by
  intro F ρ σ H Q f h
  unfold evIsi at h
  refine he F ρ σ H _ f ((wpo_bind.mp h).mono fun a _ h => ?_)
  intro x F1 H1 A1 R1
  have h := wpo_bind.mp h
  cases e1 : rdD a.2 a.1 with
  | none => rw [e1] at h; exact h.elim
  | some d =>
    rw [e1] at h
    have h := wpo_bind.mp h
    cases e2 : tyD d with
    | none => rw [e2] at h; exact h.elim
    | some td =>
      rw [e2] at h
      have h := wpo_bind.mp h
      cases e3 : isiAny td [t] with
      | none => rw [e3] at h; exact h.elim
      | some b =>
        rw [e3] at h
        obtain ⟨tv, h1, h2⟩ := (R1.rd A1.fr e1).tyx ok A1.fr.sub e2
        have e4 : isi1 td t = some b := by
          simp only [isiAny, Option.bind_eq_some_iff] at e3
          obtain ⟨b', q1, q2⟩ := e3
          cases b' <;> simp at q2 <;> rw [q1, q2]
        exact ⟨x, v, tv, u, b, rfl, ht.clsV, h1, isi1_ok ok h2 ht e4, h _ F1 H1 A1 (.bl b)⟩
inductive TRVs (k : Kx) : List TR → List V → List Value → Prop
  | nil : TRVs k [] [] []
  | cons {t : TR} {v : V} {u : Value} {ts : List TR} {vs : List V} {us : List Value} : TRV k t v u → TRVs k ts vs us → TRVs k (t :: ts) (v :: vs) (u :: us)
/-! ### slices -/
def cutL {α : Type} (xs : List α) (lo hi : Option Int) : List α := (xs.drop (HT.sIx xs.length 0 lo)).take (HT.sIx xs.length xs.length hi - HT.sIx xs.length 0 lo)
theorem RepL.cut {k : Kx} {F : Hp} {vs : List V} {ds : List D} (h : RepL k F vs ds) (lo hi : Option Int) : RepL k F (cutV vs lo hi) (cutL ds lo hi) := by
  unfold cutV cutL
  rw [h.length]
  exact (h.drop _).take _
abbrev OM := Rho → Option (Option Int × Rho)
def SimO (k : Kx) (to : TO) (m : OM) : Prop := ∀ (F : Hp) (ρ : Rho) (σ : L2.St) (H : Hp) (Q : Option Int → Hp → Prop), FR k F ρ σ H → wpo (m ρ) (fun x => ∀ F' H', Aft k ρ σ F H x.2 F' H' → Q x.1 H') → to σ H Q
def opNone : OM := fun ρ => some (none, ρ)
theorem simPNone {k : Kx} : SimO k tNoPart opNone := fun F ρ σ H Q f h => h F H (Aft.refl f)
def opSome (me : EM) : OM := fun ρ => (me ρ).bind fun a => (rdD a.2 a.1).bind fun d => match d with
  | .int i => some (some i, a.2)
  | _ => none
theorem simPSome {k : Kx} {te : TE} {me : EM} (he : SimE k te me) : SimO k (tPart te) (opSome me) := by
  intro F ρ σ H Q f h
  unfold opSome at h
  refine he F ρ σ H _ f ((wpo_bind.mp h).mono fun a _ h => ?_)
  intro x F1 H1 A1 R1
  have h := wpo_bind.mp h
  cases e1 : rdD a.2 a.1 with
  | none => rw [e1] at h; exact h.elim
  | some d =>
    rw [e1] at h
    have rd := R1.rd A1.fr e1
    cases d with
    | int i => exact ⟨i, rd.int, h F1 H1 A1⟩
    | _ => exact h.elim
def gSl (lo hi : Option Int) : D → Option SV
  | .list xs => some (.own (.lst (cutL xs lo hi)))
  | .tuple xs => some (.val (.tuple (cutL xs lo hi)))
  | _ => none
def evSl (me : EM) (ml mh : OM) : EM := fun ρ => (me ρ).bind fun a => (ml a.2).bind fun b => (mh b.2).bind fun c => (rdD c.2 a.1).bind fun d => (gSl b.1 c.1 d).bind fun s => some (.sv s, c.2)
def rSlB (K : PySem.W.Frag) : V → Option Int → Option Int → Hp → VK → Prop := fun x lo hi H Q => rSlL K x lo hi H Q ∨ rSlA K x lo hi H Q
theorem sl_B {X : Cx} : SlR X (rSlB X.K) := sl_list.or sl_tupA
theorem cut_whole {α : Type} {xs : List α} {lo hi : Option Int} (h : HT.sIx xs.length 0 lo = 0 ∧ HT.sIx xs.length xs.length hi = xs.length) : cutL xs lo hi = xs := by
  unfold cutL
  rw [h.1, h.2]
  simp
theorem simSl {k : Kx} {te : TE} {tl th : TO} {me : EM} {ml mh : OM} (he : SimE k te me) (hl : SimO k tl ml) (hh : SimO k th mh) : SimE k (tSl (rSlB k.K) te tl th) (evSl me ml mh) := by
  intro F ρ σ H Q f h
  unfold evSl at h
  refine he F ρ σ H _ f ((wpo_bind.mp h).mono fun a _ h => ?_)
  intro x F1 H1 A1 R1
  refine hl F1 a.2 σ H1 _ A1.fr ((wpo_bind.mp h).mono fun b _ h => ?_)
  intro F2 H2 A2
  refine hh F2 b.2 σ H2 _ A2.fr ((wpo_bind.mp h).mono fun c _ h => ?_)
  intro F3 H3 A3
  have R3 := R1.step f A1 (A2.trans A3)
  have A := A1.trans (A2.trans A3)
  have h := wpo_bind.mp h
  cases e1 : rdD c.2 a.1 with
  | none => rw [e1] at h; exact h.elim
  | some d =>
    rw [e1] at h
    have rd := R3.rd A3.fr e1
    replace h : wpo (gSl b.1 c.1 d) _ := wpo_bind.mp h
    unfold gSl at h
    split at h
    · obtain ⟨p, ws, rfl, hp, rl⟩ := rd.lst A3.fr.sub
      exact .inl ⟨p, ws, rfl, .inl (.inl hp), fun q hq => h _ F3 _ (A.newOw hq) ⟨q, _, rfl, A.none_of hq, upd_same, A3.fr.sub.none_of hq, _, rfl, rl.cut _ _⟩⟩
    · obtain ⟨p, ws, rfl, hp', hp, rl⟩ := rd.tup A3.fr.sub
      refine .inr ⟨p, ws, rfl, hp, fun hw => ?_, fun hw q hq => ?_⟩
      · rw [rl.length] at hw
        have h := h (.ref p) F3 H3 A
        rw [cut_whole hw] at h
        exact h (Rep.tup hp' rl)
      · exact h _ _ _ (A.new hq) (Rep.tup upd_same ((rl.cut _ _).mono (Sub.upd (A3.fr.sub.none_of hq))))
    · exact h.elim
end Pv

/-! Pvd: owned objects changed; fields; instances made. -/
namespace Pv
open PySem PySem.Spec PySem.SeqAt L2
section
variable {k : Kx} {ρ ρ0 ρ1 : Rho} {σ : L2.St} {F H F0 H0 : Hp}
theorem Aft.mutate (A : Aft k ρ0 σ F0 H0 ρ F H) {i : Nat} {o o' : OB} {p : Addr} {ho' : HO} (e : ρ[i]? = some (some (.own o))) (es : σ[i]? = some (some (.ref p))) (r : RepO k F p o' ho') : Aft k ρ0 σ F0 H0 (ρ.set i (some (.own o'))) F (upd H p ho') := by
  have op : Own ρ σ p := ⟨i, o, e, es⟩
  have nF := A.fr.own_none op
  have hi : i < ρ.length := (List.getElem?_eq_some_iff.mp e).1
  have own2 : ∀ (j : Nat) (x : OB), (ρ.set i (some (.own o')))[j]? = some (some (.own x)) → ∃ y, ρ[j]? = some (some (.own y)) := fun j x h => by
    rcases set_get h with ⟨rfl, _, _⟩ | ⟨_, h⟩
    · exact ⟨o, e⟩
    · exact ⟨x, h⟩
  refine ⟨⟨fun a u q => ?_, by simpa using A.fr.len, fun j d q => ?_, fun j x q => ?_, fun j l x y q h1 h2 h3 h4 => ?_⟩, ⟨A.tr.sub, fun q u h n => ?_, A.tr.new, fun q u h => ?_⟩, fun q ⟨j, x, h1, h2⟩ => ?_, fun j s h => ?_⟩
  · rw [upd_ne (fun z => by rw [z, nF] at q; cases q)]; exact A.fr.sub a u q
  · rcases set_get q with ⟨_, h, _⟩ | ⟨_, h⟩
    · cases h
    · exact A.fr.vals j d h
  · rcases set_get q with ⟨rfl, h, _⟩ | ⟨nj, h⟩
    · cases h; exact ⟨p, ho', es, upd_same, nF, r⟩
    · obtain ⟨p', ho, h1, h2, h3, h4⟩ := A.fr.owns j x h
      have ne : p' ≠ p := fun z => nj (A.fr.dist j i x o p h e (z ▸ h1) es)
      exact ⟨p', ho, h1, by rw [upd_ne ne]; exact h2, h3, h4⟩
  · obtain ⟨_, q1⟩ := own2 j x h1
    obtain ⟨_, q2⟩ := own2 l y h2
    exact A.fr.dist j l _ _ q q1 q2 h3 h4
  · have ne : q ≠ p := fun z => n (z ▸ A.ow p op)
    rw [upd_ne ne]; exact A.tr.keep q u h n
  · by_cases z : q = p
    · subst z; exact ⟨_, upd_same⟩
    · rw [upd_ne z]; exact A.tr.there q u h
  · obtain ⟨y, q1⟩ := own2 j x h1
    exact A.ow q ⟨j, y, q1, h2⟩
  · obtain ⟨s', h'⟩ := A.sl j s h
    by_cases z : j = i
    · subst z; exact ⟨_, List.getElem?_set_self hi⟩
    · exact ⟨s', by rw [get_set (Ne.symm z)]; exact h'⟩
end
def lstAt (ρ : Rho) (i : Nat) : Option (List D) := match ρ[i]? with
  | some (some (.own (.lst xs))) => some xs
  | _ => none
theorem lstAt_eq {ρ : Rho} {i : Nat} {xs : List D} (h : lstAt ρ i = some xs) : ρ[i]? = some (some (.own (.lst xs))) := by
  unfold lstAt at h
  split at h
  · cases h; assumption
  · cases h
theorem FR.lst {k : Kx} {F : Hp} {ρ : Rho} {σ : L2.St} {H : Hp} (f : FR k F ρ σ H) {i : Nat} {xs : List D} (h : lstAt ρ i = some xs) : ∃ p vs, σ[i]? = some (some (.ref p)) ∧ H p = some (.lst vs) ∧ F p = none ∧ RepL k F vs xs := by
  obtain ⟨p, ho, h1, h2, h3, vs, rfl, r⟩ := f.owns i _ (lstAt_eq h)
  exact ⟨p, vs, h1, h2, h3, r⟩
def evMut (f : List D → List D → Option (D × List D)) (i : Nat) (ma : AM) : EM := fun ρ => (lstAt ρ i).bind fun _ => (ma ρ).bind fun a => (frzs a.2 a.1).bind fun b => (lstAt b.2 i).bind fun xs => (f xs b.1).bind fun y => some (.sv (.val y.1), b.2.set i (some (.own (.lst y.2))))
def MutSim (k : Kx) (r : V → List V → Hp → VK → Prop) (f : List D → List D → Option (D × List D)) : Prop := ∀ (F H : Hp) (p : Addr) (ws : List V) (xs : List D) (vs : List V) (ds : List D) (Q : VK), Sub F H → H p = some (.lst ws) → RepL k F ws xs → RepL k F vs ds →
  wpo (f xs ds) (fun y => ∀ v zs, Rep k F v y.1 → RepL k F zs y.2 → Q v (upd H p (.lst zs))) → r (.ref p) vs H Q
theorem simMut {k : Kx} {r : V → List V → Hp → VK → Prop} {g : List D → List D → Option (D × List D)} {i : Nat} {ta : TA} {ma : AM} (hr : MutSim k r g) (ha : SimA k ta ma) : SimE k (tBM k.K "list" r (tVar i) ta) (evMut g i ma) := by
  intro F ρ σ H Q f h
  unfold evMut at h
  have h := wpo_bind.mp h
  cases e0 : lstAt ρ i with
  | none => rw [e0] at h; exact h.elim
  | some xs0 =>
    rw [e0] at h
    obtain ⟨p, vs0, s0, h0, n0, r0⟩ := f.lst e0
    refine ⟨.ref p, s0, .inl ⟨rfl, vs0, .inl (.inl h0)⟩, ?_⟩
    refine ha F ρ σ H _ f ((wpo_bind.mp h).mono fun a _ h => ?_)
    intro vs F1 H1 A1 R1
    have h := wpo_bind.mp h
    cases e1 : frzs a.2 a.1 with
    | none => rw [e1] at h; exact h.elim
    | some b =>
      rw [e1] at h
      obtain ⟨F2, A2, s2, r2⟩ := frzs_ok f A1 (fun _ h => h) R1 e1
      have h := wpo_bind.mp h
      cases e2 : lstAt b.2 i with
      | none => rw [e2] at h; exact h.elim
      | some xs =>
        rw [e2] at h
        obtain ⟨p', ws, s1, h1, n1, r1⟩ := A2.fr.lst e2
        rw [s0] at s1; cases s1
        refine hr F2 H1 p ws xs vs b.1 Q A2.fr.sub h1 r1 r2 ((wpo_bind.mp h).mono fun y _ h => ?_)
        intro v zs rv rz
        exact h v F2 _ (A2.mutate (lstAt_eq e2) s0 ⟨zs, rfl, rz⟩) rv
def fAppend : List D → List D → Option (D × List D)
  | xs, [d] => if xs.length < sizeLine then some (.none, xs ++ [d]) else none
  | _, _ => none
theorem simAppend {k : Kx} : MutSim k rAppend fAppend := by
  intro F H p ws xs vs ds Q sb hp rw_ rv h
  unfold fAppend at h
  split at h
  · cases rv with
    | cons a b =>
      cases b
      split at h
      · rename_i hl
        exact ⟨p, ws, _, rfl, rfl, hp, by rw [rw_.length]; exact hl, h _ _ .non (rw_.append (.cons a .nil))⟩
      · exact h.elim
  · exact h.elim
end Pv
namespace Pv
open PySem PySem.Spec L2
open MeetsSeq MeetsSeq2 AutoSeq1
/-! pop -/
/-! x[i] = e -/
def exSto (j : Nat) (mi me : EM) : SM := fun ρ => (me ρ).bind fun a => (lstAt a.2 j).bind fun _ => (mi a.2).bind fun b => (rdD b.2 b.1).bind fun di => (frz1 b.2 a.1).bind fun c => (lstAt c.2 j).bind fun xs => match di with
  | .int i => (ixN xs.length i).bind fun n => some (.nx, c.2.set j (some (.own (.lst (xs.set n c.1)))))
  | _ => none
theorem simSto {k : Kx} {P : List Nat} {Wx : Option WX} {j : Nat} {ti te : TE} {mi me : EM} (hi : SimE k ti mi) (he : SimE k te me) : SimS k P Wx (tAsg te (L2.gSub (tVar j) ti rSetL)) (exSto j mi me) := by
  intro e ρ σ F H D hP s h
  unfold exSto at h
  refine he F ρ σ H _ s.fr ((wpo_bind.mp h).mono fun a _ h => ?_)
  intro v F1 H1 A1 R1
  have h := wpo_bind.mp h
  cases e0 : lstAt a.2 j with
  | none => rw [e0] at h; exact h.elim
  | some xs0 =>
    rw [e0] at h
    obtain ⟨p, vs0, s0, h0, n0, r0⟩ := A1.fr.lst e0
    refine ⟨.ref p, s0, ?_⟩
    refine hi F1 a.2 σ H1 _ A1.fr ((wpo_bind.mp h).mono fun b _ h => ?_)
    intro u F2 H2 A2 R2
    have h := wpo_bind.mp h
    cases e1 : rdD b.2 b.1 with
    | none => rw [e1] at h; exact h.elim
    | some di =>
      rw [e1] at h
      have rd := R2.rd A2.fr e1
      have h := wpo_bind.mp h
      cases e2 : frz1 b.2 a.1 with
      | none => rw [e2] at h; exact h.elim
      | some c =>
        rw [e2] at h
        obtain ⟨F3, A3, _, r3, _⟩ := frz1_ok s.fr (A1.trans A2) (R1.step s.fr A1 A2) e2
        have h := wpo_bind.mp h
        cases e3 : lstAt c.2 j with
        | none => rw [e3] at h; exact h.elim
        | some xs =>
          rw [e3] at h
          obtain ⟨p', ws, s1, h1, n1, r1⟩ := A3.fr.lst e3
          rw [s0] at s1; cases s1
          cases di with
          | int i =>
            replace h : wpo (ixN xs.length i) _ := wpo_bind.mp h
            cases e4 : ixN xs.length i with
            | none => rw [e4] at h; exact h.elim
            | some n =>
              rw [e4] at h
              refine ⟨p, ws, i, n, rfl, rd.int, h1, by rw [r1.length]; exact e4, ?_⟩
              exact h σ F3 _ (s.aft (A3.mutate (lstAt_eq e3) s0 ⟨_, rfl, r1.set r3 n⟩))
          | _ => exact h.elim
end Pv

/-! Pve: fields, instances made, len of an instance, enumerate. -/
namespace Pv
open PySem PySem.Spec PySem.SeqAt L2
/-! ### fields -/
abbrev FNs := Int → List Str
structure FldOk (k : Kx) (fn : FNs) : Prop where
  ns : ∀ c C ns, k.CT c = some (C, ns) → ns = fn c
  no : ∀ c C ns f, k.CT c = some (C, ns) → f ∈ ns → NoAttr k.K C f
  cl : ∀ c C ns, k.CT c = some (C, ns) → Cls k.K C
  few : ∀ c C ns, k.CT c = some (C, ns) → ns.length < 1000 ∧ ns.Nodup
theorem RdR.obj {k : Kx} {F H : Hp} {v : V} {c : Int} {fs : List D} (s : Sub F H) (r : RdR k F H v (objD c fs)) : ∃ a dx C ns vs, v = .ref a ∧ k.CT c = some (C, ns) ∧ H a = some (.ins C dx (ns.zip vs)) ∧ RepL k F vs fs ∧ vs.length ≤ ns.length := by
  rcases r with r | ⟨q, o, ho, rfl, h1, h2, e⟩
  · cases r with
    | obj q1 q2 q3 q4 q5 => exact ⟨_, _, _, _, _, rfl, q1, s.ex q2, q5, q4⟩
  · cases o with
    | lst xs => cases e
    | dct t ks ds => cases e
    | ins c' fs' =>
      cases e
      obtain ⟨C, ns, dx, vs, q1, rfl, q3, q4, q5⟩ := h2
      exact ⟨q, dx, C, ns, vs, rfl, q1, h1, q5, q4⟩
/-! self.f = e, self in slot i -/
def insAt (ρ : Rho) (i : Nat) : Option (Int × List D) := match ρ[i]? with
  | some (some (.own (.ins c fs))) => some (c, fs)
  | _ => none
theorem insAt_eq {ρ : Rho} {i : Nat} {c : Int} {fs : List D} (h : insAt ρ i = some (c, fs)) : ρ[i]? = some (some (.own (.ins c fs))) := by
  unfold insAt at h
  split at h
  · cases h; assumption
  · cases h
def fidx (f : Str) : List Str → Option Nat
  | [] => none
  | n :: r => if n = f then some 0 else (fidx f r).map (· + 1)
theorem fidx_ok {f : Str} : ∀ {ns : List Str} {j : Nat}, fidx f ns = some j → ns[j]? = some f
  | [], _, h => by cases h
  | n :: r, j, h => by
    unfold fidx at h
    split at h
    · rename_i e; cases h; rw [e]; rfl
    · obtain ⟨i, h1, rfl⟩ := Option.map_eq_some_iff.mp h
      simpa using fidx_ok h1
def putD (ns : List Str) (fs : List D) (f : Str) (d : D) : Option (List D) := match fidx f ns with
  | some j => if j < fs.length then some (fs.set j d) else if j = fs.length then some (fs ++ [d]) else none
  | none => none
def exFld (fn : FNs) (i : Nat) (f : Str) (me : EM) : SM := fun ρ => (me ρ).bind fun a => (frz1 a.2 a.1).bind fun b => (insAt b.2 i).bind fun o => (putD (fn o.1) o.2 f b.1).bind fun fs => some (.nx, b.2.set i (some (.own (.ins o.1 fs))))
theorem putF_zip {f : Str} {v : V} : ∀ {ns : List Str} {vs : List V} {j : Nat}, ns.Nodup → ns[j]? = some f → vs.length ≤ ns.length → (j < vs.length → putF f v (ns.zip vs) = ns.zip (vs.set j v)) ∧ (j = vs.length → putF f v (ns.zip vs) = ns.zip (vs ++ [v]))
  | [], _, _, _, h, _ => by simp at h
  | n :: ns, [], 0, nd, h, hl => by
    simp at h; subst h
    exact ⟨fun z => by simp at z, fun _ => by simp [putF]⟩
  | n :: ns, [], j + 1, nd, h, hl => ⟨fun z => by simp at z, fun z => by simp at z⟩
  | n :: ns, w :: vs, 0, nd, h, hl => by
    simp at h; subst h
    exact ⟨fun _ => by simp [putF], fun z => by simp at z⟩
  | n :: ns, w :: vs, j + 1, nd, h, hl => by
    rw [List.nodup_cons] at nd
    have hf : ns[j]? = some f := by simpa using h
    have ne : n ≠ f := fun z => nd.1 (by rw [z]; exact List.mem_of_getElem? hf)
    obtain ⟨h1, h2⟩ := putF_zip (f := f) (v := v) (vs := vs) nd.2 hf (by simpa using hl)
    refine ⟨fun z => ?_, fun z => ?_⟩
    · simp only [List.zip_cons_cons, putF, if_neg ne, List.set_cons_succ]
      rw [h1 (by simpa using z)]
    · simp only [List.zip_cons_cons, putF, if_neg ne, List.cons_append]
      rw [h2 (by simpa using z)]
theorem simFldS {k : Kx} {P : List Nat} {Wx : Option WX} {fn : FNs} (ok : FldOk k fn) {i : Nat} {f : Str} {te : TE} {me : EM} (he : SimE k te me) : SimS k P Wx (sFld k.K (tVar i) te f) (exFld fn i f me) := by
  intro e ρ σ F H D hP s h
  unfold exFld at h
  refine he F ρ σ H _ s.fr ((wpo_bind.mp h).mono fun a _ h => ?_)
  intro v F1 H1 A1 R1
  have h := wpo_bind.mp h
  cases e1 : frz1 a.2 a.1 with
  | none => rw [e1] at h; exact h.elim
  | some b =>
    rw [e1] at h
    obtain ⟨F2, A2, _, r2, _⟩ := frz1_ok s.fr A1 R1 e1
    have h := wpo_bind.mp h
    cases e2 : insAt b.2 i with
    | none => rw [e2] at h; exact h.elim
    | some o =>
      rw [e2] at h
      have h := wpo_bind.mp h
      obtain ⟨c, fs⟩ := o
      have e3 := insAt_eq e2
      obtain ⟨p, ho, s0, h0, n0, C, ns, dx, vs, q1, rfl, q3, q4, q5⟩ := A2.fr.owns i _ e3
      have en := ok.ns c C ns q1
      subst en
      obtain ⟨fw, nd⟩ := ok.few c C _ q1
      refine ⟨.ref p, s0, p, C, dx, _, rfl, h0, ok.cl c C _ q1, ?_⟩
      cases e4 : putD (fn c) fs f b.1 with
      | none => rw [e4] at h; exact h.elim
      | some fs' =>
        rw [e4] at h
        unfold putD at e4
        split at e4
        · rename_i j hj
          have hj' : (fn c)[j]? = some f := fidx_ok hj
          have zl : ((fn c).zip vs).length < 1000 := by rw [List.length_zip]; omega
          obtain ⟨p1, p2⟩ := putF_zip (v := v) nd hj' q4
          have lv := q5.length
          refine ⟨ok.no c C _ f q1 (List.mem_of_getElem? hj'), zl, ?_⟩
          split at e4
          · rename_i lt
            cases e4
            rw [p1 (by omega)]
            exact h σ F2 _ (s.aft (A2.mutate e3 s0 ⟨C, _, dx, _, q1, rfl, q3, by simpa using q4, q5.set r2 j⟩))
          · split at e4
            · rename_i eq
              cases e4
              rw [p2 (by omega)]
              have jl : j < (fn c).length := (List.getElem?_eq_some_iff.mp hj').1
              exact h σ F2 _ (s.aft (A2.mutate e3 s0 ⟨C, _, dx, _, q1, rfl, q3, by simp; omega, q5.append (.cons r2 .nil)⟩))
            · cases e4
        · cases e4
/-! ### C(..) -/
def evMake (c : Int) (np : Nat) (cm : CM) (ma : AM) : EM := fun ρ => (ma ρ).bind fun a => (passB a.2 a.1).bind fun as => if as.length + 1 = np then (cm (.own (.ins c []) :: as)).bind fun x => (match x.1 with
  | .val .none => (match x.2 with
    | .own (.ins c' fs) => some (Rv.sv (.val (objD c' fs)), frAll a.2 a.1)
    | _ => none)
  | _ => none) else none
theorem simMake {k : Kx} {c : Int} {C : Addr} {ns : List Str} {np : Nat} {cm : CM} {E : XK} {ta : TA} {ma : AM} (hC : k.CT c = some (C, ns)) (ha : SimA k ta ma) : SimE k (tMake C (spF k true np cm) [] E ta) (evMake c np cm ma) := by
  intro F ρ σ H Q f h
  unfold evMake at h
  refine ha F ρ σ H _ f ((wpo_bind.mp h).mono fun a _ h => ?_)
  intro vs F1 H1 A1 R1 x dx hx hdx ndx
  have h := wpo_bind.mp h
  cases e1 : passB a.2 a.1 with
  | none => rw [e1] at h; exact h.elim
  | some as =>
    rw [e1] at h
    have h : wpo (if as.length + 1 = np then (cm (.own (.ins c []) :: as)).bind fun x => (match x.1 with
      | .val .none => (match x.2 with
        | .own (.ins c' fs) => some (Rv.sv (.val (objD c' fs)), frAll a.2 a.1)
        | _ => none)
      | _ => none) else none) _ := h
    obtain ⟨ar, ao⟩ := passB_ok (all := a.1) (rs := a.1) f A1 (fun _ z => z) (fun _ z => z) (fun _ z => z) R1 e1
    split at h
    · rename_i hl
      have el := ar.len
      -- all that is lent, and the instance's own dict, are frozen for the call
      let Fc : Hp := lendF (Lent a.2 σ a.1) F1 H1
      let H2 : Hp := upd (upd H1 dx (.own x)) x (.ins C dx [])
      have sFH : Sub Fc H1 := lend_in A1.fr
      have nFx : Fc x = none := sFH.none_of hx
      have nFd : Fc dx = none := sFH.none_of hdx
      have kp : ∀ p o, H1 p = some o → H2 p = some o := fun p o q => by
        show upd _ _ _ p = _
        rw [upd_ne (ne_of_none q hx), upd_ne (ne_of_none q hdx)]; exact q
      have sub2 : Sub (upd Fc dx (.own x)) H2 := fun p o q => by
        by_cases z : p = dx
        · subst z
          rw [upd_same] at q; cases q
          refine ⟨_, ?_, rfl⟩
          show upd _ _ _ p = _
          rw [upd_ne ndx, upd_same]
        · rw [upd_ne z] at q
          obtain ⟨o', e', z'⟩ := sFH p o q
          exact ⟨o', kp p _ e', z'⟩
      have ar2 : ArgsR k (upd Fc dx (.own x)) H2 as vs := by
        have gen : ∀ {ss : List SV} {us : List V}, ArgsR k Fc H1 ss us → ArgsR k (upd Fc dx (.own x)) H2 ss us := by
          intro ss us q
          induction q with
          | nil => exact .nil
          | cons a1 b1 c1 ih =>
            rename_i s0 v0 _ _
            refine .cons ?_ ih c1
            cases s0 with
            | val d => exact Rep.mono (Sub.upd nFd) a1
            | own o =>
              obtain ⟨p, ho, z1, z2, z3, z4⟩ := a1
              exact ⟨p, ho, z1, kp p ho z2, by rw [upd_ne (ne_of_none z2 hdx)]; exact z3, z4.mono (Sub.upd nFd)⟩
        exact gen ar
      have AO : ∀ p, ArgOwn (.own (.ins c []) :: as) (.ref x :: vs) p → p = x ∨ ArgOwn as vs p := fun p ⟨i, o', z1, z2⟩ => by
        cases i with
        | zero => simp at z2; exact .inl z2.symm
        | succ i => exact .inr ⟨i, o', by simpa using z1, by simpa using z2⟩
      refine ⟨upd Fc dx (.own x), .own (.ins c []) :: as, sub2, ?_, ?_, (wpo_bind.mp h).mono fun y _ h => ?_⟩
      · rw [List.append_nil]
        refine .cons ⟨x, _, rfl, upd_same, by rw [upd_ne (Ne.symm ndx)]; exact nFx, C, ns, dx, [], hC, by simp, upd_same, Nat.zero_le _, .nil⟩ ar2 fun o1 _ i o' z1 z2 => ?_
        obtain ⟨_, z3⟩ := ao x ⟨i, o', z1, z2⟩
        exact z3 hx
      · rw [List.append_nil, List.length_cons]; omega
      intro v F' H' sb tr rr outs
      rw [List.append_nil] at tr rr outs
      obtain ⟨u, hu, ou⟩ := outs rfl
      simp at hu
      subst hu
      obtain ⟨y1, y2⟩ := y
      dsimp only at h rr ou
      split at h
      · rename_i ey
        split at h
        · rename_i c' fs
          refine ⟨by cases rr; rfl, ?_⟩
          obtain ⟨p, ho, z0, z1, z2, C', ns', dx', ws, z3, rfl, z5, z6, z7⟩ := ou
          cases z0
          -- behind the call: the lent ones stay frozen, the instance is frozen
          have tr1 : Tr (fun p => ArgOwn as vs p) Fc H1 F' H' := by
            refine ⟨(Sub.upd nFd).trans tr.sub, fun p o q n => tr.keep p o (kp p o q) fun w => ?_, fun p o q m n n2 => tr.new p o (kp p o q) m ?_ fun w => ?_, fun p o q => tr.there p o (kp p o q)⟩
            · rcases AO p w with rfl | w
              · rw [hx] at q; cases q
              · exact n w
            · rw [upd_ne (ne_of_none q hdx)]; exact n
            · rcases AO p w with rfl | w
              · rw [hx] at q; cases q
              · exact n2 w
          have hI : ∀ p, ArgOwn as vs p → ¬ Own a.2 σ p := fun p w o => by
            obtain ⟨u, hu⟩ := f.own_some (A1.ow p o)
            rw [(ao p w).1] at hu; cases hu
          obtain ⟨b1, b2, b3, b4, b5, b6, b7, b8⟩ := backL A1.fr sb tr1 (fun p w => .inl (hI p w)) (.inr ⟨rfl, rfl⟩)
          have ow : ∀ p, Own (frAll a.2 a.1) σ p → Own a.2 σ p := fun p ⟨i, o, w1, w2⟩ => ⟨i, o, (b6 i o w1).1, w2⟩
          have A3 : Aft k ρ σ F H (frAll a.2 a.1) F' H' := by
            refine ⟨⟨b1, b3, b5, fun i o q => ?_, fun i j o o' p w1 w2 w3 w4 => A1.fr.dist i j o o' p (b6 i o w1).1 (b6 j o' w2).1 w3 w4⟩, ⟨A1.tr.sub.trans b2, fun p o q n => ?_, fun p o q m n n2 => ?_, fun p o q => ?_⟩, fun p w => A1.ow p (ow p w), fun i s q => let ⟨s', q'⟩ := A1.sl i s q; b4 i s' q'⟩
            · obtain ⟨w0, p, ho, w1, w2⟩ := b6 i o q
              obtain ⟨w3, w4, w5⟩ := w2 fun w => hI p w ⟨i, o, w0, w1⟩
              exact ⟨p, ho, w1, w3, w4, w5⟩
            · exact b7 p o (A1.tr.keep p o q n) fun w => by rw [(ao p w).1] at q; cases q
            · exact b8 p o (A1.tr.keep p o q n2) m (A1.tr.new p o q m n n2) (fun w => by rw [(ao p w).1] at q; cases q) fun w => n2 (A1.ow p w)
            · obtain ⟨o', q'⟩ := A1.tr.there p o q
              exact tr1.there p o' q'
          have nx : H x = none := A1.none_of hx
          have RT : RR k H F' (frAll a.2 a.1) σ H' (.sv (.own (.ins c' fs))) (.ref x) := ⟨x, _, rfl, nx, z1, z2, C', ns', dx', ws, z3, rfl, z5, z6, z7⟩
          obtain ⟨F4, A4, _, r4, _⟩ := frz1_ok f A3 RT (show frz1 (frAll a.2 a.1) (.sv (.own (.ins c' fs))) = some (objD c' fs, frAll a.2 a.1) from rfl)
          exact h (.ref x) F4 H' A4 r4
        · exact h.elim
      · exact h.elim
    · exact h.elim
end Pv

/-! Pvf: len of an instance; enumerate. -/
namespace Pv
open PySem PySem.Spec PySem.SeqAt L2
end Pv

/-! Pvg: enumerate over lists and tuples. -/
namespace Pv
open PySem PySem.Spec PySem.SeqAt PyProof.Rows L2

set_option maxHeartbeats 1000000 in
theorem meets_enumB {v : Value} {o : Obj} {H : Heap → Prop} (B : Begins v o H) :
    Meets (Builtin.«enumerate.__new__» ⟨[.type "enumerate", v], []⟩) (fun _ R s => H s.heap ∧
      R (.ok (.ret (.ref (s.heap.push o).objs.size))) { s with heap := (s.heap.push o).push { cls := .type "enumerate", data := .fields #[.none, .bool false, .ref s.heap.objs.size, rawInt 0, .none, .none] } }) :=
  .of_wp fun prog w A R s h => by
    obtain ⟨hp, g, d, tk, os⟩ := s; obtain ⟨h1, h⟩ := h
    have hsub := sub_enumerate
    have hI := fun (A : Around) (E : Value → Shared → Prop) (Q : Value → Shared → Prop) => B.iter prog w A E ⟨hp, g, d, tk, os⟩ Q h1
    wp_walk
    refine wpAny_stack_any fun st => wpAny_pure ?_
    split
    · rename_i c _ _ _ _ _
      cases (c == Value.type "enumerate")
      · wp_walk using hI _ _ _
        exact ⟨_, rfl, h⟩
      · wp_walk using hI _ _ _
        exact ⟨_, rfl, h⟩
    · wp_walk using hI _ _ _
      exact ⟨_, rfl, h⟩
theorem enumB_begins {prog : Program} {w : World} {A : Around} {E : Value → Shared → Prop} {s : Shared} {v : Value} {o : Obj} {H : Heap → Prop} {Q : Value → Shared → Prop} (B : Begins v o H) (h1 : H s.heap)
    (h : ∀ h', IsEnum h' (s.heap.objs.size + 1) s.heap.objs.size 0 .none → h'.get? s.heap.objs.size = some o → (∀ b u, s.heap.get? b = some u → h'.get? b = some u) → Q (.ref (s.heap.objs.size + 1)) { s with heap := h' }) :
    wpAny (model prog w) A (call (.type "enumerate") [v]) Q E s := by
  refine callType_new F.called_enumerate (by decide) (F.typeCall_enumerate_1 _) (F.newCall_enumerate_1 _) (fun obj => F.args_object_init_2 obj _) F.entry_enumerate_new (meets_enumB B) ⟨h1, ?_⟩
  have hz : (s.heap.push o).objs.size = s.heap.objs.size + 1 := Heap.size_push ..
  show _ ∧ _
  rw [hz]
  have he : IsEnum ((s.heap.push o).push { cls := .type "enumerate", data := .fields #[.none, .bool false, .ref s.heap.objs.size, rawInt 0, .none, .none] }) (s.heap.objs.size + 1) s.heap.objs.size 0 .none := by
    have q := Heap.get?_push_size (s.heap.push o) (o := { cls := .type "enumerate", data := .fields #[.none, .bool false, .ref s.heap.objs.size, rawInt 0, .none, .none] }) rfl
    rw [hz] at q; exact q
  exact ⟨⟨_, he, rfl⟩, h _ he (Heap.get?_push_of_some _ (Heap.get?_push_size _ B.free)) fun b u y => Heap.get?_push_of_some _ (Heap.get?_push_of_some _ y)⟩
def IteT (K : PySem.W.Frag) (a : Addr) : It where
  go := fun i H => ∃ (xs : List V) (x : V), SqT K H a xs ∧ xs[i]? = some x
  yld := fun i H v H' => ∃ T x, v = .ref T ∧ H T = none ∧ H' = upd H T (.tup [.int (i : Nat), x]) ∧ ∀ xs, SqT K H a xs → xs[i]? = some x
  stop := fun i H => ∃ xs : List V, SqT K H a xs ∧ xs.length ≤ i
theorem turn_enumT {P : Program} {w : World} {K : PySem.W.Frag} {elts : List Expr} {kk : Nat} {tpos : Pos} (a e it : Addr) :
    Turn P w K (.Tuple elts kk tpos) (IteT K a) [e, it] e (fun i h => (∃ old, IsEnum h e it ((i : Nat) : Int) old) ∧ h.IsTupleIter it a i ∧ e ≠ it) := by
  have ap : ∀ {h : Heap} {i : Nat} {old : Value} {j : Int} {its : Array Value}, IsEnum h e it j old → h.IsTupleIter it a i → h.IsTuple a its → a ≠ it ∧ e ≠ a := by
    intro h i old j its h1 h2 h3
    obtain ⟨o2, g2, c2, _⟩ := h2
    obtain ⟨o3, g3, c3, _⟩ := h3
    refine ⟨fun z => ?_, fun z => ?_⟩
    · rw [z, g2] at g3; cases g3; rw [c2] at c3; exact absurd c3 (by decide)
    · rw [← z, show h.get? e = _ from h1] at g3; cases g3; exact absurd (show Value.type "enumerate" = Value.type "tuple" from c3) (by decide)
  refine ⟨by simp, fun i h st b hb => ?_, fun i h h' st kp => ?_, ?_, ?_, fun A i s Q E st q => ?_⟩
  · obtain ⟨⟨old, he⟩, ⟨o, ho, hc, hd⟩, _⟩ := st
    rcases (show b = e ∨ b = it by simpa using hb) with rfl | rfl
    · exact ⟨_, he, fun v q => nomatch q⟩
    · exact ⟨o, ho, fun v q => by rw [hd] at q; cases q⟩
  · obtain ⟨⟨old, he⟩, hi, hne⟩ := st
    exact ⟨⟨old, kp e (by simp) _ he⟩, hi.at fun o q => kp it (by simp) o q, hne⟩
  · intro X hP hw hK hc i pins s σ H E I hf st hg
    subst hP hw hK
    obtain ⟨⟨old, he⟩, hit, hne⟩ := st
    obtain ⟨xs, x, hq, hx⟩ := hg
    obtain ⟨its, rv, p, hz⟩ := I.tuple hq
    have p : s.heap.IsTuple a its.toArray := p
    obtain ⟨u, hu, ru⟩ := rv.get hx
    obtain ⟨na, ne⟩ := ap he hit p
    have D := Draws.tuple (prog := X.prog) (w := X.w) (A := X.A.in1) (I.ok.hd hc) it a na its.toArray
    have hil : i < its.length := (List.getElem?_eq_some_iff.mp hu).1
    have hel : e < s.heap.objs.size := Heap.lt_size he
    have hitl : it < s.heap.objs.size := by obtain ⟨_, q, _⟩ := hit; exact Heap.lt_size q
    refine wpAny_pyNext_enum_itemD D he ⟨hit, p⟩ (by simpa using hil) hne (by simp [hne, ne]) fun u' h' tk hP ho st' hT hsz hk => ?_
    have hu' : u' = u := by
      have : its[i]? = some u' := by simpa using hP
      rw [hu] at this; cases this; rfl
    subst hu'
    refine ⟨_, rfl, wpAny_letOwnedTupleGo_enum (s := { s with heap := h', toks := tk + 1 }) ho fun h'' he' sb => ?_⟩
    have hT2 := (sb.2 _ (Nat.ne_of_gt hel)).trans hT
    have new : ObjOk X.prog X.w (upd H s.heap.objs.size (.tup [.int (i : Nat), x])) h'' s.heap.objs.size (.tup [.int (i : Nat), x]) := by
      refine ⟨by show 2 ≤ sizeLine; decide, [.int i tk, u'], .cons ⟨_, rfl⟩ (.cons ru .nil), ⟨_, hT2, rfl, _, rfl⟩⟩
    have I1 : Inv X pins σ (upd H s.heap.objs.size (.tup [.int (i : Nat), x])) { s with heap := h'', toks := tk + 1 } := by
      refine I.turnedNew (ch := [e, it]) (fun b ob hb q => ?_) hf (Nat.le_refl _) new
      have hb1 : b ≠ e := fun z => hb (by simp [z])
      have hb2 : b ≠ it := fun z => hb (by simp [z])
      exact (sb.2 b hb1).trans (hk b ob hb1 hb2 q)
    refine ⟨.ref s.heap.objs.size, _, I1, rfl, ⟨_, x, rfl, I.hok.fresh (Nat.le_refl _), rfl, fun ys hy => by rw [I.tuple_inj hy hq]; exact hx⟩, ⟨⟨u', ?_⟩, st'.1.at fun o q => (sb.2 it (Ne.symm hne)).trans q, hne⟩, fun b hb => ?_⟩
    · have e1 : ((i + 1 : Nat) : Int) = (i : Int) + 1 := by omega
      rw [e1]; exact he'
    · have hb' : b ≠ s.heap.objs.size := by
        rcases (show b = e ∨ b = it by simpa using hb) with rfl | rfl
        · exact Nat.ne_of_lt hel
        · exact Nat.ne_of_lt hitl
      rw [upd_ne hb']
      exact (hf b hb).1
  · intro X hP hw hK hc i pins s σ H E I hf st hg
    subst hP hw hK
    obtain ⟨⟨old, he⟩, hit, hne⟩ := st
    obtain ⟨xs, hq, hx⟩ := hg
    obtain ⟨its, rv, p, hz⟩ := I.tuple hq
    have p : s.heap.IsTuple a its.toArray := p
    obtain ⟨na, ne⟩ := ap he hit p
    have hl := rv.length
    obtain ⟨f0, f1, f2, f3, f4, f5⟩ := hf it (by simp)
    have D : Draws X.prog X.w X.A.in1 it [it, a] i (fun _ _ => False) (fun j h => j = i ∧ h.IsTupleIter it a i ∧ h.IsTuple a its.toArray) := by
      refine ⟨fun _ _ st => let ⟨o, ho, _⟩ := st.2.1; ⟨o, ho⟩, fun _ _ _ st hk => ⟨st.1, st.2.1.at fun o e => hk it (by simp) o e, st.2.2.at fun o e => hk a (by simp) o e⟩, fun j s Q E hj st _ => ?_, fun s Q E st hE => ?_⟩
      · omega
      · exact wpAny_nextOf_tuple_end (I.ok.hd hc) st.2.1 st.2.2 (by simp; omega) hE
    exact wpAny_pyNext_enum_endD D he ⟨rfl, hit, p⟩ fun h' eb => ⟨rfl, I.turned (t' := s.toks) (fun b o hb q => eb b o hb q) f0 f1 f3 f4 f5⟩
  · obtain ⟨⟨_, he⟩, _⟩ := st
    exact wpAny_pyIter_enum he q
def iEnumS (K : PySem.W.Frag) (ta : TA) : TI := fun σ H R => ta σ H fun vs H1 => (∃ a xs, vs = [.ref a] ∧ SqL K H1 a xs ∧ R (Ite K a) H1) ∨ (∃ a xs, vs = [.ref a] ∧ SqT K H1 a xs ∧ R (IteT K a) H1)
theorem pi_enumS {X : Cx} {e : Expr} {ta : TA} {p pos tpos : Pos} {elts : List Expr} {kk : Nat} (hg : Gl X "enumerate") (hm : X.mg "enumerate" = none) (ha : PA X [e] ta) (hs : starEach [e] X.env = [(false, eval e X.env)] := by rfl) :
    PI X (.Tuple elts kk tpos) (.Call (.Name "enumerate" p) [e] [] pos) (iEnumS X.K ta) := by
  refine ⟨fun pins s σ H R I h => Call_ (ld_blt I hg hm boot_enumerate (PyProof.Rows.callWith_type1 (thn (ha.run pos pins s σ H _ I h) fun us s1 ⟨vs, H1, I1, r1, q1⟩ => ?_) hs rfl))⟩
  have fp : ∀ b ∈ [s1.heap.objs.size + 1, s1.heap.objs.size], FpOk X pins H1 b := fun b hb => by
    have hle : s1.heap.objs.size ≤ b := by
      rcases (show b = s1.heap.objs.size + 1 ∨ b = s1.heap.objs.size by simpa using hb) with rfl | rfl <;> omega
    exact I1.fpOk hle (I1.hok.fresh hle)
  rcases q1 with ⟨a, xs, rfl, hq, q⟩ | ⟨a, xs, rfl, hq, q⟩
  · cases r1 with
    | cons r rr =>
      cases rr
      cases r
      obtain ⟨its, rv, p', hz⟩ := I1.list hq
      refine call_enumerate_list p'.isList fun h' he hit hsz hk => wpAny_pyIter_enum he ?_
      exact ⟨s1.heap.objs.size + 1, _, _, _, H1, rfl, I1.kept (t' := s1.toks) hk, turn_enum a (s1.heap.objs.size + 1) s1.heap.objs.size, ⟨⟨.none, he⟩, hit, Nat.succ_ne_self _⟩, fp, q⟩
  · cases r1 with
    | cons r rr =>
      cases rr
      cases r
      obtain ⟨its, rv, p', hz⟩ := I1.tuple hq
      refine enumB_begins (begins_tuple a its.toArray) p' fun h' he hit hk => wpAny_pyIter_enum he ?_
      exact ⟨s1.heap.objs.size + 1, _, _, _, H1, rfl, I1.kept (t' := s1.toks) hk, turn_enumT a (s1.heap.objs.size + 1) s1.heap.objs.size, ⟨⟨.none, he⟩, ⟨_, hit, rfl, rfl⟩, Nat.succ_ne_self _⟩, fp, q⟩
def enumD (xs : List D) : List D := (List.range xs.length).map fun i => .tuple [.int (i : Nat), xs.getD i .none]
theorem enumD_get {xs : List D} {i : Nat} {d : D} (h : (enumD xs)[i]? = some d) : ∃ x, xs[i]? = some x ∧ d = .tuple [.int (i : Nat), x] := by
  have hi : i < xs.length := by
    have := (List.getElem?_eq_some_iff.mp h).1
    simpa [enumD] using this
  simp [enumD, hi] at h
  exact ⟨xs[i], by simp [hi], h.symm⟩
theorem enumD_len {xs : List D} : (enumD xs).length = xs.length := by simp [enumD]
theorem pairD {k : Kx} {F F' H' : Hp} {vs : List V} {xs : List D} {i : Nat} {d : D} {x : V} {H'' : Hp} (r : RepL k F vs xs) (s1 : Sub F F') (s2 : Sub F' H') (e : (enumD xs)[i]? = some d) (y : YPair (fun i => some (.int (i : Nat))) (fun i => vs[i]?) i H' x H'') :
    YOk k F' H' x H'' d := by
  obtain ⟨z, e1, rfl⟩ := enumD_get e
  obtain ⟨v, e2, rv⟩ := r.get e1
  obtain ⟨T, a, b, h1, h2, h3, h4, h5⟩ := y
  simp only [Option.some.injEq] at h4
  subst h4
  have h5 : vs[i]? = some b := h5
  rw [e2] at h5; cases h5
  subst h1
  have su : Sub F' (upd F' T (.tup [.int (i : Nat), v])) := Sub.upd (s2.none_of h2)
  exact .inr (.inl ⟨T, _, h2, h3, .tup upd_same (.cons (.int _) (.cons ((rv.mono s1).mono su) .nil))⟩)
theorem walkD_enumL {k : Kx} {F : Hp} {a : Addr} {vs : List V} {xs : List D} (h : SqL k.K F a vs) (r : RepL k F vs xs) : WalkD k (Ite k.K a) F (enumD xs) := by
  refine ⟨fun H => SqL k.K H a vs, _, by rw [enumD_len, ← r.length]; exact walk_enum, fun F' H' s1 s2 => s2.sqL (s1.sqL h), fun i d F' H' x H'' e s1 s2 y => pairD r s1 s2 e y⟩
theorem walk_enumT {K : PySem.W.Frag} {a : Addr} {xs : List V} : Walk (IteT K a) xs.length (fun H => SqT K H a xs) (YPair (fun i => some (.int (i : Nat))) (fun i => xs[i]?)) := by
  refine ⟨fun i _ hi q => ⟨xs, xs[i], q, by simp [hi]⟩, fun _ q => ⟨xs, q, Nat.le_refl _⟩, fun i H v H' _ q y => ?_⟩
  obtain ⟨T, x, h1, h2, h3, h4⟩ := y
  exact ⟨T, .int (i : Nat), x, h1, h2, h3, rfl, h4 xs q⟩
theorem walkD_enumT {k : Kx} {F : Hp} {a : Addr} {vs : List V} {xs : List D} (h : SqT k.K F a vs) (r : RepL k F vs xs) : WalkD k (IteT k.K a) F (enumD xs) := by
  refine ⟨fun H => SqT k.K H a vs, _, by rw [enumD_len, ← r.length]; exact walk_enumT, fun F' H' s1 s2 => s2.sqT (s1.sqT h), fun i d F' H' x H'' e s1 s2 y => pairD r s1 s2 e y⟩
def ivEnum (me : EM) : IM := fun ρ => (me ρ).bind fun a => (frz1 a.2 a.1).bind fun b => (seqD b.1).bind fun xs => some (enumD xs, b.2)
theorem simEnum {k : Kx} {tl : TE} {me : EM} (he : SimE k tl me) : SimI k (iEnumS k.K (tCons tl tNil)) (ivEnum me) := by
  intro F ρ σ H R f h
  unfold ivEnum at h
  refine he F ρ σ H _ f ((wpo_bind.mp h).mono fun a _ h => ?_)
  intro v F1 H1 A1 R1
  have h := wpo_bind.mp h
  cases e1 : frz1 a.2 a.1 with
  | none => rw [e1] at h; exact h.elim
  | some b =>
    rw [e1] at h
    obtain ⟨F2, A2, s2, r2, _⟩ := frz1_ok f A1 R1 e1
    have h := wpo_bind.mp h
    obtain ⟨d, ρ2⟩ := b
    dsimp only at h r2 A2
    unfold seqD at h
    split at h
    · cases r2 with
      | lst h2 r3 => exact .inl ⟨_, _, rfl, .inl (.inl (A2.fr.sub.ex h2)), h _ F2 H1 A2 (walkD_enumL (.inl (.inl h2)) r3)⟩
    · cases r2 with
      | tup h2 r3 => exact .inr ⟨_, _, rfl, A2.fr.sub.sqT (SqT.of h2), h _ F2 H1 A2 (walkD_enumT (SqT.of h2) r3)⟩
    · cases r2 with
      | fls h2 r3 => exact .inl ⟨_, _, rfl, A2.fr.sub.sqL h2.sq, h _ F2 H1 A2 (walkD_enumL h2.sq r3)⟩
    · exact h.elim
end Pv

/-! Pvh: several names at once; list(range(..)). -/
namespace Pv
open PySem PySem.Spec PySem.SeqAt L2
section
variable {k : Kx} {P : List Nat} {Wx : Option WX} {e : Ent} {ρ ρ' ρ0 : Rho} {σ : L2.St} {F H F0 H0 : Hp}
def frzP (ρ : Rho) : List Rv → Option (List SV × Rho)
  | [] => some ([], ρ)
  | .sv s :: rs => (frzP ρ rs).bind fun a => some (s :: a.1, a.2)
  | .plc j :: rs => (frz1 ρ (.plc j)).bind fun d => (frzP d.2 rs).bind fun a => some (.val d.1 :: a.1, a.2)
inductive Prs (k : Kx) (eH F H : Hp) : (Addr → Prop) → List SV → List V → Prop
  | nil {O : Addr → Prop} : Prs k eH F H O [] []
  | val {O : Addr → Prop} {d : D} {v : V} {ss : List SV} {vs : List V} : Rep k F v d → Prs k eH F H O ss vs → Prs k eH F H O (.val d :: ss) (v :: vs)
  | own {O : Addr → Prop} {o : OB} {p : Addr} {ho : HO} {ss : List SV} {vs : List V} : eH p = none → H p = some ho → F p = none → RepO k F p o ho → ¬ O p → Prs k eH F H (fun a => O a ∨ a = p) ss vs → Prs k eH F H O (.own o :: ss) (.ref p :: vs)
theorem Prs.sub {eH F' : Hp} (sb : Sub F F') : ∀ {O : Addr → Prop} {ss : List SV} {vs : List V}, (∀ p, F p = none → F' p ≠ none → eH p ≠ none) → Prs k eH F H O ss vs → Prs k eH F' H O ss vs
  | _, _, _, _, .nil => .nil
  | _, _, _, hf, .val a b => .val (a.mono sb) (Prs.sub sb hf b)
  | _, _, _, hf, .own (p := p) a b c d e f => .own a b (by
      cases z : F' p with
      | none => rfl
      | some u => exact absurd a (hf p c (by rw [z]; simp))) (d.mono sb) e (Prs.sub sb hf f)
theorem frzP_ok (f0 : FR k F0 ρ0 σ H0) : ∀ {rs : List Rv} {vs : List V} {ρ ρ' : Rho} {F Hs : Hp} {ss : List SV} {O : Addr → Prop}, Aft k ρ0 σ F0 H0 ρ F H → (∀ p, H0 p ≠ none → Hs p ≠ none) → (∀ p, O p → Hs p ≠ none) → RRs k F ρ σ H Hs rs vs → frzP ρ rs = some (ss, ρ') →
    ∃ F', Aft k ρ0 σ F0 H0 ρ' F' H ∧ Sub F F' ∧ (∀ p, F p = none → F' p ≠ none → H0 p ≠ none) ∧ Prs k H0 F' H O ss vs
  | [], _, _, _, F, _, _, _, A, _, _, .nil, q => by
    simp only [frzP, Option.some.injEq, Prod.mk.injEq] at q
    obtain ⟨rfl, rfl⟩ := q
    exact ⟨F, A, Sub.refl _, fun p h1 h2 => absurd h1 h2, .nil⟩
  | .sv (.val d0) :: rs, v :: vs, ρ, ρ', F, Hs, ss, O, A, hs, hO, .cons (H1 := H1) a b c d, q => by
    simp only [frzP, Option.bind_eq_some_iff] at q
    obtain ⟨y, e2, e3⟩ := q
    cases e3
    obtain ⟨F2, A2, s2, n2, r2⟩ := frzP_ok f0 A (fun p h => c p (hs p h)) (fun p h => c p (hO p h)) b e2
    exact ⟨F2, A2, s2, n2, .val (Rep.mono s2 a) r2⟩
  | .sv (.own o) :: rs, v :: vs, ρ, ρ', F, Hs, ss, O, A, hs, hO, .cons (H1 := H1) a b c d, q => by
    simp only [frzP, Option.bind_eq_some_iff] at q
    obtain ⟨y, e2, e3⟩ := q
    cases e3
    obtain ⟨p, ho, e1, n, h1, n1, ro⟩ := a
    subst e1
    obtain ⟨p', hp', hn'⟩ := d o rfl
    cases hp'
    obtain ⟨F2, A2, s2, n2, r2⟩ := frzP_ok (O := fun a => O a ∨ a = p) f0 A (fun p h => c p (hs p h)) (fun q h => by
      rcases h with h | rfl
      · exact c q (hO q h)
      · exact hn') b e2
    have z0 : H0 p = none := by
      cases z : H0 p with
      | none => rfl
      | some u => exact absurd n (hs p (by rw [z]; simp))
    refine ⟨F2, A2, s2, n2, .own z0 h1 ?_ (ro.mono s2) (fun z => hO p z n) r2⟩
    cases z : F2 p with
    | none => rfl
    | some u => exact absurd z0 (n2 p n1 (by rw [z]; simp))
  | .plc j :: rs, v :: vs, ρ, ρ', F, Hs, ss, O, A, hs, hO, .cons (H1 := H1) a b c d, q => by
    simp only [frzP, Option.bind_eq_some_iff] at q
    obtain ⟨x, e1, y, e2, e3⟩ := q
    cases e3
    obtain ⟨F1, A1, s1, r1, n1, l1⟩ := frz1_ok f0 A (r := .plc j) (v := v) a e1
    have n1' : ∀ p, F p = none → F1 p ≠ none → H0 p ≠ none := fun p h1 h2 => by
      obtain ⟨e5, z⟩ := n1 p h1 h2
      rcases z with z | ⟨o, z⟩
      · exact z
      · cases z
    have b' := RRs.frz s1 l1 b fun p h1 h2 => c p (hs p (n1' p h1 h2))
    obtain ⟨F2, A2, s2, n2, r2⟩ := frzP_ok f0 A1 (fun p h => c p (hs p h)) (fun p h => c p (hO p h)) b' e2
    refine ⟨F2, A2, s1.trans s2, fun p h1 h2 => ?_, .val (r1.mono s2) r2⟩
    cases z : F1 p with
    | none => exact n2 p z h2
    | some u => exact n1' p h1 (by rw [z]; simp)
def parS (P : List Nat) : List Nat → List SV → Rho → Option Rho
  | [], [], ρ => some ρ
  | i :: is, s :: ss, ρ => if i ∈ P then none else parS P is ss (ρ.set i (some s))
  | _, _, _ => none
def setS : List Nat → List V → L2.St → L2.St
  | i :: is, v :: vs, σ => setS is vs (σ.set i (some v))
  | _, _, σ => σ
theorem par_ok (hP : ∀ q ∈ e.pr, q.1 ∈ P) : ∀ {is : List Nat} {ss : List SV} {vs : List V} {ρ : Rho} {σ : L2.St} {O : Addr → Prop}, SInv k e ρ σ F H → (∀ p, Own ρ σ p → O p) → Prs k e.H F H O ss vs → parS P is ss ρ = some ρ' → SInv k e ρ' (setS is vs σ) F H ∧ is.length = vs.length
  | [], [], _, ρ, σ, O, s, _, .nil, h => by
    simp only [parS, Option.some.injEq] at h
    subst h; exact ⟨s, rfl⟩
  | i :: is, _, _, ρ, σ, O, s, hO, .val (v := v) (d := d) a b, h => by
    simp only [parS] at h
    split at h
    · cases h
    · rename_i hi
      obtain ⟨q1, q2⟩ := par_ok hP (σ := σ.set i (some v)) ⟨s.fr.setVal a, s.tr, fun p z => s.ow p z.of_setVal, pr_set hP hi s.pr⟩ (fun p z => hO p z.of_setVal) b h
      exact ⟨q1, congrArg Nat.succ q2⟩
  | i :: is, _, _, ρ, σ, O, s, hO, .own (p := p) (o := o) n h1 n1 ro no b, h => by
    simp only [parS] at h
    split at h
    · cases h
    · rename_i hi
      obtain ⟨q1, q2⟩ := par_ok hP (σ := σ.set i (some (.ref p))) ⟨s.fr.setOwn h1 n1 ro fun z => no (hO p z), s.tr, fun a z => z.of_setOwn.elim (s.ow a) fun q => .inr (q ▸ n), pr_set hP hi s.pr⟩ (fun a z => z.of_setOwn.imp (hO a) id) b h
      exact ⟨q1, congrArg Nat.succ q2⟩
  | [], _, _, _, _, _, _, _, .val _ _, h => by simp [parS] at h
  | [], _, _, _, _, _, _, _, .own _ _ _ _ _ _, h => by simp [parS] at h
  | _ :: _, _, _, _, _, _, _, _, .nil, h => by simp [parS] at h
theorem Prs.back {eH : Hp} (hb : ∀ p, H0 p = none → eH p = none) : ∀ {O : Addr → Prop} {ss : List SV} {vs : List V}, Prs k H0 F H O ss vs → Prs k eH F H O ss vs
  | _, _, _, .nil => .nil
  | _, _, _, .val a b => .val a (Prs.back hb b)
  | _, _, _, .own a b c d e f => .own (hb _ a) b c d e (Prs.back hb f)
def exPar (P is : List Nat) (ma : AM) : SM := fun ρ => (ma ρ).bind fun a => (frzP a.2 a.1).bind fun b => (parS P is b.1 b.2).bind fun ρ' => some (.nx, ρ')
theorem par_all {ta : TA} {ma : AM} {is : List Nat} (ha : SimA k ta ma) {D : Ends} (hP : ∀ q ∈ e.pr, q.1 ∈ P) (s : SInv k e ρ σ F H) (h : wpo (exPar P is ma ρ) (Post k e Wx D)) {Q : List V → Hp → Prop}
    (hq : ∀ vs H1 ρ' F', is.length = vs.length → SInv k e ρ' (setS is vs σ) F' H1 → (∀ σ F H, SInv k e ρ' σ F H → D.nx σ H) → Q vs H1) : ta σ H Q := by
  unfold exPar at h
  refine ha F ρ σ H _ s.fr ((wpo_bind.mp h).mono fun a _ h => ?_)
  intro vs F1 H1 A1 R1
  have h := wpo_bind.mp h
  cases e1 : frzP a.2 a.1 with
  | none => rw [e1] at h; exact h.elim
  | some b =>
    rw [e1] at h
    obtain ⟨ss, ρ2⟩ := b
    obtain ⟨F2, A2, s2, n2, r2⟩ := frzP_ok (O := fun p => H p ≠ none) s.fr A1 (fun p h => h) (fun p h => h) R1 e1
    have h := wpo_bind.mp h
    dsimp only at h
    cases e2 : parS P is ss ρ2 with
    | none => rw [e2] at h; exact h.elim
    | some ρ' =>
      rw [e2] at h
      have s' := s.aft A2
      obtain ⟨q1, q2⟩ := par_ok hP s' (fun p z => by
        obtain ⟨u, hu⟩ := s.fr.own_some (A2.ow p z)
        show H p ≠ none
        rw [hu]; simp) (r2.back fun p hp => by
          cases z : e.H p with
          | none => rfl
          | some u =>
            obtain ⟨u', hu'⟩ := s.tr.there p u z
            rw [hp] at hu'; cases hu') e2
      exact hq vs H1 ρ' F2 q2 q1 h
theorem simPar {ta : TA} {ma : AM} {i j : Nat} (ha : SimA k ta ma) : SimS k P Wx (tPar i j ta) (exPar P [i, j] ma) := by
  intro e ρ σ F H D hP s h
  refine par_all ha hP s h fun vs H1 ρ' F' hl s' q => ?_
  match vs, hl with
  | [v, w], _ => exact ⟨v, w, rfl, q _ F' H1 s'⟩
def gNames : List Nat → TGs
  | [] => gNil
  | i :: is => gCons (gName i) (gNames is)
theorem gNames_ok : ∀ {is : List Nat} {vs : List V} {σ : L2.St} {H : Hp} {Q : L2.St → Hp → Prop}, is.length = vs.length → Q (setS is vs σ) H → gNames is vs σ H Q
  | [], [], _, _, _, _, q => ⟨rfl, q⟩
  | i :: is, v :: vs, _, _, _, h, q => ⟨v, vs, rfl, gNames_ok (by simpa using h) q⟩
theorem simParT {ta : TA} {ma : AM} {is : List Nat} {n : Nat} (hn : is.length = n) (hz : n ≤ sizeLine) (ha : SimA k ta ma) : SimS k P Wx (tAsg (tTup ta) (gTup k.K n (gNames is))) (exPar P is ma) := by
  intro e ρ σ F H D hP s h
  refine par_all ha hP s h fun vs H1 ρ' F' hl s' q => ⟨by omega, fun p hp => ?_⟩
  refine ⟨p, vs, rfl, .inl (.inl upd_same), by omega, gNames_ok hl (q _ F' _ (s'.temp ?_ (s'.fr.sub.none_of hp) fun z => ?_))⟩
  · cases z : e.H p with
    | none => rfl
    | some u =>
      obtain ⟨u', hu'⟩ := s'.tr.there p u z
      rw [hp] at hu'; cases hu'
  · obtain ⟨u, hu⟩ := s'.fr.own_some z
    rw [hp] at hu; cases hu
end
/-! list(range(..)), tuple(range(..)) -/
def rgOkB (a b : Int) : Bool := big62 a && big62 b && Nat.ble (b - a).toNat 16777216
theorem rgOkB_ok {a b : Int} (h : rgOkB a b = true) : RgOk a b := by
  simp only [rgOkB, Bool.and_eq_true] at h
  have h1 := big62_ok h.1.1
  have h2 := big62_ok h.1.2
  exact ⟨h1.1, h1.2, h2.1, h2.2, Nat.le_of_ble_eq_true h.2⟩
def gLRg1 : D → Option SV
  | .int n => if rgOkB 0 n = true then some (.own (.lst (rngD 0 n.toNat))) else none
  | _ => none
theorem rep_rg {k : Kx} {F : Hp} {a b : Int} : RepL k F (rgV a b) (rngD a (b - a).toNat) := by
  unfold rgV rngD
  generalize (List.range (b - a).toNat) = l
  induction l with
  | nil => exact .nil
  | cons x l ih => exact .cons (.int _) ih
theorem simLRg1 {k : Kx} {te : TE} {me : EM} (he : SimE k te me) : SimE k (tLstRg (tRg1 te)) (evUn gLRg1 me) := by
  intro F ρ σ H Q f h
  unfold evUn at h
  refine he F ρ σ H _ f ((wpo_bind.mp h).mono fun a _ h => ?_)
  intro v F1 H1 A1 R1
  have h := wpo_bind.mp h
  cases e1 : rdD a.2 a.1 with
  | none => rw [e1] at h; exact h.elim
  | some d =>
    rw [e1] at h
    have rd := R1.rd A1.fr e1
    replace h : wpo ((gLRg1 d).bind _) _ := h
    replace h := wpo_bind.mp h
    unfold gLRg1 at h
    split at h
    · rename_i n
      split at h
      · rename_i hb
        rw [rd.int]
        refine ⟨n, rfl, rgOkB_ok hb, fun p hp => ?_⟩
        exact h (.ref p) F1 _ (A1.newOw hp) ⟨p, _, rfl, A1.none_of hp, upd_same, A1.fr.sub.none_of hp, _, rfl, by simpa using rep_rg (a := 0) (b := n)⟩
      · exact h.elim
    · exact h.elim
end Pv

/-! Pvn: nodes: a rule of the layer and its simulation, together. -/
namespace Pv
open PySem PySem.Spec PySem.SeqAt L2
abbrev kx (X : Cx) (CT : CTab) : Kx := ⟨X.K, CT⟩
def NE (X : Cx) (CT : CTab) (e : Expr) (m : EM) : Prop := SE (kx X CT) X e m
def NT (X : Cx) (CT : CTab) (e : Expr) (m : TM) : Prop := ST (kx X CT) X e m
def NTs (X : Cx) (CT : CTab) (es : List Expr) (m : TM) : Prop := ∃ tt, PTs X es tt ∧ SimT (kx X CT) tt m
def NA (X : Cx) (CT : CTab) (es : List Expr) (m : AM) : Prop := SA (kx X CT) X es m
def NI (X : Cx) (CT : CTab) (tg it : Expr) (m : IM) : Prop := ∃ wi, PI X tg it wi ∧ SimI (kx X CT) wi m
def NG (X : Cx) (CT : CTab) (P ts : List Nat) (tg : Expr) (m : GM) : Prop := ∃ g, PG X tg g ∧ SimG (kx X CT) P ts g m
def NGs (X : Cx) (CT : CTab) (P ts : List Nat) (tgs : List Expr) (m : GsM) : Prop := ∃ g, PGs X tgs g ∧ SimGs (kx X CT) P ts g m
def NO (X : Cx) (CT : CTab) (e : Option Expr) (m : OM) : Prop := ∃ t, PO X e t ∧ SimO (kx X CT) t m
def NS (X : Cx) (CT : CTab) (P : List Nat) (Wx : Option WX) (st : Stmt) (m : SM) : Prop := SS (kx X CT) P Wx X st m
def NSs (X : Cx) (CT : CTab) (P : List Nat) (Wx : Option WX) (sts : List Stmt) (m : SM) : Prop := SSs (kx X CT) P Wx X sts m

/-! ### the reading that a pure function itself is -/
def cE (k : Kx) (m : EM) : TE := fun σ H Q => ∃ F ρ, FR k F ρ σ H ∧ wpo (m ρ) (fun x => ∀ v F' H', Aft k ρ σ F H x.2 F' H' → RR k H F' x.2 σ H' x.1 v → Q v H')
theorem cE_sim {k : Kx} {m : EM} : SimE k (cE k m) m := fun F ρ σ H Q f h => ⟨F, ρ, f, h⟩
theorem cE_of {k : Kx} {X : Cx} {e : Expr} {m : EM} (h : SE k X e m) : PE X e (cE k m) := by
  obtain ⟨te, p, s⟩ := h
  exact ⟨fun pins sh σ H Q I ⟨F, ρ, f, q⟩ => p.run pins sh σ H Q I (s F ρ σ H Q f q)⟩
def cT (k : Kx) (m : TM) : TT := fun σ H Q => ∃ F ρ, FR k F ρ σ H ∧ wpo (m ρ) (fun x => ∀ F' H', Aft k ρ σ F H x.2 F' H' → Q x.1 H')
theorem cT_sim {k : Kx} {m : TM} : SimT k (cT k m) m := fun F ρ σ H Q f h => ⟨F, ρ, f, h⟩
theorem cT_of {k : Kx} {X : Cx} {es : List Expr} {m : TM} (h : ∃ tt, PTs X es tt ∧ SimT k tt m) : PTs X es (cT k m) := by
  obtain ⟨te, p, s⟩ := h
  exact ⟨fun pins sh σ H Q I ⟨F, ρ, f, q⟩ => p.run pins sh σ H Q I (s F ρ σ H Q f q)⟩
def cG (k : Kx) (P ts : List Nat) (m : GM) : TG := fun v σ H Q => ∃ e ρ F d, (∀ q ∈ e.pr, q.1 ∈ P) ∧ SInv k e ρ σ F H ∧ Rep k F v d ∧ wpo (m d ρ) (fun ρ' => ∀ σ', SInv k e ρ' σ' F H → Agr ts σ σ' → (∀ p, Own ρ' σ' p → Own ρ σ p) → Sls ρ ρ' → Q σ' H)
theorem cG_sim {k : Kx} {P ts : List Nat} {m : GM} : SimG k P ts (cG k P ts m) m := fun e ρ σ F H v d Q hP s r h => ⟨e, ρ, F, d, hP, s, r, h⟩
theorem cG_of {k : Kx} {X : Cx} {P ts : List Nat} {tg : Expr} {m : GM} (h : ∃ g, PG X tg g ∧ SimG k P ts g m) : PG X tg (cG k P ts m) := by
  obtain ⟨te, p, s⟩ := h
  exact ⟨fun pins sh σ H v u Q I r ⟨e, ρ, F, d, hP, si, rp, q⟩ => p.run pins sh σ H v u Q I r (s e ρ σ F H v d Q hP si rp q)⟩

section
variable {X : Cx} {CT : CTab} {pos p : Pos} {a b c e : Expr} {ma mb mc me : EM} {es : List Expr} {mr : AM} {mt mu : TM}
theorem _root_.L2.Room.u {n : Nat} {A : Around} (r : Room n A) : A.units + 200 < cLine := by have := r.un; omega
/-! names, constants -/
theorem nVar (i : Nat) {x : Str} (hN : X.N[i]? = some x := by rfl) (hv : Vis X.env.scope x := by first | exact Or.inl rfl | exact Or.inr (Or.inl rfl) | exact Or.inr (Or.inr rfl)) (hd : (x == ("__debug__" : Str)) = false := by decide)
    (hcd : (x == ("__classdict__" : Str)) = false := by decide) : NE X CT (.Name x pos) (evVar i) := ⟨_, pe_var hN hv hd hcd, simVar⟩
theorem nInt {i j} : NE X CT (.Constant (.int i) j pos) (evC (.int i)) := ⟨_, pe_int, simC fun _ => .int _⟩
theorem nBl {i j} : NE X CT (.Constant (.bool i) j pos) (evC (.bool i)) := ⟨_, pe_bl, simC fun _ => .bl _⟩
theorem nNon {j} : NE X CT (.Constant .none j pos) (evC .none) := ⟨_, pe_non, simC fun _ => .non⟩
theorem nStr {i j} : NE X CT (.Constant (.str i) j pos) (evC (.str i)) := ⟨_, pe_str, simC fun _ => .str _⟩
theorem nGInt {x : Str} {i : Int} (hm : ∃ t, X.mg x = some (.int i t)) (hg : Gl X x := by rfl) (hd : (x == ("__debug__" : Str)) = false := by decide) : NE X CT (.Name x pos) (evC (.int i)) := by
  obtain ⟨t, hm⟩ := hm
  exact ⟨_, pe_glob (v := .int i) hg hm ⟨t, rfl⟩ hd, simC fun _ => .int _⟩
/-! operators -/
theorem nAdd : NE X CT a ma → NE X CT b mb → NE X CT (.BinOp a .Add b pos) (evBin gAdd ma mb) := fun ⟨_, pa, sa⟩ ⟨_, pb, sb⟩ => ⟨_, pe_op op_addA pa pb, simBin (k := kx X CT) simAdd sa sb⟩
theorem nSub : NE X CT a ma → NE X CT b mb → NE X CT (.BinOp a .Sub b pos) (evBin gSub ma mb) := fun ⟨_, pa, sa⟩ ⟨_, pb, sb⟩ => ⟨_, pe_op op_sub pa pb, simBin simSub sa sb⟩
theorem nFdiv : NE X CT a ma → NE X CT b mb → NE X CT (.BinOp a .FloorDiv b pos) (evBin gFdiv ma mb) := fun ⟨_, pa, sa⟩ ⟨_, pb, sb⟩ => ⟨_, pe_op op_fdiv pa pb, simBin simFdiv sa sb⟩
theorem nMod : NE X CT a ma → NE X CT b mb → NE X CT (.BinOp a .Mod b pos) (evBin gMod ma mb) := fun ⟨_, pa, sa⟩ ⟨_, pb, sb⟩ => ⟨_, pe_op op_mod pa pb, simBin simMod sa sb⟩
theorem nPow : NE X CT a ma → NE X CT b mb → NE X CT (.BinOp a .Pow b pos) (evBin gPow ma mb) := fun ⟨_, pa, sa⟩ ⟨_, pb, sb⟩ => ⟨_, pe_op op_pow pa pb, simBin simPow sa sb⟩
theorem nNeg : NE X CT a ma → NE X CT (.UnaryOp .USub a pos) (evUn gNeg ma) := fun ⟨_, pa, sa⟩ => ⟨_, pe_un un_neg pa, simUn simNeg sa⟩
structure Cmp (X : Cx) (CT : CTab) (op : CmpOp) (g : D → D → Option SV) : Prop where
  ex : ∃ r, OpR X (compareOp op) r ∧ OpSim (kx X CT) r g
variable {op op' : CmpOp} {g g' : D → D → Option SV} {n : Nat}
theorem kEq (hr : Room n X.A) : Cmp X CT .Eq gEqD := ⟨_, op_eqP hr.u, simDat fun _ _ h => ⟨(pEq_ok h).1, (pEq_ok h).2.1⟩⟩
theorem kNe (hr : Room n X.A) : Cmp X CT .NotEq gNeD := ⟨_, op_neP hr.u, simDat fun _ _ h => ⟨(pEq_ok h).1, (pEq_ok h).2.1⟩⟩
theorem kLt (hr : Room n X.A) : Cmp X CT .Lt gLtD := ⟨_, op_ltP hr.u, simDat fun _ _ h => ⟨(pLt_ok h).1, (pLt_ok h).2.1⟩⟩
theorem kGt (hr : Room n X.A) : Cmp X CT .Gt gGtD := ⟨_, op_gtP hr.u, simDat fun _ _ h => ⟨(pLt_ok h).1, (pLt_ok h).2.1⟩⟩
theorem kLe (hr : Room n X.A) : Cmp X CT .LtE gLeD := ⟨_, op_leP hr.u, simDat fun _ _ h => ⟨(pLt_ok h).1, (pLt_ok h).2.1⟩⟩
theorem kGe (hr : Room n X.A) : Cmp X CT .GtE gGeD := ⟨_, op_geP hr.u, simDat fun _ _ h => ⟨(pLt_ok h).1, (pLt_ok h).2.1⟩⟩
theorem kIn (hr : Room n X.A) : Cmp X CT .In gInD := ⟨_, op_inP hr.u, simDat fun _ _ h => pIn_plain h⟩
theorem kIsNot (hr : Room n X.A) : Cmp X CT .IsNot gIsNot := ⟨_, op_notN, simIsNot⟩
theorem nCmp (o : Cmp X CT op g) (ha : NE X CT a ma) (hb : NE X CT b mb) (hm : behindInMarks op b = false := by first | exact nomark _ | with_unfolding_all rfl) : NE X CT (.Compare a [op] [b] pos) (evBin g ma mb) := by
  obtain ⟨r, o1, o2⟩ := o.ex
  obtain ⟨_, pa, sa⟩ := ha
  obtain ⟨_, pb, sb⟩ := hb
  exact ⟨_, pe_cmpR o1 pa pb hm, simBin o2 sa sb⟩
theorem nChain (o : Cmp X CT op g) (o' : Cmp X CT op' g') (ha : NE X CT a ma) (hb : NE X CT b mb) (hc : NE X CT c mc) (hm : lastMarks [op, op'] [b, c] = false := by with_unfolding_all rfl) : NE X CT (.Compare a [op, op'] [b, c] pos) (evChain g g' ma mb mc) := by
  obtain ⟨r, o1, o2⟩ := o.ex
  obtain ⟨r', o3, o4⟩ := o'.ex
  obtain ⟨_, pa, sa⟩ := ha
  obtain ⟨_, pb, sb⟩ := hb
  obtain ⟨_, pc, sc⟩ := hc
  exact ⟨_, pe_chain o1 o3 pa pb pc hm, simChain o2 o4 sa sb sc⟩
theorem nOne {op} : NE X CT a ma → NE X CT (.BoolOp op [a] pos) ma := fun ⟨_, pa, sa⟩ => ⟨_, pe_one pa, sa⟩
theorem nAnd {rest : List Expr} : NE X CT a ma → NE X CT (.BoolOp .And (b :: rest) pos) mb → NE X CT (.BoolOp .And (a :: b :: rest) pos) (evAnd ma mb) := fun ⟨_, pa, sa⟩ ⟨_, pb, sb⟩ => ⟨_, pe_and pa pb, simAnd sa sb⟩
theorem nNot : NE X CT a ma → NE X CT (.UnaryOp .Not a pos) (evNot ma) := fun ⟨_, pa, sa⟩ => ⟨_, pe_not pa, simNot sa⟩
theorem nIf : NT X CT c mt → NE X CT a ma → NE X CT b mb → NE X CT (.IfExp c a b pos) (evIf mt ma mb) := fun ⟨_, pc, sc⟩ ⟨_, pa, sa⟩ ⟨_, pb, sb⟩ => ⟨_, pe_ifExp pc pa pb, simIf sc sa sb⟩
/-! tests -/
theorem qVal (h : NE X CT a ma) (he : ∀ whole, isTrue a X.env whole = (do let v ← whole; standAt a.pos; holding [v] (truthy v)) := by intro _; rfl) : NT X CT a (tvB ma) := by
  obtain ⟨_, pa, sa⟩ := h
  exact ⟨_, pt_val pa he, simTvB sa⟩
theorem qCmp (o : Cmp X CT op g) (ha : NE X CT a ma) (hb : NE X CT b mb) (hm : behindInMarks op b = false := by first | exact nomark _ | with_unfolding_all rfl) : NT X CT (.Compare a [op] [b] pos) (tvB (evBin g ma mb)) := by
  obtain ⟨r, o1, o2⟩ := o.ex
  obtain ⟨_, pa, sa⟩ := ha
  obtain ⟨_, pb, sb⟩ := hb
  exact ⟨_, pt_cmpR o1 pa pb hm, simTvB (simBin o2 sa sb)⟩
theorem qChain (o : Cmp X CT op g) (o' : Cmp X CT op' g') (ha : NE X CT a ma) (hb : NE X CT b mb) (hc : NE X CT c mc) (hm : lastMarks [op, op'] [b, c] = false := by with_unfolding_all rfl) : NT X CT (.Compare a [op, op'] [b, c] pos) (tvB (evChain g g' ma mb mc)) := by
  obtain ⟨r, o1, o2⟩ := o.ex
  obtain ⟨r', o3, o4⟩ := o'.ex
  obtain ⟨_, pa, sa⟩ := ha
  obtain ⟨_, pb, sb⟩ := hb
  obtain ⟨_, pc, sc⟩ := hc
  exact ⟨_, pt_chain o1 o3 pa pb pc hm, simTvB (simChain o2 o4 sa sb sc)⟩
theorem qNot : NT X CT a mt → NT X CT (.UnaryOp .Not a pos) (tvNot mt) := fun ⟨_, pa, sa⟩ => ⟨_, pt_not pa, simTNot sa⟩
def NW (X : Cx) (CT : CTab) (e : Expr) (m : TM) : Prop := ∃ tt, PW X e tt ∧ SimT (kx X CT) tt m
theorem wOr1 : NT X CT a mt → NW X CT (.BoolOp .Or [a] pos) mt := fun ⟨_, pa, sa⟩ => ⟨_, pw_or1 pa, sa⟩
theorem wAnd {rest : List Expr} : NT X CT a mt → NW X CT (.BoolOp .And (b :: rest) pos) mu → NW X CT (.BoolOp .And (a :: b :: rest) pos) (tvAnd mt mu) := fun ⟨_, pa, sa⟩ ⟨_, pb, sb⟩ => ⟨_, pw_and pa pb, simTAnd sa sb⟩
theorem wOr {rest : List Expr} : NT X CT a mt → NW X CT (.BoolOp .Or (b :: rest) pos) mu → NW X CT (.BoolOp .Or (a :: b :: rest) pos) (tvOr mt mu) := fun ⟨_, pa, sa⟩ ⟨_, pb, sb⟩ => ⟨_, pw_or pa pb, simTOr sa sb⟩
theorem qW : NW X CT a mt → NT X CT a mt := fun ⟨_, pa, sa⟩ => ⟨_, pa.pt, sa⟩
def tvYes : TM := fun ρ => some (true, ρ)
theorem tsNil : NTs X CT [] tvYes := ⟨_, pts_nil, fun F ρ σ H Q f h => h F H (Aft.refl f)⟩
theorem tsOne : NT X CT a mt → NTs X CT [a] mt := fun ⟨_, pa, sa⟩ => ⟨_, pts_one pa, sa⟩
/-! arguments, displays -/
theorem aNil : NA X CT [] evNil := ⟨_, pa_nil, simNil⟩
theorem aCons (ha : NE X CT e me) (hr : NA X CT es mr) (hs : starEach (e :: es) X.env = (false, eval e X.env) :: starEach es X.env := by rfl) : NA X CT (e :: es) (evCons me mr) := by
  obtain ⟨_, pa, sa⟩ := ha
  obtain ⟨_, pr, sr⟩ := hr
  exact ⟨_, pa_cons pa pr hs, simCons sa sr⟩
theorem nTup {x1} : NA X CT es mr → NE X CT (.Tuple es x1 pos) (evTup mr) := fun ⟨_, pa, sa⟩ => ⟨_, pe_tup pa, simTup sa⟩
theorem nLst : NA X CT es mr → NE X CT (.List es pos) (evLst mr) := fun ⟨_, pa, sa⟩ => ⟨_, pe_lst pa, simLst sa⟩
/-! subscripts -/
theorem nIx (ha : NE X CT a ma) (hb : NE X CT b mb) (hs : PlainIx b := by intro _ _; rfl) : NE X CT (.Subscript a b pos) (evBin gIx ma mb) := by
  obtain ⟨_, pa, sa⟩ := ha
  obtain ⟨_, pb, sb⟩ := hb
  exact ⟨_, pe_ix ix_A pa pb hs, simBin (k := kx X CT) simIx sa sb⟩
theorem oNone : NO X CT none opNone := ⟨_, po_none, simPNone⟩
theorem oSome : NE X CT a ma → NO X CT (some a) (opSome ma) := fun ⟨_, pa, sa⟩ => ⟨_, po_some pa, simPSome sa⟩
theorem nSl {lo hi : Option Expr} {ml mh : OM} {p2 : Pos} : NE X CT a ma → NO X CT lo ml → NO X CT hi mh → NE X CT (.Subscript a (.Slice lo hi none p2) pos) (evSl ma ml mh) :=
  fun ⟨_, pa, sa⟩ ⟨_, pl, sl⟩ ⟨_, ph, sh⟩ => ⟨_, pe_slice sl_B pa pl ph, simSl (k := kx X CT) sa sl sh⟩
/-! built-in functions -/
structure Blt (X : Cx) (CT : CTab) (v : Value) (g : List D → Option SV) : Prop where
  ex : ∃ r, CallR X v r ∧ CallSim (kx X CT) r g
variable {gc : List D → Option SV} {x : Str} {id T : String}
theorem uLen : Blt X CT (.builtin "len") gLen := ⟨_, cr_lenS, simLen⟩
theorem uInt : Blt X CT (.type "int") gInt := ⟨_, call_int1, simInt⟩
theorem uList : Blt X CT (.type "list") gList := ⟨_, call_list_of, simList (k := kx X CT)⟩
theorem uTuple : Blt X CT (.type "tuple") gTuple := ⟨_, call_tuple_of, simTuple (k := kx X CT)⟩
theorem uAll (hc : X.calm = true) : Blt X CT (.builtin "all") gAll := ⟨_, cr_all hc, simAll (k := kx X CT)⟩
theorem nB (u : Blt X CT (.builtin id) gc) (hv : bootBuiltins x = some (.builtin id)) (hm : X.mg x = none) (ha : NA X CT (e :: es) mr) (hg : Gl X x := by rfl) (hn : x ≠ "__name__" := by decide) (hdb : (x == ("__debug__" : Str)) = false := by decide)
    (he : starEach (e :: es) X.env = (false, eval e X.env) :: starEach es X.env := by rfl) (hpl : (backTo pos (starEach es X.env)).any (·.1) = false := by rfl) : NE X CT (.Call (.Name x p) (e :: es) [] pos) (evCall gc mr) := by
  obtain ⟨r, u1, u2⟩ := u.ex
  obtain ⟨_, pa, sa⟩ := ha
  exact ⟨_, pe_callB u1 hg hm hv pa hn hdb he hpl, simCall u2 sa⟩
theorem nTy (u : Blt X CT (.type T) gc) (hv : bootBuiltins x = some (.type T)) (hm : X.mg x = none) (ha : NA X CT (e :: es) mr) (hg : Gl X x := by rfl) (hn : x ≠ "__name__" := by decide) (hdb : (x == ("__debug__" : Str)) = false := by decide)
    (he : starEach (e :: es) X.env = (false, eval e X.env) :: starEach es X.env := by rfl) (hpl : (backTo pos (starEach es X.env)).any (·.1) = false := by rfl) : NE X CT (.Call (.Name x p) (e :: es) [] pos) (evCall gc mr) := by
  obtain ⟨r, u1, u2⟩ := u.ex
  obtain ⟨_, pa, sa⟩ := ha
  exact ⟨_, pe_callTy u1 hg hm hv pa hn hdb he hpl, simCall u2 sa⟩
/-! list(range(..)) -/
theorem nLRg1 {p2 pos2 : Pos} (hc : X.calm = true) (h1 : X.mg "list" = none) (h2 : X.mg "range" = none) (ha : NE X CT a ma) (hg : Gl X "list" := by rfl) (hg2 : Gl X "range" := by rfl) (na : starEach [a] X.env = (false, eval a X.env) :: starEach [] X.env := by rfl)
    (nb : starEach [.Call (.Name "range" p2) [a] [] pos2] X.env = (false, eval (.Call (.Name "range" p2) [a] [] pos2) X.env) :: starEach [] X.env := by rfl) : NE X CT (.Call (.Name "list" p) [.Call (.Name "range" p2) [a] [] pos2] [] pos) (evUn gLRg1 ma) := by
  obtain ⟨_, pa, sa⟩ := ha
  exact ⟨_, pe_listRg hc hg h1 (prg_1 hg2 h2 pa na) nb, simLRg1 sa⟩
/-! isinstance -/
theorem nIsi {t : TR} {v : V} {u : Value} (ok : IsiOk (kx X CT)) (ht : TRV (kx X CT) t v u) (hb : PE X b (tC v)) (hm : X.mg "isinstance" = none) (ha : NE X CT a ma) (hg : Gl X "isinstance" := by rfl)
    (he : starEach [a, b] X.env = (false, eval a X.env) :: starEach [b] X.env := by rfl) (he2 : starEach [b] X.env = (false, eval b X.env) :: starEach [] X.env := by rfl) (hpl : (backTo pos (starEach [b] X.env)).any (·.1) = false := by rfl) : NE X CT (.Call (.Name "isinstance" p) [a, b] [] pos) (evIsi [t] ma) := by
  obtain ⟨_, pa, sa⟩ := ha
  exact ⟨_, pe_callB call_isi hg hm PyProof.Rows.boot_isinstance (pa_cons pa (pa_cons hb pa_nil he2) he) (he := he) (hpl := hpl), simIsi (k := kx X CT) ok ht sa⟩
theorem pTy {x : Str} {n : String} (hv : bootBuiltins x = some (.type n)) (hm : X.mg x = none) (hg : Gl X x := by rfl) (hn : x ≠ "__name__" := by decide) (hd : (x == ("__debug__" : Str)) = false := by decide) : PE X (.Name x p) (tC (.ty n)) := pe_bltn hg hm hv rfl hn hd
/-! fields -/
/-! calls -/
def FunK (P : Program) (w : World) (K : PySem.W.Frag) (mg : Str → Option Value) (base : Heap) (CT : CTab) (n : Nat) (f : Addr) (io : Bool) (np : Nat) (cm : CM) : Prop := ∃ fd ps, FnOk P w K mg base CX0 n f fd ps (spF ⟨K, CT⟩ io np cm) ∧ Binds K fd ps []
abbrev Fun (X : Cx) (CT : CTab) (n : Nat) (f : Addr) (io : Bool) (np : Nat) (cm : CM) : Prop := FunK X.prog X.w X.K X.mg X.base CT n f io np cm
variable {f C : Addr} {io : Bool} {np j : Nat} {cm : CM}
theorem nCall (F : Fun X CT j f io np cm) (hr : Room j X.A) (hm : X.mg x = some (.ref f)) (hk : PySem.W.keepIn X.K (.ref f) = true) (ha : NA X CT (e :: es) mr) (hg : Gl X x := by rfl) (hdb : (x == ("__debug__" : Str)) = false := by decide)
    (he : starEach (e :: es) X.env = (false, eval e X.env) :: starEach es X.env := by rfl) (hpl : (backTo pos (starEach es X.env)).any (·.1) = false := by rfl) : NE X CT (.Call (.Name x p) (e :: es) [] pos) (evCallL np cm mr) := by
  obtain ⟨fd, ps, F, hb⟩ := F
  obtain ⟨_, pa, sa⟩ := ha
  exact ⟨_, pe_call F hr hg hm hk hb .nil (pass0) pa hdb he hpl, simCallL sa⟩
theorem nCallI (F : Fun X CT j f true np cm) (hr : Room j X.A) (hm : X.mg x = some (.ref f)) (hk : PySem.W.keepIn X.K (.ref f) = true) (ha : NA X CT (e :: es) mr) (hg : Gl X x := by rfl) (hdb : (x == ("__debug__" : Str)) = false := by decide)
    (he : starEach (e :: es) X.env = (false, eval e X.env) :: starEach es X.env := by rfl) (hpl : (backTo pos (starEach es X.env)).any (·.1) = false := by rfl) : NE X CT (.Call (.Name x p) (e :: es) [] pos) (evCallI np cm mr) := by
  obtain ⟨fd, ps, F, hb⟩ := F
  obtain ⟨_, pa, sa⟩ := ha
  exact ⟨_, pe_call F hr hg hm hk hb .nil (pass0) pa hdb he hpl, simCallI sa⟩
theorem nMake {ci : Int} {ns : List Str} (hC : CT ci = some (C, ns)) (M : Mk X.K C f) (F : Fun X CT j f true np cm) (hr : Room (j + 1) X.A) (hm : X.mg x = some (.ref C)) (ha : NA X CT (e :: es) mr) (hg : Gl X x := by rfl) (hdb : (x == ("__debug__" : Str)) = false := by decide)
    (he : starEach (e :: es) X.env = (false, eval e X.env) :: starEach es X.env := by rfl) (hpl : (backTo pos (starEach es X.env)).any (·.1) = false := by rfl) : NE X CT (.Call (.Name x p) (e :: es) [] pos) (evMake ci np cm mr) := by
  obtain ⟨fd, ps, F, hb⟩ := F
  obtain ⟨_, pa, sa⟩ := ha
  exact ⟨_, pe_make M F hr hg hm hb .nil (pass0) pa hdb he hpl, simMake (k := kx X CT) hC sa⟩
end
end Pv

/-! Pvo: nodes: walks, targets, comprehensions, methods, statements, defs. -/
namespace Pv
open PySem PySem.Spec PySem.SeqAt L2
section
variable {X : Cx} {CT : CTab} {pos p : Pos} {a b c e tg it : Expr} {ma mb mc me : EM} {es tgs : List Expr} {mr : AM} {mt mu : TM} {P ts us : List Nat} {Wx : Option WX} {mi : IM} {mg : GM} {mgs : GsM} {mb' : SM}
/-! what is walked -/
theorem iSeqN : NE X CT it me → NI X CT tg it (ivSeq me) := fun ⟨_, pa, sa⟩ => ⟨_, pi_seq pa, simSeqI (k := kx X CT) sa⟩
theorem iRng1N (hm : X.mg "range" = none) (ha : NA X CT [a] mr) (hg : Gl X "range" := by rfl) (hs : starEach [a] X.env = [(false, eval a X.env)] := by rfl) : NI X CT tg (.Call (.Name "range" p) [a] [] pos) (ivArgs rng1 mr) := by
  obtain ⟨_, pa, sa⟩ := ha
  exact ⟨_, pi_range1 hg hm pa hs, simRng1 sa⟩
theorem iRng2N (hm : X.mg "range" = none) (ha : NA X CT [a, b] mr) (hg : Gl X "range" := by rfl) (hs : starEach [a, b] X.env = [(false, eval a X.env), (false, eval b X.env)] := by rfl) (hs2 : starEach [b] X.env = [(false, eval b X.env)] := by rfl) : NI X CT tg (.Call (.Name "range" p) [a, b] [] pos) (ivArgs rng2 mr) := by
  obtain ⟨_, pa, sa⟩ := ha
  exact ⟨_, pi_range2 hg hm pa hs hs2, simRng2 sa⟩
theorem iEnumN {tpos : Pos} {elts : List Expr} {kk : Nat} (hm : X.mg "enumerate" = none) (ha : NE X CT a ma) (hg : Gl X "enumerate" := by rfl) (hs : starEach [a] X.env = [(false, eval a X.env)] := by rfl) (hs2 : starEach [a] X.env = (false, eval a X.env) :: starEach [] X.env := by rfl) :
    NI X CT (.Tuple elts kk tpos) (.Call (.Name "enumerate" p) [a] [] pos) (ivEnum ma) := by
  obtain ⟨_, pa, sa⟩ := ha
  exact ⟨_, pi_enumS hg hm (pa_cons pa pa_nil hs2) hs, simEnum (k := kx X CT) sa⟩
/-! targets -/
theorem gNameN (i : Nat) {x : Str} (hN : X.N.Nodup) (hi : X.N[i]? = some x := by rfl) (hx : Loc X.env.scope x := by first | exact Or.inl rfl | exact Or.inr rfl) (hf : X.fn x = true ∨ X.env.scope.names.lookup x = some .local := by first | exact .inl rfl | exact .inr rfl) : NG X CT P [i] (.Name x pos) (tgName P i) :=
  ⟨_, pg_name hN hi hx hf, simGName⟩
theorem gsNilN : NGs X CT P [] [] tgNil := ⟨_, pgs_nil, simGsNil⟩
theorem gsConsN (h1 : NG X CT P ts tg mg) (h2 : NGs X CT P us tgs mgs) (hs : (assignEach (tg :: tgs) X.env).map (·.2) = assign tg X.env :: (assignEach tgs X.env).map (·.2) := by rfl) : NGs X CT P (ts ++ us) (tg :: tgs) (tgCons mg mgs) := by
  obtain ⟨_, p1, s1⟩ := h1
  obtain ⟨_, p2, s2⟩ := h2
  exact ⟨_, pgs_cons p1 p2 hs, simGsCons s1 s2⟩
theorem gTupN {kk n : Nat} (hc : X.calm = true) (h : NGs X CT P ts tgs mgs) (hn : (assignEach tgs X.env).length = n := by rfl) (hst : (assignEach tgs X.env).findIdx? (·.1) = none := by rfl) : NG X CT P ts (.Tuple tgs kk pos) (tgTup n mgs) := by
  obtain ⟨_, p1, s1⟩ := h
  exact ⟨_, pg_tup hc p1 hn hst, simGTup (k := kx X CT) s1⟩
/-! comprehensions -/
abbrev Blk (X : Cx) (scope : Scope) (Φ : Cx → Prop) : Prop := ∀ (s : Shared) (H : Hp) (C : Addr) (cl : List (Str × Addr)) (fp : List Addr), Φ (X.blk s H scope (compEnvC scope cl C X.env) fp)
theorem nComp {scope : Scope} {ifs : List Expr} {vs : List Nat} (own : List (Str × Nat)) (hc : X.calm = true) (hN : X.N.Nodup) (ok : BlkOk X.N X.env.scope scope own) (hi : NI X CT tg it mi) (hg : Blk X scope fun Y => NG Y CT [] ts tg mg) (ht : Blk X scope fun Y => NTs Y CT ifs mt) (he : Blk X scope fun Y => NE Y CT e me)
    (hv : ∀ t ∈ ts, t ∈ own.map (·.2) := by decide) (hs : ∀ x, foldedSetIterable it X.env x = pure x := by intro _; rfl) (hvs : own.map (·.2) = vs := by rfl) : NE X CT (.ListComp e [⟨tg, it, ifs, 0⟩] scope pos) (evComp mi mg mt me vs) := by
  obtain ⟨_, p1, s1⟩ := hi
  subst hvs
  exact ⟨_, pe_lc hc hN p1 ok (fun s H C cl fp => cG_of (k := kx X CT) (hg s H C cl fp)) (fun s H C cl fp => cT_of (k := kx X CT) (ht s H C cl fp)) (fun s H C cl fp => cE_of (k := kx X CT) (he s H C cl fp)) hs, simComp s1 cG_sim cT_sim cE_sim hv⟩
/-! methods of lists -/
theorem nAppend (i : Nat) {x : Str} {apos : Pos} (ho : PE X (.Name x p) (tVar i)) (ha : NA X CT [e] mr) (hbase : attributeBase (.Name x p) "append" X.env (eval (.Name x p) X.env) = eval (.Name x p) X.env := by rfl)
    (hfew : ((backTo pos (starEach [e] X.env)).all (fun x => !x.1) && (backToKw pos (keywordEach [] X.env)).all (fun x => x.1.isSome) && decide ([e].length + ([] : List Keyword).length + (if ([] : List Keyword).isEmpty then 0 else 1) < 30)) = true := by rfl)
    (hline : (apos.endLine == pos.line) = true := by rfl) (hs : starEach [e] X.env = (false, eval e X.env) :: starEach [] X.env := by rfl) : NE X CT (.Call (.Attribute (.Name x p) "append" apos) [e] [] pos) (evMut fAppend i mr) := by
  obtain ⟨_, pa, sa⟩ := ha
  exact ⟨_, pe_bm PySem.F.plainAttrs_list PySem.F.slot_list_append PySem.F.type_list_append mt_append ho pa hbase hfew hline hs, simMut (k := kx X CT) simAppend sa⟩
/-! statements -/
theorem sBad {st : Stmt} : NS X CT P Wx st exBad := ⟨_, ps_never, simBad⟩
theorem sSet (i : Nat) {x : Str} {pos' : Pos} (hN : X.N.Nodup) (he : NE X CT e me) (hi : X.N[i]? = some x := by rfl) (hx : Loc X.env.scope x := by first | exact Or.inl rfl | exact Or.inr rfl) (hs : swapsWith e (some (.Name x pos')) pos.line X.env = pure false := by rfl)
    (hf : X.fn x = true ∨ X.env.scope.names.lookup x = some .local := by first | exact .inl rfl | exact .inr rfl) : NS X CT P Wx (.Assign [.Name x pos'] e pos) (exAsg P i me) := by
  obtain ⟨_, pa, sa⟩ := he
  exact ⟨_, ps_set hN hi hx pa hs hf, simAsg sa⟩
theorem sSetLc (i : Nat) {y : Str} {py spos : Pos} {scope : Scope} {ifs : List Expr} {vs : List Nat} (own : List (Str × Nat)) (hc : X.calm = true) (hN : X.N.Nodup) (ok : BlkOk X.N X.env.scope scope own) (hi : NI X CT tg it mi) (hg : Blk X scope fun Y => NG Y CT [] ts tg mg) (ht : Blk X scope fun Y => NTs Y CT ifs mt) (he : Blk X scope fun Y => NE Y CT e me)
    (hy : X.N[i]? = some y := by rfl) (hyl : X.env.scope.names.lookup y = some .local := by rfl) (hsw : swapsWith (.ListComp e [⟨tg, it, ifs, 0⟩] scope pos) (some (.Name y py)) spos.line X.env = pure true := by exact sw_true rfl rfl rfl (by decide +kernel))
    (hv : ∀ t ∈ ts, t ∈ own.map (·.2) := by decide) (hs : ∀ x, foldedSetIterable it X.env x = pure x := by intro _; rfl) (hvs : own.map (·.2) = vs := by rfl) : NS X CT P Wx (.Assign [.Name y py] (.ListComp e [⟨tg, it, ifs, 0⟩] scope pos) spos) (exAsg P i (evComp mi mg mt me vs)) := by
  obtain ⟨_, p1, s1⟩ := hi
  subst hvs
  exact ⟨_, ps_setLc hc hN hy hyl hsw p1 ok (fun s H C cl fp => cG_of (k := kx X CT) (hg s H C cl fp)) (fun s H C cl fp => cT_of (k := kx X CT) (ht s H C cl fp)) (fun s H C cl fp => cE_of (k := kx X CT) (he s H C cl fp)) hs, simAsg (simComp s1 cG_sim cT_sim cE_sim hv)⟩
theorem sPar2 (i j : Nat) {x y : Str} {px py pt : Pos} {kt k2 pt2} (hc : X.calm = true) (hN : X.N.Nodup) (ha : NA X CT [a, b] mr) (hij : i ≠ j := by decide) (hi : X.N[i]? = some x := by rfl) (hj : X.N[j]? = some y := by rfl)
    (hx : X.env.scope.names.lookup x = some .local := by rfl) (hy : X.env.scope.names.lookup y = some .local := by rfl) (hw : swappedStores [.Tuple [.Name x px, .Name y py] kt pt] (.Tuple [a, b] k2 pt2) X.env = pure (some [x, y]) := by rfl)
    (hs : swapsWithSole [.Tuple [.Name x px, .Name y py] kt pt] (.Tuple [a, b] k2 pt2) pos.line X.env = pure false := by rfl) : NS X CT P Wx (.Assign [.Tuple [.Name x px, .Name y py] kt pt] (.Tuple [a, b] k2 pt2) pos) (exPar P [i, j] mr) := by
  obtain ⟨_, pa, sa⟩ := ha
  exact ⟨_, ps_par hc hN hi hj hij hx hy pa hw hs, simPar sa⟩
def NNs (X : Cx) (tgs : List Expr) (is : List Nat) : Prop := PGs X tgs (gNames is)
theorem nnNil : NNs X [] [] := pgs_nil
theorem nnCons (i : Nat) {x : Str} {is : List Nat} (hN : X.N.Nodup) (h : NNs X tgs is) (hi : X.N[i]? = some x := by rfl) (hx : Loc X.env.scope x := by first | exact Or.inl rfl | exact Or.inr rfl) (hf : X.fn x = true ∨ X.env.scope.names.lookup x = some .local := by first | exact .inl rfl | exact .inr rfl)
    (hs : (assignEach (.Name x pos :: tgs) X.env).map (·.2) = assign (.Name x pos) X.env :: (assignEach tgs X.env).map (·.2) := by rfl) : NNs X (.Name x pos :: tgs) (i :: is) := pgs_cons (pg_name hN hi hx hf) h hs
theorem sParT (is : List Nat) {n : Nat} {pt : Pos} {kt k2 pt2} (hc : X.calm = true) (h : NNs X tgs is) (ha : NA X CT es mr) (hl : is.length = n := by rfl) (hn : (assignEach tgs X.env).length = n := by rfl) (hst : (assignEach tgs X.env).findIdx? (·.1) = none := by rfl) (hz : n ≤ sizeLine := by decide)
    (hs : swapsWithSole [.Tuple tgs kt pt] (.Tuple es k2 pt2) pos.line X.env = pure false := by rfl) (hw : swappedStores [.Tuple tgs kt pt] (.Tuple es k2 pt2) X.env = pure none := by rfl) (h1 : (assignEach [.Tuple tgs kt pt] X.env).map (·.2) = [assign (.Tuple tgs kt pt) X.env] := by rfl) :
    NS X CT P Wx (.Assign [.Tuple tgs kt pt] (.Tuple es k2 pt2) pos) (exPar P is mr) := by
  obtain ⟨_, pa, sa⟩ := ha
  exact ⟨_, ps_asg (pe_tup pa) (pg_tup hc h hn hst) hs hw h1, simParT (k := kx X CT) hl hz sa⟩
theorem sSto (j : Nat) {x : Str} {pp : Pos} (ho : PE X (.Name x p) (tVar j)) (hi : NE X CT a ma) (he : NE X CT e me) (ha : ∀ v, assign (.Subscript (.Name x p) a pp) X.env v = (do
      let ov ← holding [v] (eval (.Name x p) X.env)
      let iv ← holding [v, ov] (eval a X.env)
      standAt pp
      holding [v, ov, iv] (setItem ov iv v)
      release [v, ov, iv] []) := by intro _; rfl) (hs : swapsWithSole [.Subscript (.Name x p) a pp] e pos.line X.env = pure false := by rfl) (hw : swappedStores [.Subscript (.Name x p) a pp] e X.env = pure none := by rfl) (h1 : (assignEach [.Subscript (.Name x p) a pp] X.env).map (·.2) = [assign (.Subscript (.Name x p) a pp) X.env] := by rfl) :
    NS X CT P Wx (.Assign [.Subscript (.Name x p) a pp] e pos) (exSto j ma me) := by
  obtain ⟨_, pi, si⟩ := hi
  obtain ⟨_, pe, se⟩ := he
  exact ⟨_, ps_asg pe (pg_sub ho pi set_list ha) hs hw h1, simSto (k := kx X CT) si se⟩
theorem sFldN (i : Nat) {x f : Str} {pos' : Pos} {fn : FNs} (ok : FldOk (kx X CT) fn) (ho : PE X (.Name x p) (tVar i)) (he : NE X CT e me) (hs : swapsWith e (some (.Attribute (.Name x p) f pos')) pos.line X.env = pure false := by rfl) : NS X CT P Wx (.Assign [.Attribute (.Name x p) f pos'] e pos) (exFld fn i f me) := by
  obtain ⟨_, pe, se⟩ := he
  exact ⟨_, ps_fld ho pe hs, simFldS (k := kx X CT) ok se⟩
theorem sExpr (he : NE X CT e me) (hs : swapsWith e none pos.line X.env = pure false := by rfl) : NS X CT P Wx (.Expr e pos) (exExpr me) := by
  obtain ⟨_, pe, se⟩ := he
  exact ⟨_, ps_expr pe hs, simExpr se⟩
theorem sRet : NE X CT e me → NS X CT P Wx (.Return (some e) pos) (exRet me) := fun ⟨_, pe, se⟩ => ⟨_, ps_ret pe, simRet se⟩
variable {st : Stmt} {rest body orelse : List Stmt} {m n : SM}
theorem ssNil : NSs X CT P Wx [] exPass := ⟨_, pss_nil, simPass⟩
theorem ssOne : NS X CT P Wx st m → NSs X CT P Wx [st] m := fun ⟨_, p, s⟩ => ⟨_, pss_one p, s⟩
theorem ssCons : NS X CT P Wx st m → NSs X CT P Wx rest n → NSs X CT P Wx (st :: rest) (exSeq m n) := fun ⟨_, p, s⟩ ⟨_, p2, s2⟩ => ⟨_, pss_cons p p2, simSeq s s2⟩
theorem sIf : NT X CT c mt → NSs X CT P Wx body m → NSs X CT P Wx orelse n → NS X CT P Wx (.If c body orelse pos) (exIf mt m n) := fun ⟨_, pc, sc⟩ ⟨_, p, s⟩ ⟨_, p2, s2⟩ => ⟨_, ps_if pc p p2, simIfS sc s s2⟩
theorem sFor (ks : List Nat) (hp : PassesOwn (model X.prog X.w) X.A X.env X.xe) (hc : X.calm = true) (hi : NI X CT tg it mi) (hg : NG X CT P ts tg mg) (hb : NSs X CT P Wx body m) (hs : ∀ x, foldedSetIterable it X.env x = pure x := by intro _; rfl) : NS X CT P Wx (.For tg it body [] pos) (exFor mi mg (exKill ks m)) := by
  obtain ⟨_, p1, s1⟩ := hi
  obtain ⟨_, p2, s2⟩ := hg
  obtain ⟨_, p3, s3⟩ := hb
  exact ⟨_, ps_for hp hc p1 p2 p3 hs, simFor s1 s2 (simKill ks s3)⟩
end
/-! ### defs -/
section
variable {P : Program} {w : World} {K : PySem.W.Frag} {mg : Str → Option Value} {base : Heap} {x qual : Str} {params : Arguments} {body : List Stmt} {scope : Scope} {f : Addr} {fd : FuncData}
abbrev cxF (P : Program) (w : World) (K : PySem.W.Frag) (mg : Str → Option Value) (base : Heap) (N : List Str) (qual : Str) (scope : Scope) (f : Addr) (cd : Value) (A : Around) (outer : List Env) (s : Shared) (H : Hp) (E : XK) : Cx := (cxOf CX0 P w K mg base N qual scope f cd A outer s H E).nox
theorem spF_len {k : Kx} {io : Bool} {np : Nat} {cm : CM} {vs : List V} {H : Hp} {Q : VK} {E : XK} (h : spF k io np cm vs H Q E) : vs.length = np := by
  obtain ⟨F, args, _, _, e, _⟩ := h; exact e
theorem def_ok {CT : CTab} {io : Bool} {np nl n : Nat} {N ps : List Str} {mb : SM} (F : FunD K x qual params body scope [] [] f fd) (S : FnScope N ps scope) (hps : ps.length = np) (hN : N.length = nl) (hio : io = true → 0 < np)
    (hb : ∀ (cd : Value) (A : Around) (outer : List Env) (s : Shared) (H : Hp) (E : XK), Room n (cxF P w K mg base N qual scope f cd A outer s H E).A → NSs (cxF P w K mg base N qual scope f cd A outer s H E) CT (if io = true then [0] else []) none body mb) :
    FnOk P w K mg base CX0 (n + 1) f fd ps (spF ⟨K, CT⟩ io np (runB io nl mb)) := by
  refine F.ok S (fun vs H Q E h => by rw [hps]; exact spF_len h) fun cd A outer s H vs Q E hr h => ?_
  obtain ⟨ts, p, si⟩ := hb cd A outer s H E hr
  exact ⟨ts, p.nox, runB_ok hN hio si h⟩
end
end Pv

/-! Pvq: what the head tells, by numbers. -/
namespace Pv
open PySem PySem.Spec PySem.SeqAt L2
structure ClE where
  fst : Str
  snd : List Str
  pr : List (Str × Str) := []
  tp : List (Str × List Int) := []
  ie : List (Str × Str) := []
  tt : List (Str × List Str) := []
abbrev ClsT := List ClE
def getterB (K : PySem.W.Frag) (f : Str) : FuncData → Bool
  | ⟨_, qn, ⟨[], [⟨a, _, _⟩], none, [], [], none, []⟩, .stmts [.Return (some (.Attribute (.Name b _) f' _)) _], sc, gl, [], .none, _, _, _, _, cdv, _, bi⟩ => decide (a = "self") && (decide (b = "self") && (decide (f' = f) && (decide (gl = mainGlobals) && (decide (bi = builtinsNs) && (PySem.W.codeIn K cdv qn &&
    (decide (sc.kind = .function) && (decide (sc.isCoroutine = false) && (decide (sc.isGenerator = false) && (decide (sc.names.lookup ("self" : Str) = some .local) && sc.names.all fun y => decide (y.2 ≠ .free))))))))))
  | _ => false
def propB (K : PySem.W.Frag) (C f fld : Str) : Bool := match PySem.W.findIn K (.ref (He.ga K C)) f with
  | some (some (.ref p)) => He.eqO (PySem.W.specialIn K (.ref p) "__get__") (some (some (.builtin "property.__get__"))) && (decide (PySem.W.takesIn K (.ref p) = some true) && match PySem.W.recIn K p "property" with
    | some (.ref g :: _) => (match K.lookup g with
      | some ⟨_, _, .func fd, _⟩ => getterB K fld fd
      | _ => false)
    | _ => false)
  | _ => false
def absI : Value → Option Int
  | .int i _ => some i
  | _ => none
def tupB (K : PySem.W.Frag) (x : Str) (ns : List Int) : Bool := match K.lookup (He.ga K x) with
  | some ⟨.type n, _, .seq its _, _⟩ => decide (n = "tuple") && (Nat.ble its.size 1000 && decide (its.toList.map absI = ns.map some))
  | _ => false
def absS : Value → Option Str
  | .str z _ => some z
  | _ => none
def txtB (K : PySem.W.Frag) (x : Str) (ts : List Str) : Bool := match K.lookup (He.ga K x) with
  | some ⟨.type n, _, .seq its _, _⟩ => decide (n = "tuple") && (Nat.ble its.size 1000 && decide (its.toList.map absS = ts.map some))
  | _ => false
def neB (K : PySem.W.Frag) (c : Str) : Bool := He.eqO (PySem.W.findIn K (.ref (He.ga K c)) "__ne__") (some (some (.builtin "object.__ne__"))) && decide (PySem.W.mroIn K (He.ga K c) (.type "object") = some true)
def ttB (K : PySem.W.Frag) (x : Str) (ts : List Str) : Bool := if x = "!=" then ts.all fun c => neB K c else txtB K x ts
def clV (K : PySem.W.Frag) (c : Str) : Value := if c = "ValueError" then .type "ValueError" else .ref (He.ga K c)
def ieB (K : PySem.W.Frag) (x c : Str) : Bool :=
  He.eqO (PySem.W.findIn K (.ref (He.ga K x)) "__getattribute__") (some (some (.builtin "BaseException.__getattribute__"))) && (He.eqO (PySem.W.findIn K (.ref (He.ga K x)) "__getattr__") (some none) && (decide (PySem.W.subIn K (.ref (He.ga K x)) (.type "BaseException") = some true) && (PySem.W.hasDictIn K (He.ga K x) &&
  (He.eqO (PySem.W.findIn K (.ref (He.ga K x)) "__class__") (some (some (.builtin "object.__class__"))) && (He.eqO (PySem.W.specialIn K (.builtin "object.__class__") "__get__") (some (some (.builtin "getset_descriptor.__get__"))) && (decide (PySem.W.takesIn K (.builtin "object.__class__") = some true) && (decide (PySem.W.mroIn K (He.ga K x) (.type "object") = some true) && decide (PySem.W.kitOne K (.ref (He.ga K x)) (clV K c) = some true))))))))
theorem ieB_okV {K : PySem.W.Frag} {x c : Str} (h : ieB K x c = true) : L2.ExcC K (He.ga K x) ∧ PySem.W.kitOne K (.ref (He.ga K x)) (clV K c) = some true := by
  unfold ieB at h
  obtain ⟨h1, h⟩ := He.ba h
  obtain ⟨h2, h⟩ := He.ba h
  obtain ⟨h3, h⟩ := He.ba h
  obtain ⟨h4, h⟩ := He.ba h
  obtain ⟨h5, h⟩ := He.ba h
  obtain ⟨h6, h⟩ := He.ba h
  obtain ⟨h7, h⟩ := He.ba h
  obtain ⟨h8, h9⟩ := He.ba h
  exact ⟨⟨He.eqO_ok h1, He.eqO_ok h2, of_decide_eq_true h3, h4, He.eqO_ok h5, He.eqO_ok h6, of_decide_eq_true h7, of_decide_eq_true h8⟩, of_decide_eq_true h9⟩
theorem ieB_ok {K : PySem.W.Frag} {x c : Str} (h : ieB K x c = true) (hc : c ≠ "ValueError") : L2.ExcC K (He.ga K x) ∧ PySem.W.kitOne K (.ref (He.ga K x)) (.ref (He.ga K c)) = some true := by
  obtain ⟨h1, h2⟩ := ieB_okV h
  unfold clV at h2
  rw [if_neg hc] at h2
  exact ⟨h1, h2⟩
def clAt (cs : ClsT) (c : Int) : Option ClE := if 0 ≤ c then cs[c.toNat]? else none
def ctOf (cs : ClsT) (K : PySem.W.Frag) : CTab := fun c => (clAt cs c).map fun q => (He.ga K q.1, q.2)
def fnsOf (cs : ClsT) : FNs := fun c => match clAt cs c with
  | some q => q.2
  | none => []
def eqB (a b : Option Bool) : Bool := decide (a = b)
def exCl (K : PySem.W.Frag) (q : ClE) : Bool :=
  (He.Fa.cls q.1).ok K && (He.eqO (PySem.W.findIn K (.ref (He.ga K q.1)) "__class__") (some (some (.builtin "object.__class__"))) && (He.eqO (PySem.W.specialIn K (.builtin "object.__class__") "__get__") (some (some (.builtin "getset_descriptor.__get__"))) &&
  (eqB (PySem.W.takesIn K (.builtin "object.__class__")) (some true) && (eqB (PySem.W.mroIn K (He.ga K q.1) (.type "object")) (some true) &&
  ((tyNames.all fun a => eqB (PySem.W.kitOne K (.type a) (.ref (He.ga K q.1))) (some false)) && ((tyNames.all fun a => eqB (PySem.W.kitOne K (.ref (He.ga K q.1)) (.type a)) (some false)) && ((q.2.all fun f => (He.Fa.noat q.1 f).ok K) && ((q.pr.all fun z => propB K q.1 z.1 z.2 && q.2.contains z.2) && ((q.tp.all fun z => tupB K z.1 z.2) && ((q.ie.all fun z => ieB K z.1 z.2) && (q.tt.all fun z => ttB K z.1 z.2)))))))))))
def exK (cs : ClsT) (K : PySem.W.Frag) : Bool := (cs.all fun q => exCl K q) && ((List.range cs.length).all fun i => (List.range cs.length).all fun j => match cs[i]?, cs[j]? with
  | some q, some r => eqB (PySem.W.kitOne K (.ref (He.ga K q.1)) (.ref (He.ga K r.1))) (some (i == j))
  | _, _ => true)
theorem eqB_ok {a b : Option Bool} (h : eqB a b = true) : a = b := of_decide_eq_true h
theorem clAt_some {cs : ClsT} {c : Int} {q : ClE} (h : clAt cs c = some q) : 0 ≤ c ∧ cs[c.toNat]? = some q := by
  unfold clAt at h
  split at h
  · exact ⟨by assumption, h⟩
  · cases h
theorem ct_some {cs : ClsT} {K : PySem.W.Frag} {c : Int} {C : Addr} {ns : List Str} (h : ctOf cs K c = some (C, ns)) : ∃ q, clAt cs c = some q ∧ C = He.ga K q.1 ∧ ns = q.2 := by
  unfold ctOf at h
  cases e : clAt cs c with
  | none => rw [e] at h; cases h
  | some q => rw [e] at h; cases h; exact ⟨q, rfl, rfl, rfl⟩
theorem exCl_ok {K : PySem.W.Frag} {q : ClE} (h : exCl K q = true) : Cls K (He.ga K q.1) ∧ PySem.W.findIn K (.ref (He.ga K q.1)) "__class__" = some (some (.builtin "object.__class__")) ∧ PySem.W.specialIn K (.builtin "object.__class__") "__get__" = some (some (.builtin "getset_descriptor.__get__")) ∧
    PySem.W.takesIn K (.builtin "object.__class__") = some true ∧ PySem.W.mroIn K (He.ga K q.1) (.type "object") = some true ∧ (∀ a, tyNames.contains a = true → PySem.W.kitOne K (.type a) (.ref (He.ga K q.1)) = some false) ∧ (∀ a, tyNames.contains a = true → PySem.W.kitOne K (.ref (He.ga K q.1)) (.type a) = some false) ∧ (∀ f ∈ q.2, NoAttr K (He.ga K q.1) f) ∧ (∀ z ∈ q.pr, propB K q.1 z.1 z.2 = true ∧ z.2 ∈ q.2) ∧ (∀ z ∈ q.tp, tupB K z.1 z.2 = true) ∧ (∀ z ∈ q.ie, ieB K z.1 z.2 = true) ∧ ∀ z ∈ q.tt, ttB K z.1 z.2 = true := by
  unfold exCl at h
  simp only [Bool.and_eq_true] at h
  obtain ⟨h1, h2, h3, h4, h5, h6, h7, h8, h9, h10, h11, h12⟩ := h
  refine ⟨He.cls_ok h1, He.eqO_ok h2, He.eqO_ok h3, eqB_ok h4, eqB_ok h5, fun a ha => ?_, fun a ha => ?_, fun f hf => He.noat_ok (List.all_eq_true.mp h8 f hf), fun z hz => by
    have := List.all_eq_true.mp h9 z hz
    rw [Bool.and_eq_true] at this
    exact ⟨this.1, by simpa using this.2⟩, fun z hz => List.all_eq_true.mp h10 z hz, fun z hz => List.all_eq_true.mp h11 z hz, fun z hz => List.all_eq_true.mp h12 z hz⟩
  · exact eqB_ok (List.all_eq_true.mp h6 a (by simpa using ha))
  · exact eqB_ok (List.all_eq_true.mp h7 a (by simpa using ha))
theorem exK_isi {cs : ClsT} {K : PySem.W.Frag} (h : exK cs K = true) : IsiOk ⟨K, ctOf cs K⟩ := by
  unfold exK at h
  obtain ⟨h1, h2⟩ := He.ba h
  have one : ∀ c C ns, ctOf cs K c = some (C, ns) → ∃ q, 0 ≤ c ∧ cs[c.toNat]? = some q ∧ C = He.ga K q.1 ∧ exCl K q = true := fun c C ns e => by
    obtain ⟨q, e1, e2, e3⟩ := ct_some e
    obtain ⟨z, e4⟩ := clAt_some e1
    exact ⟨q, z, e4, e2, List.all_eq_true.mp h1 q (List.mem_of_getElem? e4)⟩
  refine ⟨fun c C ns e => ?_, fun a c C ns ha e => ?_, fun a c C ns ha e => ?_, fun c c' C C' ns ns' e e' => ?_⟩
  · obtain ⟨q, _, _, rfl, h3⟩ := one c C ns e
    obtain ⟨z1, z2, z3, z4, z5, _⟩ := exCl_ok h3
    exact ⟨z1, z2, z3, z4, z5⟩
  · obtain ⟨q, _, _, rfl, h3⟩ := one c C ns e
    exact (exCl_ok h3).2.2.2.2.2.1 a ha
  · obtain ⟨q, _, _, rfl, h3⟩ := one c C ns e
    exact (exCl_ok h3).2.2.2.2.2.2.1 a ha
  · obtain ⟨q, z, e1, rfl, _⟩ := one c C ns e
    obtain ⟨r, z', e2, rfl, _⟩ := one c' C' ns' e'
    have l1 := (List.getElem?_eq_some_iff.mp e1).1
    have l2 := (List.getElem?_eq_some_iff.mp e2).1
    have h3 := List.all_eq_true.mp (List.all_eq_true.mp h2 c.toNat (List.mem_range.mpr l1)) c'.toNat (List.mem_range.mpr l2)
    rw [e1, e2] at h3
    have h4 := eqB_ok h3
    rw [h4]
    have : (c.toNat == c'.toNat) = (c == c') := by
      by_cases y : c = c'
      · subst y; rw [beq_self_eq_true, beq_self_eq_true]
      · have : c.toNat ≠ c'.toNat := by omega
        rw [beq_eq_false_iff_ne.mpr this, beq_eq_false_iff_ne.mpr y]
    rw [this]
def clsB (cs : ClsT) : Bool := cs.all fun q => decide (q.2.length < 1000 ∧ q.2.Nodup)
theorem exK_fld {cs : ClsT} {K : PySem.W.Frag} (h : exK cs K = true) (hc : clsB cs = true) : FldOk ⟨K, ctOf cs K⟩ (fnsOf cs) := by
  have one : ∀ c C ns, ctOf cs K c = some (C, ns) → ∃ q, clAt cs c = some q ∧ C = He.ga K q.1 ∧ ns = q.2 ∧ exCl K q = true ∧ q.2.length < 1000 ∧ q.2.Nodup := fun c C ns e => by
    obtain ⟨q, e1, e2, e3⟩ := ct_some e
    obtain ⟨z, e4⟩ := clAt_some e1
    exact ⟨q, e1, e2, e3, List.all_eq_true.mp (He.ba h).1 q (List.mem_of_getElem? e4), of_decide_eq_true (List.all_eq_true.mp hc q (List.mem_of_getElem? e4))⟩
  refine ⟨fun c C ns e => ?_, fun c C ns f e hf => ?_, fun c C ns e => ?_, fun c C ns e => ?_⟩
  · obtain ⟨q, e1, _, rfl, _⟩ := one c C ns e
    unfold fnsOf; rw [e1]
  · obtain ⟨q, _, rfl, rfl, h3, _⟩ := one c C ns e
    exact (exCl_ok h3).2.2.2.2.2.2.2.1 f hf
  · obtain ⟨q, _, rfl, rfl, h3, _⟩ := one c C ns e
    exact (exCl_ok h3).1
  · obtain ⟨q, _, _, rfl, _, h3⟩ := one c C ns e
    exact h3
theorem exK_ie {cs : ClsT} {K : PySem.W.Frag} (h : exK cs K = true) (c : Nat) {q : ClE} (e : cs[c]? = some q) {z : Str × Str} (hz : z ∈ q.ie) : ieB K z.1 z.2 = true := by
  have h3 := exCl_ok (List.all_eq_true.mp (He.ba h).1 q (List.mem_of_getElem? e))
  exact h3.2.2.2.2.2.2.2.2.2.2.1 z hz
structure Fx (fa : List He.Fa) (fn : List He.DefD) (cs : ClsT) (K : PySem.W.Frag) (mg : Str → Option Value) : Prop where
  d : He.SaysD fa fn K
  ex : exK cs K = true
  fr : ∀ x, (He.Fa.free x).ok K = true → mg x = none
  gl : ∀ x, (He.Fa.glo x).ok K = true → mg x = some (.ref (He.ga K x))
  it : ∀ x i, (He.Fa.int x i).ok K = true → ∃ t, mg x = some (.int i t)
  st : ∀ x z, (He.Fa.str x z).ok K = true → ∃ t, mg x = some (.str z t)
section
variable {fa : List He.Fa} {fn : List He.DefD} {cs : ClsT} {K : PySem.W.Frag} {mg : Str → Option Value}
theorem Fx.of {w : World} {h : Heap} (X : K.In h) (G : h.Ns mainGlobals mg) (c : He.SaysX fa fn [] [] (exK cs) w h K) : Fx fa fn cs K mg :=
  ⟨c.t.d, c.more, fun x => He.free_ok X G, fun x => He.glo_ok X G, fun x i => He.int_ok X G, fun x z => He.str_ok X G⟩
theorem Fx.free (h : Fx fa fn cs K mg) (i : Nat) {x : Str} (e : fa[i]? = some (.free x) := by rfl) : mg x = none := h.fr x (h.d.fact i e)
theorem Fx.glo (h : Fx fa fn cs K mg) (i : Nat) {x : Str} (e : fa[i]? = some (.glo x) := by rfl) : mg x = some (.ref (He.ga K x)) := h.gl x (h.d.fact i e)
theorem Fx.int (h : Fx fa fn cs K mg) (i : Nat) {x : Str} {n : Int} (e : fa[i]? = some (.int x n) := by rfl) : ∃ t, mg x = some (.int n t) := h.it x n (h.d.fact i e)
theorem Fx.str (h : Fx fa fn cs K mg) (i : Nat) {x z : Str} (e : fa[i]? = some (.str x z) := by rfl) : ∃ t, mg x = some (.str z t) := h.st x z (h.d.fact i e)
theorem Fx.mkr (h : Fx fa fn cs K mg) (i : Nat) {x : Str} (e : fa[i]? = some (.mkr x) := by rfl) : Mk K (He.ga K x) (He.ma K (He.ga K x) "__init__") := He.mkr_ok (h.d.fact i e)
theorem Fx.def_ (h : Fx fa fn cs K mg) (i : Nat) {d : He.DefD} (e : fn[i]? = some d := by rfl) : ∃ fd, FunD K d.name d.qual d.params d.body d.scope (d.dvs K) (d.kws K) (He.fAd K d.at_) fd := h.d.def_ i e
theorem Fx.kp (h : Fx fa fn cs K mg) (i : Nat) {d : He.DefD} (e : fn[i]? = some d := by rfl) : PySem.W.keepIn K (.ref (He.fAd K d.at_)) = true := by
  obtain ⟨fd, F⟩ := h.d.def_ i e
  exact F.kp
theorem Fx.isi (h : Fx fa fn cs K mg) : IsiOk ⟨K, ctOf cs K⟩ := exK_isi h.ex
end
theorem law_end {K : PySem.W.Frag} {CT : CTab} {cm : CM} {H : Hp} {a : Addr} {ns : List Int} {E : XK} (hO : Only H) (hS : SqL K H a (ns.map V.int)) (h : ∃ o, cm [.val (flsD (ns.map .int))] = some (.val (.bool true), o)) : spF ⟨K, CT⟩ false 1 cm [.ref a] H (fun v _ => v = .bl true) E := by
  obtain ⟨o, h⟩ := h
  refine ⟨H, [.val (flsD (ns.map .int))], Sub.refl _, .cons (.fls (FzL.of hO hS) (repL_ints ns)) .nil fun _ z => (nomatch z), rfl, ?_⟩
  rw [h]
  intro v F' H' _ _ r _
  have r : Rep ⟨K, CT⟩ F' v (.bool true) := r
  cases r
  rfl
end Pv

/-! Pvz: evaluating the pure functions. -/
namespace Pv
open PySem
/-! iL -/
theorem eLe {a b : Int} : gLeD (.int a) (.int b) = some (.val (.bool (decide (a ≤ b)))) := by
  simp [gDat, pLt, PyData.plain, PySem.W.alike, PyData.depth, PySem.W.dataLt_int]
  by_cases h : b < a
  · simp [h, Int.not_le.mpr h]
  · simp [h, Int.not_lt.mp h]
theorem eGe {a b : Int} : gGeD (.int a) (.int b) = some (.val (.bool (decide (b ≤ a)))) := by
  simp [gDat, pLt, PyData.plain, PySem.W.alike, PyData.depth, PySem.W.dataLt_int]
  by_cases h : a < b
  · simp [h, Int.not_le.mpr h]
  · simp [h, Int.not_lt.mp h]
theorem eLt {a b : Int} : gLtD (.int a) (.int b) = some (.val (.bool (decide (a < b)))) := by
  simp [gDat, pLt, PyData.plain, PySem.W.alike, PyData.depth, PySem.W.dataLt_int]
theorem eGt {a b : Int} : gGtD (.int a) (.int b) = some (.val (.bool (decide (b < a)))) := by
  simp [gDat, pLt, PyData.plain, PySem.W.alike, PyData.depth, PySem.W.dataLt_int]
theorem eEq {a b : Int} : gEqD (.int a) (.int b) = some (.val (.bool (decide (a = b)))) := by
  simp [gDat, pEq, PyData.plain, PyData.depth, PyData.eqv]
  by_cases h : a = b <;> simp [h]
theorem eNe {a b : Int} : gNeD (.int a) (.int b) = some (.val (.bool (!decide (a = b)))) := by
  simp [gDat, pEq, PyData.plain, PyData.depth, PyData.eqv]
  by_cases h : a = b <;> simp [h]
theorem eEqB {a b : Bool} : gEqD (.bool a) (.bool b) = some (.val (.bool (decide (a = b)))) := by
  simp [gDat, pEq, PyData.plain, PyData.depth, PyData.eqv]
  cases a <;> cases b <;> simp
theorem eNeB {a b : Bool} : gNeD (.bool a) (.bool b) = some (.val (.bool (!decide (a = b)))) := by
  simp [gDat, pEq, PyData.plain, PyData.depth, PyData.eqv]
  cases a <;> cases b <;> simp
/-! lists of iL -/
abbrev iL (l : List Int) : List D := l.map PyData.int
/-! naturals -/
theorem cDiv_ok {i j : Int} (h : 0 < j) (h2 : j < 1073741824) : cDiv i j = true := by
  simp [cDiv]; omega
theorem cPos_ok {i j : Int} (h : 0 < j) : cPos i j = true := by
  simp [cPos]; omega
theorem cMul_r {i j : Int} (h : j.natAbs ≤ 18446744073709551615) : cMul i j = true := by
  simp [cMul, h]
theorem cPow_10 : cPow 10 18 = true := by decide
end Pv

/-! Pvy: more of evaluating; reachable blocks. -/
namespace Pv
open PySem
/-! blocks -/
abbrev Cov := List (List Nat)
def Vl (b : Nat) (l : List Nat) : Prop := (∀ x ∈ l, x < b) ∧ l.Pairwise (· < ·)
def Vc (cov : Cov) : Prop := ∀ (b : Nat) (l : List Nat), cov[b]? = some l → Vl b l
theorem range_lt (b : Nat) : (List.range b).Pairwise (· < ·) := List.pairwise_lt_range
theorem Vl.range (b : Nat) : Vl b (List.range b) := ⟨fun x hx => List.mem_range.mp hx, range_lt b⟩
theorem Vl.filter {b : Nat} {l : List Nat} (h : Vl b l) (t : Nat → Bool) : Vl b (l.filter t) := ⟨fun x hx => h.1 x (List.mem_filter.mp hx).1, h.2.filter t⟩
theorem Vc.snoc {cov : Cov} {l : List Nat} (h : Vc cov) (hl : Vl cov.length l) : Vc (cov ++ [l]) := by
  intro b m e
  by_cases hb : b < cov.length
  · rw [List.getElem?_append_left hb] at e; exact h b m e
  · rw [List.getElem?_append_right (by omega)] at e
    have : b - cov.length = 0 := by
      have := (List.getElem?_eq_some_iff.mp e).1
      simp at this; omega
    rw [this] at e
    simp at e
    subst e
    rw [show b = cov.length by omega]; exact hl
def at_ (cov : Cov) (b : Nat) : List Nat := cov.getD b []
inductive Rc (cov : Cov) : Nat → Nat → Prop
  | one {b x : Nat} : x ∈ at_ cov b → Rc cov b x
  | more {b y x : Nat} : y ∈ at_ cov b → Rc cov y x → Rc cov b x
theorem Vc.at {cov : Cov} (h : Vc cov) (b : Nat) : Vl b (at_ cov b) := by
  unfold at_
  cases e : cov[b]? with
  | none => rw [List.getD_eq_getElem?_getD, e]; exact ⟨by simp, by simp⟩
  | some l => rw [List.getD_eq_getElem?_getD, e]; exact h b l e
theorem Rc.lt {cov : Cov} (h : Vc cov) {b x : Nat} (r : Rc cov b x) : x < b := by
  induction r with
  | one hx => exact (h.at _).1 _ hx
  | more hy _ ih => have := (h.at _).1 _ hy; omega
theorem Rc.left {cov : Cov} {b x : Nat} (r : Rc cov b x) : b < cov.length := by
  have one : ∀ {b x : Nat}, x ∈ at_ cov b → b < cov.length := fun {b x} hx => by
    by_cases z : b < cov.length
    · exact z
    · unfold at_ at hx
      rw [List.getD_eq_getElem?_getD, List.getElem?_eq_none (by omega)] at hx
      simp at hx
  cases r with
  | one hx => exact one hx
  | more hy _ => exact one hy
theorem Rc.trans {cov : Cov} {a b c : Nat} (h : Rc cov a b) (g : Rc cov b c) : Rc cov a c := by
  induction h with
  | one hx => exact .more hx g
  | more hy _ ih => exact .more hy (ih g)
theorem Vl.len {b : Nat} {l : List Nat} (h : Vl b l) : l.length ≤ b := by
  have h1 : l.Nodup := h.2.imp fun h => Nat.ne_of_lt h
  have := List.Nodup.length_le_of_subset h1 (l₂ := List.range b) fun x hx => List.mem_range.mpr (h.1 x hx)
  simpa using this
end Pv

/-! Pvt: starred arguments. -/
namespace Pv
open PySem PySem.Spec PySem.SeqAt L2
theorem RRs.vals {k : Kx} {F : Hp} {ρ : Rho} {σ : L2.St} {H H1 : Hp} {rs : List Rv} {us : List V} (h : RRs k F ρ σ H H1 rs us) : ∀ {vs : List V} {xs : List D}, RepL k F vs xs → RRs k F ρ σ H H1 (xs.map (fun x => Rv.sv (.val x)) ++ rs) (vs ++ us)
  | _, _, .nil => h
  | _, _, .cons a b => .cons a (RRs.vals h b) (fun _ z => z) fun o e => by cases e
end Pv

/-! Pvu: comprehensions of two clauses. -/
namespace Pv
open PySem PySem.Spec PySem.SeqAt L2
structure CJ (k : Kx) (e : Ent) (O : Addr → Prop) (ρ0 ρ : Rho) (σ : L2.St) (F H : Hp) (T : Addr) (acc : List V) (ds : List D) : Prop where
  s : SInv k e ρ σ F H
  ow : ∀ p, Own ρ σ p → O p
  sl : ∀ (i : Nat) (x : SV), ρ0[i]? = some (some x) → ∃ x', ρ[i]? = some (some x')
  hT : H T = some (.lst acc)
  fT : F T = none
  r : RepL k F acc ds
theorem CJ.aft {k : Kx} {e : Ent} {O : Addr → Prop} {ρ0 ρ ρ' : Rho} {σ : L2.St} {F H F' H' : Hp} {T : Addr} {acc : List V} {ds : List D} (c : CJ k e O ρ0 ρ σ F H T acc ds) (nO : ¬ O T) (A : Aft k ρ σ F H ρ' F' H') : CJ k e O ρ0 ρ' σ F' H' T acc ds :=
  ⟨c.s.aft A, fun p z => c.ow p (A.ow p z), fun i x q => let ⟨x', q'⟩ := c.sl i x q; A.sl i x' q', A.tr.keep T _ c.hT fun z => nO (c.ow T z), A.tr.new T _ c.hT trivial c.fT fun z => nO (c.ow T z), c.r.mono A.tr.sub⟩
theorem CJ.wiped {k : Kx} {e : Ent} {O : Addr → Prop} {ρ0 ρ : Rho} {σ : L2.St} {F H : Hp} {T : Addr} {acc : List V} {ds : List D} {ws : List Nat} (c : CJ k e O ρ0 ρ σ F H T acc ds) (he : e.pr = []) (hw : ∀ i ∈ ws, ∀ x, ρ0[i]? ≠ some (some x)) : CJ k e O ρ0 (kill ws ρ) (wipe σ ws) F H T acc ds :=
  ⟨⟨c.s.fr.wiped, c.s.tr, fun p z => c.s.ow p z.wiped, fun q hq => by rw [he] at hq; cases hq⟩, fun p z => c.ow p z.wiped, fun i x q => by
    obtain ⟨x', q'⟩ := c.sl i x q
    exact ⟨x', by rw [kill_out fun z => hw i z x q]; exact q'⟩, c.hT, c.fT, c.r⟩
theorem CJ.newF {k : Kx} {e : Ent} {O : Addr → Prop} {ρ0 ρ : Rho} {σ : L2.St} {F H : Hp} {T U : Addr} {o : HO} {acc : List V} {ds : List D} (c : CJ k e O ρ0 ρ σ F H T acc ds) (hU : H U = none) : CJ k e O ρ0 ρ σ (upd F U o) (upd H U o) T acc ds := by
  have ne : T ≠ U := fun z => by rw [← z, c.hT] at hU; cases hU
  exact ⟨c.s.newF hU, c.ow, c.sl, by rw [upd_ne ne]; exact c.hT, by rw [upd_ne ne]; exact c.fT, c.r.mono (Sub.upd (c.s.fr.sub.none_of hU))⟩
theorem CJ.push {k : Kx} {e : Ent} {O : Addr → Prop} {ρ0 ρ : Rho} {σ : L2.St} {F H : Hp} {T : Addr} {acc : List V} {ds : List D} {v : V} {d : D} (c : CJ k e O ρ0 ρ σ F H T acc ds) (nO : ¬ O T) (eT : e.H T = none) (r : Rep k F v d) : CJ k e O ρ0 ρ σ F (upd H T (.lst (acc ++ [v]))) T (acc ++ [v]) (ds ++ [d]) :=
  ⟨c.s.temp eT c.fT fun z => nO (c.ow T z), c.ow, c.sl, upd_same, c.fT, c.r.append (.cons r .nil)⟩
section
variable {k : Kx} {e : Ent} {O : Addr → Prop} {ρ0 : Rho} {T : Addr} (he0 : e.pr = []) (nO : ¬ O T) (eT : e.H T = none)
include he0 nO eT
end
section
variable {X : Cx} {CT : CTab} {pos : Pos} {e tg it tg1 it1 : Expr} {mi mi1 : IM} {mg mg1 : GM} {mt mt1 : TM} {me : EM} {P ts ts1 vs vs1 : List Nat} {Wx : Option WX}
end
end Pv

/-! Pvv: sorted(xs, key=f), f a def of one's own. -/
namespace Pv
open PySem PySem.Spec PySem.SeqAt L2 PySem.W PyProof.Rows
/-! the node -/
end Pv

/-! Pvw: set(tuple of ints). -/
namespace Pv
open PySem PySem.Spec PySem.SeqAt L2
open PyProof.Rows (IntsAre)
section
variable {P : Program} {w : World} {A : Around} {E : Value → Shared → Prop} {s : Shared}
end
section
variable {X : Cx} {CT : CTab} {pos p : Pos} {e : Expr} {mr : AM}
end
end Pv

/-! Pvx: things repeated. -/
namespace Pv
open PySem PySem.Spec PySem.SeqAt L2
def repOk (xs : List D) (k : Int) : Bool := decide (xs ≠ []) && Nat.ble 2 k.toNat && Nat.ble k.toNat 1000 && Nat.ble xs.length 1000
def repOkL (xs : List D) (k : Int) : Bool := decide (0 ≤ k) && Nat.ble k.toNat 1000 && Nat.ble xs.length 1000
def gMulA : D → D → Option SV
  | .tuple xs, .int k => if repOk xs k = true then some (.val (.tuple (List.replicate k.toNat xs).flatten)) else none
  | .list xs, .int k => if repOkL xs k = true then some (.own (.lst (List.replicate k.toNat xs).flatten)) else none
  | x, y => gMulI x y
theorem gMulA_int (i j : Int) : gMulA (.int i) (.int j) = gMulI (.int i) (.int j) := rfl
theorem repOk_ok {xs : List D} {k : Int} (h : repOk xs k = true) : xs ≠ [] ∧ 2 ≤ k ∧ k ≤ 1000 ∧ xs.length ≤ 1000 := by
  simp only [repOk, Bool.and_eq_true, decide_eq_true_eq, Nat.ble_eq] at h
  obtain ⟨⟨⟨h1, h2⟩, h3⟩, h4⟩ := h
  exact ⟨h1, by omega, by omega, h4⟩
theorem repOkL_ok {xs : List D} {k : Int} (h : repOkL xs k = true) : 0 ≤ k ∧ k ≤ 1000 ∧ xs.length ≤ 1000 := by
  simp only [repOkL, Bool.and_eq_true, decide_eq_true_eq, Nat.ble_eq] at h
  obtain ⟨⟨h2, h3⟩, h4⟩ := h
  exact ⟨h2, by omega, h4⟩
def rMulA (K : PySem.W.Frag) : R2 := fun x y H Q => (rI CMul (fun i j => .int (i * j)) x y H Q ∨ rRepT K x y H Q) ∨ rRep x y H Q
theorem op_mulA {X : Cx} : OpR X (binaryOp .Mult) (rMulA X.K) := (op_mul.or op_repT).or op_rep
theorem RepL.rep {k : Kx} {F : Hp} {vs : List V} {ds : List D} (h : RepL k F vs ds) : ∀ n, RepL k F (List.replicate n vs).flatten (List.replicate n ds).flatten
  | 0 => .nil
  | n + 1 => by
    rw [List.replicate_succ, List.replicate_succ, List.flatten_cons, List.flatten_cons]
    exact h.append (RepL.rep h n)
theorem simMulA {k : Kx} : OpSim k (rMulA k.K) gMulA := by
  intro F ρ σ H x y dx dy Q f rx ry h
  unfold gMulA at h
  split at h
  · rename_i xs i
    split at h
    · rename_i hz
      obtain ⟨z1, z2, z3, z4⟩ := repOk_ok hz
      obtain ⟨a, vs, rfl, ha', ha, ra⟩ := rx.tup f.sub
      refine .inl (.inr ⟨a, _, vs, rfl, ry.int, ha, fun e => ?_, z2, z3, by rw [ra.length]; exact z4, fun p hp => ?_⟩)
      · subst e; cases ra; exact z1 rfl
      · exact h _ _ _ (Aft.newF f hp) (Rep.tup upd_same ((ra.rep _).mono (Sub.upd (f.sub.none_of hp))))
    · exact h.elim
  · rename_i xs i
    split at h
    · rename_i hz
      obtain ⟨z2, z3, z4⟩ := repOkL_ok hz
      obtain ⟨a, vs, rfl, ha, ra⟩ := rx.lst f.sub
      refine .inr ⟨a, _, vs, rfl, ry.int, ha, by omega, by omega, ?_, fun p hp => ?_⟩
      · rw [ra.length]
        have := Nat.mul_le_mul z4 (show i.toNat ≤ 1000 by omega)
        exact Nat.le_trans this (by decide)
      · exact h _ F _ (Aft.newO f hp) ⟨p, _, rfl, hp, upd_same, f.sub.none_of hp, _, rfl, ra.rep _⟩
    · exact h.elim
  · exact .inl (.inl (simMulI F ρ σ H x y _ _ Q f rx ry h))
section
variable {X : Cx} {CT : CTab} {a b : Expr} {ma mb : EM}
theorem nMulA {pos} : NE X CT a ma → NE X CT b mb → NE X CT (.BinOp a .Mult b pos) (evBin gMulA ma mb) := fun ⟨_, pa, sa⟩ ⟨_, pb, sb⟩ => ⟨_, pe_op op_mulA pa pb, simBin (k := kx X CT) simMulA sa sb⟩
end
end Pv

/-! Pw1: zip of two lists or of two tuples. -/
namespace Pv
open PySem PySem.Spec PySem.SeqAt L2 RZ
section
variable {X : Cx} {CT : CTab} {pos p : Pos} {a b : Expr} {mr : AM}
end
end Pv

/-! Pw2: a list goes from one name to another. -/
namespace Pv
open PySem PySem.Spec PySem.SeqAt L2
section
variable {X : Cx} {CT : CTab} {P : List Nat} {Wx : Option WX} {e : Expr} {pos : Pos}
end
end Pv

/-! Pw3: tuples taken once, or not at all. -/
namespace Pv
open PySem PySem.Spec PySem.SeqAt L2 PyProof.Rows
end Pv
namespace Pv
open PySem PySem.Spec PySem.SeqAt L2 PyProof.Rows
section
variable {X : Cx}
end
section
variable {X : Cx} {CT : CTab} {a b : Expr} {ma mb : EM}
end
end Pv

/-! Pw4: properties that tell a field. -/
namespace Pv
open PySem PySem.Spec PySem.SeqAt L2
section
variable {X : Cx} {a : Expr} {ma : EM} {pos : Pos}
end
end Pv

/-! Pw5: a value is frozen where it is made. -/
namespace Pv
open PySem PySem.Spec PySem.SeqAt L2
end Pv

/-! Pw6: list(range(a, b)). -/
namespace Pv
open PySem PySem.Spec PySem.SeqAt L2
section
variable {X : Cx} {CT : CTab} {a b : Expr} {ma mb : EM} {p pos : Pos}
end
end Pv

/-! Pw7: l.index(n), of ints. -/
namespace Pv
open PySem PySem.Spec PySem.SeqAt L2
section
variable {X : Cx} {CT : CTab} {e : Expr} {mr : AM} {p pos : Pos}
end
end Pv

/-! Pw8: the truth of a list or a tuple. -/
namespace Pv
open PySem PySem.Spec PySem.SeqAt L2
section
variable {X : Cx} {CT : CTab} {a : Expr} {ma : EM}
end
end Pv

/-! Pw9: l.insert(i, x). -/
namespace Pv
open PySem PySem.Spec PySem.SeqAt L2
def fInsert : List D → List D → Option (D × List D)
  | xs, [.int i, d] => if (decide (0 ≤ i) && Nat.ble i.toNat xs.length) = true then (if xs.length < sizeLine then some (.none, xs.take i.toNat ++ d :: xs.drop i.toNat) else none) else none
  | _, _ => none
theorem RepL.take' {k : Kx} {F : Hp} : ∀ {ws : List V} {xs : List D} (n : Nat), RepL k F ws xs → RepL k F (ws.take n) (xs.take n)
  | _, _, 0, _ => by simpa using RepL.nil
  | _, _, n + 1, .nil => by simpa using RepL.nil
  | _, _, n + 1, .cons a b => .cons a (RepL.take' n b)
theorem RepL.drop' {k : Kx} {F : Hp} : ∀ {ws : List V} {xs : List D} (n : Nat), RepL k F ws xs → RepL k F (ws.drop n) (xs.drop n)
  | _, _, 0, h => by simpa using h
  | _, _, n + 1, .nil => by simpa using RepL.nil
  | _, _, n + 1, .cons a b => RepL.drop' n b
def rIns : V → List V → Hp → VK → Prop := fun x vs H Q => ∃ (l : Addr) (xs : List V) (i : Int) (y : V), x = .ref l ∧ vs = [.int i, y] ∧ H l = some (.lst xs) ∧ xs.length < sizeLine ∧ 0 ≤ i ∧ i < 2 ^ 63 ∧ Q .non (upd H l (.lst (xs.take i.toNat ++ [y] ++ xs.drop i.toNat)))
theorem simInsert {k : Kx} : MutSim k rIns fInsert := by
  intro F H p ws xs vs ds Q sb hp rw_ rv h
  unfold fInsert at h
  split at h
  · rename_i i d
    cases rv with
    | cons a b =>
      cases b with
      | cons b c =>
        cases c
        cases a
        split at h
        · rename_i hi
          simp only [Bool.and_eq_true, decide_eq_true_eq, Nat.ble_eq] at hi
          split at h
          · rename_i hl
            have sl : sizeLine < 2 ^ 62 := by decide
            refine ⟨p, ws, _, _, rfl, rfl, hp, by rw [rw_.length]; exact hl, hi.1, by omega, ?_⟩
            rw [List.append_assoc]
            exact h _ _ .non ((rw_.take' _).append (.cons b (rw_.drop' _)))
          · exact h.elim
        · exact h.elim
  · exact h.elim
section
variable {X : Cx} {CT : CTab} {e f : Expr} {mr : AM} {p pos : Pos}
theorem nInsert (i : Nat) {x : Str} {apos : Pos} (ho : PE X (.Name x p) (tVar i)) (ha : NA X CT [e, f] mr) (hbase : attributeBase (.Name x p) "insert" X.env (eval (.Name x p) X.env) = eval (.Name x p) X.env := by rfl)
    (hfew : ((backTo pos (starEach [e, f] X.env)).all (fun x => !x.1) && (backToKw pos (keywordEach [] X.env)).all (fun x => x.1.isSome) && decide ([e, f].length + ([] : List Keyword).length + (if ([] : List Keyword).isEmpty then 0 else 1) < 30)) = true := by rfl)
    (hline : (apos.endLine == pos.line) = true := by rfl) (hs : starEach [e, f] X.env = (false, eval e X.env) :: starEach [f] X.env := by rfl) (hpl : (backTo pos (starEach [f] X.env)).any (·.1) = false := by rfl) : NE X CT (.Call (.Attribute (.Name x p) "insert" apos) [e, f] [] pos) (evMut fInsert i mr) := by
  obtain ⟨_, pa, sa⟩ := ha
  exact ⟨_, pe_bm PySem.F.plainAttrs_list PySem.F.slot_list_insert PySem.F.type_list_insert mt_insert ho pa hbase hfew hline hs hpl, simMut (k := kx X CT) simInsert sa⟩
end
end Pv

/-! PwA: dicts whose keys are tuples of ints, or ints. -/
namespace Pv
open PySem PySem.Spec PySem.SeqAt L2
def intsOf : List D → Option (List Int)
  | [] => some []
  | .int i :: r => (intsOf r).map (i :: ·)
  | _ => none
def keyOf (t : Bool) (d : D) : Option (List Int) := match t, d with
  | true, .tuple xs => intsOf xs
  | false, .int i => some [i]
  | _, _ => none
theorem RdR.dct {k : Kx} {F H : Hp} {v : V} {t : Bool} {kd ds : List D} (s : Sub F H) (h : RdR k F H v (.dict [(.bool false, .tuple [.bool t, .list kd, .list ds])])) : ∃ a ks vs, v = .ref a ∧ kd = ks.map (fun k => (PyData.tuple (k.map .int) : D)) ∧ Rd H a (hoD t ks vs) ∧ ks.length = vs.length ∧ RepL k F vs ds := by
  rcases h with h | ⟨q, o, ho, rfl, h1, h2, e⟩
  · cases h with
    | dct h hl r => exact ⟨_, _, _, rfl, rfl, s.rd h rdK_hoD, hl, r⟩
  · cases o with
    | lst ys => cases e
    | ins c fs => cases e
    | dct t' ks ds' =>
      cases e
      obtain ⟨vs, rfl, hl, r⟩ := h2
      exact ⟨q, ks, vs, rfl, rfl, .inl h1, hl, r⟩
section
variable {X : Cx} {CT : CTab} {a b : Expr} {ma mb : EM} {pos : Pos}
end
/-! d[y] = v -/
section
variable {X : Cx} {CT : CTab} {P : List Nat} {Wx : Option WX} {o i value : Expr} {mk mv : EM} {pos pos' : Pos}
end
end Pv

/-! PwB: dicts in tests, y not in d. -/
namespace Pv
open PySem PySem.Spec PySem.SeqAt L2
theorem _root_.L2.Room.u1 {n : Nat} {A : Around} (r : Room n A) : A.units + 1 < cLine := by have := r.u; omega
section
variable {X : Cx} {CT : CTab} {a b : Expr} {ma mb : EM} {pos : Pos}
end
end Pv

/-! PwC: walks of dicts, locked meanwhile. -/
namespace Pv
open PySem PySem.Spec PySem.SeqAt L2
section
variable {k : Kx} {F H F' H' : Hp} {ρ ρ' : Rho} {σ σ' : L2.St} {a : Addr} {u : HO} {od : Obj}
end
structure Lkd (k : Kx) (j : Nat) (t : Bool) (ks : List (List Int)) (vs : List V) (ds : List D) (F : Hp) (σ : L2.St) (H : Hp) (a : Addr) (od : Obj) : Prop where
  s : σ[j]? = some (some (.ref a))
  h : H a = some (.frz od (hoD t ks vs))
  f : F a ≠ none
  l : ks.length = vs.length
  r : RepL k F vs ds
/-! a statement that walks the dict of slot j -/
/-! expressions -/
/-! ### the keys -/
section
variable {X : Cx} {CT : CTab} {P ts : List Nat} {tg : Expr} {body : List Stmt} {mg : GM} {mb : SM} {mt : TM} {me : EM} {pos p : Pos} {x : Str} {e : Expr}
end
end Pv

/-! PwD: more of dicts: get, list, len, displays of one pair. -/
namespace Pv
open PySem PySem.Spec PySem.SeqAt PyProof.Rows L2
/-! list(d), len(d), truth -/
section
variable {X : Cx} {CT : CTab} {o e g : Expr} {ma mk mx : EM} {apos cpos : Pos}
end
/-! {y: z} -/
theorem Aft.temp {k : Kx} {ρ ρ' : Rho} {σ : L2.St} {F H F' H' : Hp} {p : Addr} {o o' : HO} (f : FR k F ρ σ H) (hp : H p = none) (m : NoT o) (A : Aft k ρ σ F (upd H p o) ρ' F' H') : H' p = some o ∧ F' p = none ∧ Aft k ρ σ F H ρ' F' (upd H' p o') := by
  have nO : ¬ Own ρ σ p := fun z => by obtain ⟨u, hu⟩ := f.own_some z; rw [hp] at hu; cases hu
  have e1 := A.tr.keep p o upd_same nO
  have e2 := A.tr.new p o upd_same m (f.sub.none_of hp) nO
  refine ⟨e1, e2, ⟨⟨fun a u q => ?_, A.fr.len, A.fr.vals, fun i ob q => ?_, A.fr.dist⟩, ⟨A.tr.sub, fun a u q n => ?_, fun a u q mm z n => ?_, fun a u q => ?_⟩, A.ow, A.sl⟩⟩
  · have ne : a ≠ p := fun w => by rw [w, e2] at q; cases q
    rw [upd_ne ne]; exact A.fr.sub a u q
  · obtain ⟨b, ho, s, hb, n, r⟩ := A.fr.owns i ob q
    have ne : b ≠ p := fun w => nO (A.ow p ⟨i, ob, q, w ▸ s⟩)
    exact ⟨b, ho, s, by rw [upd_ne ne]; exact hb, n, r⟩
  · have ne := ne_of_none q hp
    rw [upd_ne ne]; exact A.tr.keep a u (by rw [upd_ne ne]; exact q) n
  · exact A.tr.new a u (by rw [upd_ne (ne_of_none q hp)]; exact q) mm z n
  · have ne := ne_of_none q hp
    obtain ⟨u', q'⟩ := A.tr.there a u (by rw [upd_ne ne]; exact q)
    exact ⟨u', by rw [upd_ne ne]; exact q'⟩
section
variable {X : Cx} {CT : CTab} {a b : Expr} {mk mv : EM} {pos : Pos}
end
end Pv

/-! PwE: a comprehension that walks a list which stays its owner's. -/
namespace Pv
open PySem PySem.Spec PySem.SeqAt L2
structure WalkI (k : Kx) (J : It) (I : Addr → Prop) (F H : Hp) (ds : List D) : Prop where
  w : ∃ G Y, Walk J ds.length G Y ∧ (∀ F' H', Sub F F' → Sub F' H' → (∀ p o, H p = some o → ¬ I p → H' p = some o) → G H') ∧
    ∀ (i : Nat) (d : D) (F' H' : Hp) (x : V) (H'' : Hp), ds[i]? = some d → Sub F F' → Sub F' H' → (∀ p o, H p = some o → ¬ I p → H' p = some o) → Y i H' x H'' → YOk k F' H' x H'' d
section
variable {X : Cx} {CT : CTab} {ts : List Nat} {tg : Expr} {mg : GM} {mt : TM} {me : EM} {pos p : Pos} {x : Str} {e : Expr}
end
end Pv

/-! PwF: a list told from its end. -/
namespace Pv
open PySem PySem.Spec PySem.SeqAt L2
section
variable {X : Cx} {CT : CTab} {a : Expr} {ma : EM}
end
end Pv

/-! PwG: xs[i] += e on a list of ints. -/
namespace Pv
open PySem PySem.Spec PySem.SeqAt L2
section
variable {X : Cx} {CT : CTab} {P : List Nat} {Wx : Option WX} {a e : Expr} {ma me : EM} {p tpos pos : Pos}
end
end Pv

/-! PwH: l.index(x), items of any depth. -/
namespace Pv
open PySem PySem.Spec PySem.SeqAt L2
section
variable {X : Cx} {CT : CTab} {e : Expr} {mr : AM} {p pos : Pos}
end
end Pv

/-! PwI: l.index(x) of a frozen list. -/
namespace Pv
open PySem PySem.Spec PySem.SeqAt L2
section
variable {X : Cx} {CT : CTab} {e : Expr} {mr : AM} {p pos : Pos}
end
end Pv

/-! PwJ: exceptions: raise, calls that may raise. -/
namespace Pv
open PySem PySem.Spec PySem.SeqAt L2
def isXD : D → Bool
  | .dict ((.str _, _) :: _) => true
  | _ => false
def isX : Rv → Bool
  | .sv (.val d) => isXD d
  | _ => false
theorem rep_noX {k : Kx} {F : Hp} {v : V} {d : D} (h : Rep k F v d) : isXD d = false := by
  cases h <;> rfl
theorem rr_noX {k : Kx} {H F H' : Hp} {ρ : Rho} {σ : L2.St} {r : Rv} {v : V} (h : RR k H F ρ σ H' r v) : isX r = false := by
  match r, h with
  | .sv (.val d), h => exact rep_noX h
  | .sv (.own o), _ => rfl
  | .plc i, _ => rfl
def SimEX (k : Kx) (W : WX) (te : TE) (me : EM) : Prop := ∀ (F : Hp) (ρ : Rho) (σ : L2.St) (H : Hp) (Q : VK), FR k F ρ σ H →
  wpo (me ρ) (fun x => (∀ v F' H', Aft k ρ σ F H x.2 F' H' → RR k H F' x.2 σ H' x.1 v → Q v H') ∧ ∀ y fs, x.1 = .sv (.val (excD y fs)) → ∀ cls d F' H', Aft k ρ σ F H x.2 F' H' → ExcR k F' H' y fs cls d → W cls d σ H') → te σ H Q
theorem simCallX {k : Kx} {io : Bool} {np : Nat} {cm : CM} {W : WX} {ta : TA} {ma : AM} (ha : SimA k ta ma) : SimEX k W (tCallS (spX k io np cm) (WE W) ta) (evCallL np cm ma) := by
  intro F ρ σ H Q f h
  unfold evCallL at h
  refine ha F ρ σ H _ f ((wpo_bind.mp h).mono fun a _ h => ?_)
  intro vs F1 H1 A1 R1
  have h := wpo_bind.mp h
  cases e1 : passB a.2 a.1 with
  | none => rw [e1] at h; exact h.elim
  | some as =>
    rw [e1] at h
    have h : wpo (if as.length = np then (cm as).bind fun x => some (Rv.sv x.1, if nlS x.1 = true then a.2 else frAll a.2 a.1) else none) _ := h
    obtain ⟨ar, ao⟩ := passB_ok (all := a.1) (rs := a.1) f A1 (fun _ z => z) (fun _ z => z) (fun _ z => z) R1 e1
    split at h
    · rename_i hl
      have el := ar.len
      refine ⟨_, as, lend_in A1.fr, ar, by omega, (wpo_bind.mp h).mono fun x _ h => ?_⟩
      have hI : ∀ p, ArgOwn as vs p → ¬ Own a.2 σ p := fun p z o => by
        obtain ⟨u, hu⟩ := f.own_some (A1.ow p o)
        rw [(ao p z).1] at hu; cases hu
      have hI' : ∀ p, ArgOwn as vs p → ¬ Own a.2 σ p ∨ ∃ j o, Rv.plc j ∉ a.1 ∧ a.2[j]? = some (some (.own o)) ∧ σ[j]? = some (some (.ref p)) := fun p z => .inl (hI p z)
      have fin : ∀ {F' H' : Hp}, Sub F' H' → Tr (ArgOwn as vs) (lendF (Lent a.2 σ a.1) F1 H1) H1 F' H' → ∀ {ρ2 : Rho} {F2 : Hp}, ((F2 = unlF (Lent a.2 σ a.1) F' ∧ ρ2 = a.2) ∨ (F2 = F' ∧ ρ2 = frAll a.2 a.1)) → Aft k ρ σ F H ρ2 F2 H' := fun {F' H'} sb tr {ρ2 F2} hF => by
        obtain ⟨b1, b2, b3, b4, b5, b6, b7, b8⟩ := backL A1.fr sb tr hI' hF
        have ow : ∀ p, Own ρ2 σ p → Own a.2 σ p := fun p ⟨i, o, q1, q2⟩ => ⟨i, o, (b6 i o q1).1, q2⟩
        refine ⟨⟨b1, b3, b5, fun i o q => ?_, fun i j o o' p q1 q2 q3 q4 => A1.fr.dist i j o o' p (b6 i o q1).1 (b6 j o' q2).1 q3 q4⟩, ⟨A1.tr.sub.trans b2, fun p o q n => ?_, fun p o q m n n2 => ?_, fun p o q => ?_⟩, fun p z => A1.ow p (ow p z), fun i s q => let ⟨s', q'⟩ := A1.sl i s q; b4 i s' q'⟩
        · obtain ⟨q0, p, ho, q1, q2⟩ := b6 i o q
          obtain ⟨q3, q4, q5⟩ := q2 fun z => hI p z ⟨i, o, q0, q1⟩
          exact ⟨p, ho, q1, q3, q4, q5⟩
        · exact b7 p o (A1.tr.keep p o q n) fun z => by rw [(ao p z).1] at q; cases q
        · exact b8 p o (A1.tr.keep p o q n2) m (A1.tr.new p o q m n n2) (fun z => by rw [(ao p z).1] at q; cases q) fun z => n2 (A1.ow p z)
        · obtain ⟨o', q'⟩ := A1.tr.there p o q
          exact tr.there p o' q'
      have res : ∀ {ρ2 : Rho} {F2 H' : Hp} {v : V}, ResR k (ArgGiv io as vs) H1 F2 H' x.1 v → RR k H F2 ρ2 σ H' (.sv x.1) v := fun {ρ2 F2 H' v} rr => by
        cases hx : x.1 with
        | val d => rw [hx] at rr; exact rr
        | own o =>
          rw [hx] at rr
          obtain ⟨p, ho, q1, q2, q3⟩ := rr
          refine ⟨p, ho, q1, ?_, q3⟩
          rcases q2 with q2 | ⟨i, o', _, q4, q5⟩
          · exact A1.none_of q2
          · exact (ao p ⟨i, o', q4, q5⟩).1
      refine ⟨fun v F' H' sb tr rr _ => ?_, fun y fs ex cls d F' H' sb tr er => ?_⟩
      · by_cases hn : nlS x.1 = true
        · have h := h.1 v (unlF (Lent a.2 σ a.1) F') H'
          simp only [if_pos hn] at h
          exact h (fin sb tr (.inl ⟨rfl, rfl⟩)) (res (nlS_del (Lent.lstF A1.fr tr) hn rr))
        · have h := h.1 v F' H'
          simp only [if_neg hn] at h
          exact h (fin sb tr (.inr ⟨rfl, rfl⟩)) (res rr)
      · have hn : ¬ nlS x.1 = true := by rw [ex]; simp [nlS, nl]
        have h := h.2 y fs (congrArg Rv.sv ex) cls d F' H'
        simp only [if_neg hn] at h
        exact h (fin sb tr (.inr ⟨rfl, rfl⟩)) er
    · exact h.elim

section
variable {k : Kx} {P : List Nat} {W : WX} {Wx : Option WX}
def exExprX (me : EM) : SM := fun ρ => (me ρ).bind fun a => if isX a.1 = true then some (.ret a.1, a.2) else some (.nx, a.2)
theorem simExprX {te : TE} {me : EM} (he : SimEX k W te me) : SimS k P (some W) (tDrop te) (exExprX me) := by
  intro e ρ σ F H D hP s h
  unfold exExprX at h
  refine he F ρ σ H _ s.fr ((wpo_bind.mp h).mono fun a _ h => ?_)
  refine ⟨fun v F1 H1 A1 R1 => ?_, fun y fs ex cls d F1 H1 A1 er => ?_⟩
  · rw [if_neg (by rw [rr_noX R1]; exact Bool.false_ne_true)] at h
    exact h σ F1 H1 (s.aft A1)
  · rw [if_pos (by rw [ex]; rfl)] at h
    exact h.2 W rfl y fs ex cls d σ F1 H1 (s.aft A1) er
end
section
variable {X : Cx} {CT : CTab} {P : List Nat} {Wx : Option WX} {W : WX}
def FunKX (P : Program) (w : World) (K : PySem.W.Frag) (mg : Str → Option Value) (base : Heap) (CT : CTab) (n : Nat) (f : Addr) (io : Bool) (np : Nat) (cm : CM) : Prop := ∃ fd ps, FnOk P w K mg base (L2.CX P w) n f fd ps (spX ⟨K, CT⟩ io np cm) ∧ Binds K fd ps []
abbrev FunX (X : Cx) (CT : CTab) (n : Nat) (f : Addr) (io : Bool) (np : Nat) (cm : CM) : Prop := FunKX X.prog X.w X.K X.mg X.base CT n f io np cm
def NX (X : Cx) (CT : CTab) (W : WX) (e : Expr) (me : EM) : Prop := ∃ te, PE X e te ∧ SimEX (kx X CT) W te me
variable {x : Str} {p pos : Pos} {e : Expr} {es : List Expr} {f : Addr} {io : Bool} {np j : Nat} {cm : CM} {mr : AM}
theorem nCallX (tk : Takes X W) (F : FunX X CT j f io np cm) (hr : Room j X.A) (hm : X.mg x = some (.ref f)) (hk : PySem.W.keepIn X.K (.ref f) = true) (ha : NA X CT (e :: es) mr) (hg : Gl X x := by rfl) (hdb : (x == ("__debug__" : Str)) = false := by decide)
    (he : starEach (e :: es) X.env = (false, eval e X.env) :: starEach es X.env := by rfl) (hpl : (backTo pos (starEach es X.env)).any (·.1) = false := by rfl) : NX X CT W (.Call (.Name x p) (e :: es) [] pos) (evCallL np cm mr) := by
  obtain ⟨fd, ps, F, hb⟩ := F
  obtain ⟨_, pa, sa⟩ := ha
  exact ⟨_, pe_callS F hr hg hm hk hb (fun σ => passAt tk σ) pa hdb he hpl, simCallX sa⟩
variable {me : EM}
end
end Pv

/-! PwK: try, except; defs that may raise. -/
namespace Pv
open PySem PySem.Spec PySem.SeqAt L2
def wx : Option WX → WX
  | some W => W
  | none => fun _ _ _ _ => False
section
variable {X : Cx} {CT : CTab} {P : List Nat} {Wx : Option WX}
def tBody (X : Cx) (body : List Stmt) (W : WX) : TS := fun D σ H => ∀ (pn : List (Addr × Obj)) (xe : Value → Shared → Prop), Takes (X.tr pn xe) W → PassesOwn (model X.prog X.w) X.A X.env xe → ∃ ts, PSs (X.tr pn xe) body ts ∧ ts D σ H
def tSuite (X : Cx) (suite : List Stmt) (a : Addr) (cls : Value) (d : Option Addr) : TS := fun D σ H => ∀ (oe : Obj) (pn : List (Addr × Obj)), Zc cls d oe → (∃ vs, oe.data = .fields vs) → ∃ ts, PSs (X.suite a ((a, oe) :: pn)) suite ts ∧ ts D σ H
theorem tBody_ok {body : List Stmt} (W : WX) (pn : List (Addr × Obj)) (xe : Value → Shared → Prop) (tk : Takes (X.tr pn xe) W) (po : PassesOwn (model X.prog X.w) X.A X.env xe) : PSs (X.tr pn xe) body (tBody X body W) :=
  ⟨fun pins s σ H D I h => by
    obtain ⟨ts, p, q⟩ := h pn xe tk po
    exact p.run pins s σ H D I q⟩
theorem tSuite_ok {suite : List Stmt} (a : Addr) (oe : Obj) (cls : Value) (d : Option Addr) (pn : List (Addr × Obj)) (hz : Zc cls d oe) (hf : ∃ vs, oe.data = .fields vs) : PSs (X.suite a ((a, oe) :: pn)) suite (tSuite X suite a cls d) :=
  ⟨fun pins s σ H D I h => by
    obtain ⟨ts, p, q⟩ := h oe pn hz hf
    exact p.run pins s σ H D I q⟩
inductive NHs (X : Cx) (CT : CTab) (P : List Nat) (kn : List Str) : List ExceptHandler → List (List Str × SM) → List (Value × (Addr → Value → Option Addr → TS)) → Prop
  | nil : NHs X CT P kn [] [] []
  | cons {x : Str} {L : List Str} {m : SM} {b₀ : Stmt} {suite : List Stmt} {np pos' : Pos} {hds : List ExceptHandler} {ms : List (List Str × SM)} {l : List (Value × (Addr → Value → Option Addr → TS))} (hc : Names X x (.ref (He.ga X.K x)))
      (hx : ∀ y ∈ kn, PySem.W.exmOne X.K (.ref (He.ga X.K y)) (.ref (He.ga X.K x)) = some (decide (y ∈ L)))
      (hsu : ∀ (a : Addr) (oe : Obj) (cls : Value) (d : Option Addr) (pn : List (Addr × Obj)), Zc cls d oe → (∃ vs, oe.data = .fields vs) → NSs (X.suite a ((a, oe) :: pn)) CT P none (b₀ :: suite) m) (r : NHs X CT P kn hds ms l) :
      NHs X CT P kn (.ExceptHandler (some (.Name x np)) none (b₀ :: suite) pos' :: hds) ((L, m) :: ms) ((.ref (He.ga X.K x), tSuite X (b₀ :: suite)) :: l)
theorem NHs.ok {kn : List Str} {hds : List ExceptHandler} {ms : List (List Str × SM)} {l : List (Value × (Addr → Value → Option Addr → TS))} (h : NHs X CT P kn hds ms l) : HdsOk X hds l := by
  induction h with
  | nil => exact .nil
  | cons hc hx hsu r ih => exact .cons hc (fun a oe cls d pn hz hf => tSuite_ok a oe cls d pn hz hf) ih
end
section
variable {P : Program} {w : World} {K : PySem.W.Frag} {mg : Str → Option Value} {base : Heap} {x qual : Str} {params : Arguments} {body : List Stmt} {scope : Scope} {f : Addr} {fd : FuncData}
abbrev cxX (P : Program) (w : World) (K : PySem.W.Frag) (mg : Str → Option Value) (base : Heap) (N : List Str) (qual : Str) (scope : Scope) (f : Addr) (cd : Value) (A : Around) (outer : List Env) (s : Shared) (H : Hp) (E : XK) : Cx := cxOf (L2.CX P w) P w K mg base N qual scope f cd A outer s H E
theorem spX_len {k : Kx} {io : Bool} {np : Nat} {cm : CM} {vs : List V} {H : Hp} {Q : VK} {E : XK} (h : spX k io np cm vs H Q E) : vs.length = np := by
  obtain ⟨F, args, _, _, e, _⟩ := h; exact e
theorem cxX_takes {N : List Str} {cd : Value} {A : Around} {outer : List Env} {s : Shared} {H : Hp} {E : XK} : Takes (cxX P w K mg base N qual scope f cd A outer s H E) (fun cls d _ H => E cls d H) :=
  takes_of rfl rfl rfl rfl
theorem cxX_passes {N : List Str} {cd : Value} {A : Around} {outer : List Env} {s : Shared} {H : Hp} {E : XK} : PassesOwn (model (cxX P w K mg base N qual scope f cd A outer s H E).prog (cxX P w K mg base N qual scope f cd A outer s H E).w) (cxX P w K mg base N qual scope f cd A outer s H E).A (cxX P w K mg base N qual scope f cd A outer s H E).env (cxX P w K mg base N qual scope f cd A outer s H E).xe :=
  passes_of (X := cxX P w K mg base N qual scope f cd A outer s H E) rfl
theorem def_okX {CT : CTab} {io : Bool} {np nl n : Nat} {N ps : List Str} {mb : SM} (F : FunD K x qual params body scope [] [] f fd) (S : FnScope N ps scope) (hps : ps.length = np) (hN : N.length = nl) (hio : io = true → 0 < np)
    (hb : ∀ (cd : Value) (A : Around) (outer : List Env) (s : Shared) (H : Hp) (E : XK), Room n (cxX P w K mg base N qual scope f cd A outer s H E).A → NSs (cxX P w K mg base N qual scope f cd A outer s H E) CT (if io = true then [0] else []) (some fun cls d _ H => E cls d H) body mb) :
    FnOk P w K mg base (L2.CX P w) (n + 1) f fd ps (spX ⟨K, CT⟩ io np (runB io nl mb)) := by
  refine F.ok S (fun vs H Q E h => by rw [hps]; exact spX_len h) fun cd A outer s H vs Q E hr h => ?_
  obtain ⟨ts, p, si⟩ := hb cd A outer s H E hr
  exact ⟨ts, p, runB_okX hN hio si (fun _ _ _ _ z => z) h⟩
end
section
variable {X : Cx} {CT : CTab} {P : List Nat} {W : WX} {e : Expr} {me : EM} {pos : Pos}
theorem sExprX (he : NX X CT W e me) (hs : swapsWith e none pos.line X.env = pure false := by rfl) : NS X CT P (some W) (.Expr e pos) (exExprX me) := by
  obtain ⟨_, pe, se⟩ := he
  exact ⟨_, ps_expr pe hs, simExprX se⟩
theorem namesG {x : Str} (gC : X.mg x = some (.ref (He.ga X.K x))) (hg : Gl X x := by rfl) (hdb : (x == ("__debug__" : Str)) = false := by decide) : Names X x (.ref (He.ga X.K x)) := ⟨hg, hdb, .inl gC⟩
end
section
variable {fa : List He.Fa} {fn : List He.DefD} {cs : ClsT} {K : PySem.W.Frag} {mg : Str → Option Value}
theorem Fx.exm (h : Fx fa fn cs K mg) (i : Nat) {x y : Str} {b : Bool} (e : fa[i]? = some (.exm x y b) := by rfl) : PySem.W.exmOne K (.ref (He.ga K x)) (.ref (He.ga K y)) = some b := He.exm_ok (h.d.fact i e)
end
end Pv

/-! PwL: sum over tuples. -/
namespace Pv
open PySem PySem.Spec PySem.SeqAt PyProof.Rows L2
section
variable {prog : Program} {w : World} {A : Around} {E : Value → Shared → Prop} {s : Shared} {l : Addr}
end
section
variable {X : Cx}
end
section
variable {X : Cx} {n : Nat}
end
/-! e.index(x), e any list -/
section
variable {X : Cx} {CT : CTab} {e o : Expr} {mo : EM} {mr : AM} {p pos : Pos}
end
/-! a walk over a global tuple of ints -/
section
variable {X : Cx} {CT : CTab} {p : Pos} {tg : Expr}
end
section
variable {X : Cx} {CT : CTab} {p pos : Pos} {x : Str} {f : Addr} {io : Bool} {np j : Nat} {cm : CM}
end
section
variable {X : Cx} {CT : CTab} {a b : Expr} {ma mb : EM} {p pos : Pos}
end
end Pv

/-! PwM: sorted over tuples, the first of which is empty. -/
namespace PySem.SeqAt
open PySem PySem.Spec PySem.Builtin
section
variable {A : Around} {s : Shared}
end
end PySem.SeqAt
namespace PySem.W
open PySem PySem.SeqAt PySem.Calls PyProof.Rows
section
variable {prog : Program} {w : World} {A : Around} {E : Value → Shared → Prop} {s : Shared}
end
section
variable {M : Model} {A : Around} {E : Value → Shared → Prop} {s : Shared}
end
section
variable {prog : Program} {w : World} {A : Around} {s : Shared}
end
section
variable {prog : Program} {w : World} {A : Around} {E : Value → Shared → Prop} {s : Shared} {β : Type} {vs : List Value} {bs : List β} {enc : β → PyData} {R : Value → β → Prop}
end
end PySem.W
namespace Pv
open PySem PySem.Spec PySem.SeqAt L2
end Pv

/-! PwN: d[x], x a global tuple; len(set(..)) of a tuple. -/
namespace Pv
open PySem PySem.Spec PySem.SeqAt PyProof.Rows L2
section
variable {X : Cx} {CT : CTab} {a : Expr} {ma : EM} {p pos : Pos}
end
/-! len(set(xs)), xs a tuple of ints -/
section
variable {X : Cx} {CT : CTab} {a : Expr} {ma : EM} {p p2 q pos : Pos}
end
end Pv
/-! sorted(xs), xs a tuple -/
namespace PySem.W
open PySem PySem.Calls PyProof.Rows
section
variable {prog : Program} {w : World} {A : Around} {E : Value → Shared → Prop} {s : Shared} {κ : PyProof.Rows.KeyKind}
end
section
variable {prog : Program} {w : World} {A : Around} {E : Value → Shared → Prop} {s : Shared} {β : Type} {vs : List Value} {bs : List β} {enc : β → PyData} {R : Value → β → Prop}
end
end PySem.W
namespace Pv
open PySem PySem.Spec PySem.SeqAt PyProof.Rows L2
end Pv

/-! PwO: except C as e: x = a if isinstance(e, D) else b; defs as values. -/
namespace Pv
open PySem PySem.Spec PySem.SeqAt L2
section
variable {X : Cx} {CT : CTab} {P : List Nat} {Wx : Option WX}
theorem set_over {σ : L2.St} {i j : Nat} {x y : Option V} (h : i ≠ j) : (((σ.set i x).set j y).set i none) = (σ.set i none).set j y := by
  apply List.ext_getElem?
  intro n
  by_cases h1 : n = i
  · subst h1
    by_cases hl : n < σ.length
    · rw [List.getElem?_set_self (by simpa using hl), List.getElem?_set_ne (Ne.symm h), List.getElem?_set_self hl]
    · rw [List.getElem?_eq_none (by simpa using Nat.le_of_not_lt hl), List.getElem?_eq_none (by simpa using Nat.le_of_not_lt hl)]
  · rw [List.getElem?_set_ne (Ne.symm h1)]
    by_cases h2 : n = j
    · subst h2
      by_cases hl : n < σ.length
      · rw [List.getElem?_set_self (by simpa using hl), List.getElem?_set_self (by simpa using hl)]
      · rw [List.getElem?_eq_none (by simpa using Nat.le_of_not_lt hl), List.getElem?_eq_none (by simpa using Nat.le_of_not_lt hl)]
    · rw [List.getElem?_set_ne (Ne.symm h2), List.getElem?_set_ne (Ne.symm h2), List.getElem?_set_ne (Ne.symm h1), List.getElem?_set_ne (Ne.symm h1)]
theorem SInv.gone {k : Kx} {e : Ent} {ρ : Rho} {σ : L2.St} {F H : Hp} (s : SInv k e ρ σ F H) (i : Nat) (x : Option V) (hi : ∀ q ∈ e.pr, q.1 ≠ i) : SInv k e (Pv.kill [i] ρ) (σ.set i x) F H := by
  have sk := s.kill [i]
  have other : ∀ {n : Nat} {sv : SV}, (Pv.kill [i] ρ)[n]? = some (some sv) → n ≠ i := fun {n sv} h z => by
    obtain ⟨_, h2⟩ := kill_get h
    simp [z] at h2
  refine ⟨⟨sk.fr.sub, by simpa using sk.fr.len, fun n d q => ?_, fun n o q => ?_, fun a b o o' p q1 q2 q3 q4 => ?_⟩, sk.tr, fun p h => ?_, fun q hq => ?_⟩
  · rw [List.getElem?_set_ne (Ne.symm (other q))]; exact sk.fr.vals n d q
  · rw [List.getElem?_set_ne (Ne.symm (other q))]; exact sk.fr.owns n o q
  · rw [List.getElem?_set_ne (Ne.symm (other q1))] at q3
    rw [List.getElem?_set_ne (Ne.symm (other q2))] at q4
    exact sk.fr.dist a b o o' p q1 q2 q3 q4
  · obtain ⟨n, o, q1, q2⟩ := h
    rw [List.getElem?_set_ne (Ne.symm (other q1))] at q2
    exact sk.ow p ⟨n, o, q1, q2⟩
  · rw [List.getElem?_set_ne (Ne.symm (hi q hq))]; exact s.pr q hq
end
end Pv
/-! ### defs as values -/
namespace Pv
open PySem PySem.Spec PySem.SeqAt L2
section
variable {X : Cx} {CT : CTab} {W : WX} {x : Str} {p pos : Pos} {e : Expr} {es : List Expr} {mr : AM} {L : List (Str × Nat × CM)}
end
end Pv

/-! PwP: {} as a value; a tuple told from its end. -/
namespace Pv
open PySem PySem.Spec PySem.SeqAt L2 PyProof.Rows
section
variable {prog : Program} {w : World} {A : Around} {E : Value → Shared → Prop} {s : Shared}
end
end Pv

/-! PwQ: what may raise, within an expression that begins with it. -/
namespace Pv
open PySem PySem.Spec PySem.SeqAt L2
section
variable {X : Cx} {CT : CTab} {W : WX} {a b c e : Expr} {es : List Expr} {ma mb me : EM} {mt : TM} {mr : AM} {pos p : Pos} {x : Str} {f : Addr} {io : Bool} {np j : Nat} {cm : CM}
end
section
variable {X : Cx} {W : WX} {a : Expr} {ma : EM} {pos : Pos}
end
end Pv

/-! PwR: for .. in l[-1], a dict; l[i], l[j] = a, b. -/
namespace Pv
open PySem PySem.Spec PySem.SeqAt L2
/-! ### l[i], l[j] = a, b -/
section
variable {X : Cx} {CT : CTab} {P : List Nat} {Wx : Option WX} {a b e : Expr} {m1 m2 me : EM}
end
/-! ### for .. in l[-1], a dict -/
section
variable {X : Cx} {CT : CTab} {P ts : List Nat} {tg : Expr} {body : List Stmt} {mg : GM} {mb : SM} {x : Str}
end
end Pv

/-! PwS: a tuple that the program names, handed on as a value: its name; a walk over such. -/
namespace Pv
open PySem PySem.Spec PySem.SeqAt L2
section
variable {X : Cx} {CT : CTab} {tg it : Expr} {me : EM}
end
end Pv

/-! PwT: {} != a tuple. -/
namespace Pv
open PySem PySem.Spec PySem.SeqAt L2
open AutoSeq1 (wpAny_loadPart')
open MeetsSeq MeetsSeq2 MeetsSeq3
end Pv

/-! PwU: l.pop(i). -/
namespace Pv
open PySem PySem.Spec PySem.SeqAt L2
section
variable {X : Cx} {CT : CTab} {e : Expr} {mr : AM} {p pos : Pos}
end
end Pv

/-! PwW: l.remove(x), items of any depth. -/
namespace Pv
open PySem PySem.Spec PySem.SeqAt L2
section
variable {X : Cx} {CT : CTab} {e : Expr} {mr : AM} {p pos : Pos}
end
end Pv

/-! PwX: a loop over a list that stays its owner's. -/
namespace Pv
open PySem PySem.Spec PySem.SeqAt L2
section
variable {X : Cx} {CT : CTab} {P ts : List Nat} {tg : Expr} {body : List Stmt} {mg : GM} {m : SM} {x : Str} {pos p : Pos}
end
end Pv

/-! PwZ: an own exception's __init__: super().__init__(x); self.f = x. -/
namespace Pv
open PySem PySem.Spec PySem.SeqAt L2 PyProof.Rows
structure SupI (P : Program) (K : PySem.W.Frag) (C fI : Addr) (x fld : Str) (name qual : Str) (params : Arguments) (body : List Stmt) (scope : Scope) (fd : FuncData) : Prop where
  ex : ∃ (oc : Value) (od : Option Addr) (osl : Array (Option Value)) (dV kV doc pm ct : Value) (an : Option Addr) (cda cc : Addr), fd = PySem.W.fnX name qual params body scope [("__class__", cc)] dV kV doc pm an (.ref cda) ct ∧
    K.lookup fI = some ⟨oc, od, .func fd, osl⟩ ∧ PySem.W.codeIn K (.ref cda) qual = true ∧
    (∃ ccl cdd vs ccs file tf, K.lookup cda = some ⟨ccl, cdd, .fields vs, ccs⟩ ∧ vs[2]? = some (.str file tf) ∧ ((P.main.file : Str) == file) = true) ∧ ∃ cl cld csl, K.lookup cc = some ⟨cl, cld, .cell (some (.ref C)), csl⟩
  cd : ∃ cdD, PySem.W.clsIn K C = some cdD ∧ PySem.W.ks_superIn K C C "__init__" = some (some (.builtin "ValueError.__init__"))
  mro : PySem.W.mroIn K C (.ref C) = some true
  ve : PySem.W.subIn K (.ref C) (.type "ValueError") = some true
  no : PySem.W.nsIn K cStatics "thirdparty.any" = some none
  T : OexC K C
  fl : PySem.W.findIn K (.ref C) fld = some none
  top : (P.main.scope.names.lookup ("super" : Str)).isSome = false
structure SupSc (x : Str) (params : Arguments) (scope : Scope) : Prop where
  sup : scope.names.lookup ("super" : Str) = some .globalImplicit
  cls : scope.names.lookup ("__class__" : Str) = some .free
  slf : scope.names.lookup ("self" : Str) = some .local
  arg : scope.names.lookup x = some .local
  kind : scope.kind = .function
  co : scope.isCoroutine = false
  gen : scope.isGenerator = false
  cell : ∀ y ∈ scope.names, y.2 ≠ .cell
  free : ∀ y, scope.names.lookup y = some .free → y = "__class__"
  hd : ∃ ar, (params.posonlyargs ++ params.args).head? = some ar ∧ ar.arg = "self"
  ne : x ≠ "self"
structure SupE (x fld qual : Str) (scope : Scope) (pl : Sem Bool) (p0 p1 p2 p3 p4 p5 p6 p7 p8 p9 : Pos) : Prop where
  ia : ∀ (L f : Addr) (cd : Value) (cl : List (Str × Addr)), interactive (PySem.W.envX qual scope L f cd cl) = false
  s1 : ∀ (L f : Addr) (cd : Value) (cl : List (Str × Addr)), swapsWith (.Call (.Attribute (.Call (.Name "super" p0) [] [] p1) "__init__" p2) [.Name x p3] [] p4) none p5.line (PySem.W.envX qual scope L f cd cl) = pure false
  ev : ∀ (L f : Addr) (cd : Value) (cl : List (Str × Addr)), eval (.Call (.Attribute (.Call (.Name "super" p0) [] [] p1) "__init__" p2) [.Name x p3] [] p4) (PySem.W.envX qual scope L f cd cl) = (do
      let ov ← attributeBase (.Call (.Name "super" p0) [] [] p1) "__init__" (PySem.W.envX qual scope L f cd cl) (eval (.Call (.Name "super" p0) [] [] p1) (PySem.W.envX qual scope L f cd cl))
      standAt p2.atName
      let (f', first) ← holding [ov] (getMethod ov "__init__" pl)
      callWith p4 f' first (backTo p4 (starEach [.Name x p3] (PySem.W.envX qual scope L f cd cl))) [])
  st : ∀ (L f : Addr) (cd : Value) (cl : List (Str × Addr)), starEach [.Name x p3] (PySem.W.envX qual scope L f cd cl) = (false, eval (.Name x p3) (PySem.W.envX qual scope L f cd cl)) :: starEach [] (PySem.W.envX qual scope L f cd cl)
  s2 : ∀ (L f : Addr) (cd : Value) (cl : List (Str × Addr)), swapsWith (.Name x p8) (some (.Attribute (.Name "self" p6) fld p7)) p9.line (PySem.W.envX qual scope L f cd cl) = pure false
end Pv

namespace Pv
open PySem PySem.Spec PySem.SeqAt L2 PyProof.Rows
def oexB (K : PySem.W.Frag) (C : Addr) : Bool := match K.lookup C with
  | some ⟨.type ty, dd, .cls ⟨nm, bs, mro, ns, qn, hd, sn, sub, ab, col, del⟩, sl⟩ => (match mro, sl with
    | .ref C' :: bm, ⟨[_, _, _, _, some (.builtin n), _]⟩ => decide (C' = C) && (decide (ty = "type") && (decide (n = "ValueError.__new__") && (hd && (!del && PySem.HandSPX.refsVE bm))))
    | _, _ => false)
  | _ => false
theorem oexB_ok {K : PySem.W.Frag} {C : Addr} (h : oexB K C = true) : ∃ nm q N bs bm sn sub ab col dd k0 k1 k2 k3 k5, K.lookup C = some (excClassObj nm q C N bs bm true sn sub ab col dd k0 k1 k2 k3 k5 "ValueError.__new__") ∧ PySem.HandSPX.refsVE bm = true := by
  unfold oexB at h
  split at h
  · rename_i ty dd nm bs mro ns qn hd sn sub ab col del sl ho
    split at h
    · rename_i C' bm k0 k1 k2 k3 n k5
      simp only [Bool.and_eq_true, decide_eq_true_eq, Bool.not_eq_true'] at h
      obtain ⟨rfl, rfl, rfl, rfl, rfl, h6⟩ := h
      exact ⟨nm, qn, ns, bs, bm, sn, sub, ab, col, dd, k0, k1, k2, k3, k5, ho, h6⟩
    · cases h
  · cases h
class PF (P : Program) (file : outParam Str) : Prop where
  fl : P.main.file = file
  sup : (P.main.scope.names.lookup ("super" : Str)).isSome = false
def cdFile (K : PySem.W.Frag) (cda : Addr) (file : Str) : Bool := match K.lookup cda with
  | some ⟨_, _, .fields vs, _⟩ => (match (vs[2]? : Option Value) with
    | some (.str fl _) => decide (fl = file)
    | _ => false)
  | _ => false
def cellIs (K : PySem.W.Frag) (cc C : Addr) : Bool := match K.lookup cc with
  | some ⟨_, _, .cell (some (.ref C')), _⟩ => decide (C' = C)
  | _ => false
def supFB (K : PySem.W.Frag) (C : Addr) (file fld : Str) : FuncData → Bool
  | ⟨_, qn, ⟨[], [⟨a0, _, _⟩, ⟨a1, _, _⟩], none, [], [], none, []⟩, .stmts [.Expr (.Call (.Attribute (.Call (.Name sn p0) [] [] p1) ini p2) [.Name x1 p3] [] p4) p5, .Assign [.Attribute (.Name sl p6) f' p7] (.Name x2 p8) p9], sc, gl, [(cn, cc)], .none, _, _, _, _, .ref cda, _, bi⟩ =>
    decide (a0 = "self") && (decide (sn = "super") && (decide (ini = "__init__") && (decide (x1 = a1) && (decide (x2 = a1) && (decide (sl = "self") && (decide (f' = fld) && (decide (cn = "__class__") && (decide (gl = mainGlobals) && (decide (bi = builtinsNs) && (PySem.W.codeIn K (.ref cda) qn && (decide (p4.line = p2.endLine) &&
    (decide (sc.kind = .function) && (decide (sc.isCoroutine = false) && (decide (sc.isGenerator = false) && (decide (sc.names.lookup ("super" : Str) = some .globalImplicit) && (decide (sc.names.lookup ("__class__" : Str) = some .free) && (decide (sc.names.lookup ("self" : Str) = some .local) && (decide (sc.names.lookup a1 = some .local) &&
    ((sc.names.all fun y => decide (y.2 ≠ .cell)) && ((sc.names.all fun y => decide (y.2 = .free → y.1 = "__class__")) && (decide (a1 ≠ "self") && (decide (a1 ≠ "__debug__") && (decide (a1 ≠ "__classdict__") && (decide (a1 = "index" ∨ a1 = "most") &&
    (cdFile K cda file && cellIs K cc C)))))))))))))))))))))))))
  | _ => false
def supCB (K : PySem.W.Frag) (C : Addr) (fld : Str) : Bool :=
  oexB K C && (He.eqO (PySem.W.findIn K (.ref C) "__setattr__") (some (some (.builtin "object.__setattr__"))) && (decide (PySem.W.subIn K (.ref C) (.type "BaseException") = some true) && (decide (PySem.W.typeIn K (.ref C) = some (.type "type")) && (PySem.W.keepIn K (.ref C) &&
  ((PySem.W.clsIn K C).isSome && (He.eqO (PySem.W.ks_superIn K C C "__init__") (some (some (.builtin "ValueError.__init__"))) && (decide (PySem.W.mroIn K C (.ref C) = some true) && (decide (PySem.W.subIn K (.ref C) (.type "ValueError") = some true) && (He.eqO (PySem.W.nsIn K cStatics "thirdparty.any") (some none) && He.eqO (PySem.W.findIn K (.ref C) fld) (some none))))))))))
structure SupC (K : PySem.W.Frag) (C : Addr) (fld : Str) : Prop where
  T : OexC K C
  cd : ∃ cdD, PySem.W.clsIn K C = some cdD ∧ PySem.W.ks_superIn K C C "__init__" = some (some (.builtin "ValueError.__init__"))
  mro : PySem.W.mroIn K C (.ref C) = some true
  ve : PySem.W.subIn K (.ref C) (.type "ValueError") = some true
  no : PySem.W.nsIn K cStatics "thirdparty.any" = some none
  fl : PySem.W.findIn K (.ref C) fld = some none
def supB (K : PySem.W.Frag) (file x fld : Str) : Bool := (supCB K (He.ga K x) fld && xfB K (He.ga K x)) && (match PySem.W.findIn K (.ref (He.ga K x)) "__init__" with
  | some (some (.ref fI)) => decide (PySem.W.typeIn K (.ref fI) = some (.type "function")) && (match K.lookup fI with
    | some ⟨_, _, .func fd, _⟩ => supFB K (He.ga K x) file fld fd
    | _ => false)
  | _ => false)
structure PX (P : Program) (K : PySem.W.Frag) (file : Str) (l : List (Str × Str)) : Prop where
  pf : PF P file
  sp : (l.all fun z => supB K file z.1 z.2) = true
theorem PX.at_ {P : Program} {K : PySem.W.Frag} {file : Str} {l : List (Str × Str)} (h : PX P K file l) (i : Nat) {x f : Str} (e : l[i]? = some (x, f)) : supB K file x f = true := List.all_eq_true.mp h.sp _ (List.mem_of_getElem? e)
structure FxP (P : Program) (file : Str) (l : List (Str × Str)) (fa : List He.Fa) (fn : List He.DefD) (cs : ClsT) (K : PySem.W.Frag) (mg : Str → Option Value) : Prop extends Fx fa fn cs K mg where
  px : PX P K file l
abbrev exP (cs : ClsT) (file : Str) (l : List (Str × Str)) (K : PySem.W.Frag) : Bool := exK cs K && l.all fun z => supB K file z.1 z.2
theorem FxP.of {P : Program} {file : Str} {l : List (Str × Str)} {fa : List He.Fa} {fn : List He.DefD} {cs : ClsT} {K : PySem.W.Frag} {mg : Str → Option Value} {w : World} {h : Heap} (X : K.In h) (G : h.Ns mainGlobals mg) (pf : PF P file) (c : He.SaysX fa fn [] [] (exP cs file l) w h K) : FxP P file l fa fn cs K mg :=
  ⟨Fx.of X G ⟨c.t, (He.ba c.more).1, c.hd, c.out, c.empty⟩, pf, (He.ba c.more).2⟩
/-! the hook that tells the interpreter's own statics too -/
def asY (g : Addr → Option Obj) (n : Nat) : List Addr := He.asD g n ++ [cStatics]
def obsY (n : Nat) (fa : List He.Fa) (fn : List He.DefD) (ex : PySem.W.Frag → Bool) (g : Addr → Option Obj) : He.AlX := (He.obsT fa fn [] (He.frT g (asY g n)), ex (He.frT g (asY g n)))
def hookY (n : Nat) (fa : List He.Fa) (fn : List He.DefD) (ex : PySem.W.Frag → Bool) : PySem.W.Hook where
  α := He.AlX
  obs := fun s => obsY n fa fn ex s.heap.get?
  val := fun w => He.valX fn [] w
  says := fun w h => ∃ K : PySem.W.Frag, K.In h ∧ He.SaysX fa fn [] [] ex w h K
  of := fun _ _ e => ⟨_, He.frT_in, ⟨congrArg (fun z : He.AlX => z.1) e, congrArg (fun z : He.AlX => z.2) e, (fun _ z => nomatch z), (fun _ z => nomatch z), (fun _ z => nomatch z)⟩⟩
  keeps := fun _ _ _ ⟨K, hK, c⟩ k => ⟨K, PySem.W.Frag.In.keeps hK k, ⟨c.t, c.more, c.hd, c.out, fun _ z => nomatch z⟩⟩
theorem obsY_eq {n : Nat} {fa : List He.Fa} {fn : List He.DefD} {ex : PySem.W.Frag → Bool} {g : Addr → Option Obj} {s : Shared} (h : ∀ a, g a = s.heap.get? a) : obsY n fa fn ex g = ((hookY n fa fn ex).obs s : He.AlX) := by
  have e : g = s.heap.get? := funext h
  rw [e] <;> rfl
section
variable {X : Cx} {CT : CTab} {P : List Nat} {Wx : Option WX} {W : WX}
def exTryF (up : Bool) (kn L : List Str) (m : SM) (mh : Str → List (D × D) → SM) : SM := fun ρ => (m ρ).bind fun a => match a.1 with
  | .ret (.sv (.val (.dict ((.str y, z) :: l)))) => if y ∈ kn then (if y ∈ L then mh y l a.2 else if up = true then some a else none) else none
  | _ => some a
def endsAs (i : Nat) (N : Ends) : Ends := { nx := fun σ' H' => N.nx (σ'.set i none) H', rt := N.rt, bk := fun σ' H' => N.bk (σ'.set i none) H', ct := fun σ' H' => N.ct (σ'.set i none) H' }
def HdF (X : Cx) (CT : CTab) (P : List Nat) (Wx : Option WX) (i : Nat) (L : List Str) (hb : List Stmt) (mh : Str → List (D × D) → SM) : Prop :=
  ∀ (y : Str) (fs : List (Str × D)), y ∈ L → ∀ (a : Addr) (oe : Obj) (pn : List (Addr × Obj)) (cls : Value) (d : Option Addr), cls = .ref (He.ga X.K y) → Zc cls d oe → (∃ vs, oe.data = .fields vs) →
    ∀ (e : Ent) (N : Ends) (ρ : Rho) (σ : L2.St) (F H : Hp), (∀ q ∈ e.pr, q.1 ∈ P) → SInv (kx X CT) e ρ σ F H → ExcR (kx X CT) F H y fs cls d → H a = none → wpo (mh y (fs.map fun p => (.str p.1, p.2)) ρ) (Post (kx X CT) e Wx N) →
    ∃ ts, PSs (X.suite a ((a, oe) :: pn)) hb ts ∧ ts (endsAs i N) (σ.set i (some (.ref a))) H
theorem sTryF {up : Bool} {kn L : List Str} {body : List Stmt} {m : SM} (i : Nat) {x n : Str} {np pos pos' : Pos} {b₀ : Stmt} {hb : List Stmt} {mh : Str → List (D × D) → SM} (hup : up = true → ∃ W, Wx = some W) (tk : Takes X (wx Wx))
    (hbd : ∀ (W : WX) (pn : List (Addr × Obj)) (xe : Value → Shared → Prop), Takes (X.tr pn xe) W → PassesOwn (model X.prog X.w) X.A X.env xe → NSs (X.tr pn xe) CT P (some W) body m)
    (hN : X.N.Nodup) (hi : X.N[i]? = some n) (hln : X.env.kindOf n = some .local) (hx : Names X x (.ref (He.ga X.K x)))
    (hm : ∀ y ∈ kn, PySem.W.exmOne X.K (.ref (He.ga X.K y)) (.ref (He.ga X.K x)) = some (decide (y ∈ L))) (hH : HdF X CT P Wx i L (b₀ :: hb) mh)
    (hs : X.stack = X.env :: X.outer := by rfl) (hf : X.env.frame = some X.env.locals := by rfl) :
    NS X CT P Wx (.Try body [.ExceptHandler (some (.Name x np)) (some n) (b₀ :: hb) pos'] [] [] pos) (exTryF up kn L m mh) := by
  refine ⟨_, ps_try_as (tb := tBody X body) (ts := tSuite X _) hs hf hN hi hln hx tk (fun W pn xe tk po => tBody_ok W pn xe tk po) (fun a oe cls d pn hz hf => tSuite_ok a oe cls d pn hz hf), ?_⟩
  intro e ρ σ F H N hP s h pn xe tk' po
  obtain ⟨ts, p, si⟩ := hbd _ pn xe tk' po
  refine ⟨ts, p, si e ρ σ F H N hP s ?_⟩
  unfold exTryF at h
  refine (wpo_bind.mp h).mono fun a _ h => ?_
  obtain ⟨fl, ρ1⟩ := a
  cases fl with
  | nx => exact h
  | bk => exact h
  | ct => exact h
  | ret r =>
    refine ⟨fun v σ1 F1 H1 s1 R1 => ?_, fun W' hW y fs er cls d σ1 F1 H1 s1' ex => ?_⟩
    · have hx := rr_noX R1
      try dsimp only at h
      split at h
      · rename_i y z l e1
        cases e1
        cases hx
      · exact h.1 v σ1 F1 H1 s1 R1
    · cases hW
      subst er
      have ecls : cls = .ref (He.ga X.K y) := by obtain ⟨vs, ecls, _⟩ := id ex; exact ecls
      try dsimp only at h
      split at h
      · rename_i hy
        refine ⟨_, ecls ▸ hm y hy, fun hb a na => ?_, fun hb => ?_⟩
        · have hb : y ∈ L := of_decide_eq_true hb
          simp only [if_pos hb] at h
          intro oe pn' hz hoe
          exact hH y fs hb a oe pn' cls d ecls hz hoe e N ρ1 σ1 F1 H1 hP s1' ex na h
        · have hb : ¬ y ∈ L := of_decide_eq_false hb
          simp only [if_neg hb] at h
          split at h
          · rename_i hu
            obtain ⟨W, rfl⟩ := hup hu
            exact h.2 W rfl y fs rfl _ d σ1 F1 H1 s1' ex
          · exact h.elim
      · exact h.elim
end
end Pv
namespace PySem.W
open PySem PySem.Spec PySem.Calls PyProof.Rows L2
section
variable {prog : Program} {w : World} {A : Around} {E : Value → Shared → Prop} {s : Shared} {K : Frag} {x D : Addr} {ox : Obj} {od : Option Obj}
theorem findObj_dataO {C : Addr} {name : Str} {a g : Value} (hc : (clsIn K C).isSome = true) (ha : findIn K (.ref C) name = some (some a)) (hg : specialIn K a "__get__" = some (some g)) (ht : takesIn K a = some true) : findObj K C od name = some (.bind g a) := by
  obtain ⟨cd, hc⟩ := Option.isSome_iff_exists.mp hc
  unfold findObj
  rw [hc, Option.bind_some, ha, Option.bind_some]
  cases od <;> simp [hg, ht]
theorem class_of_exc {Q : Option Value → Shared → Prop} (X : K.In s.heap) (T : ExcC K D) (I : InstAt s.heap x ox D od) (h : Q (some (.ref D)) { s with toks := s.toks + 1 }) : wpAny (model prog w) A (getAttr? (.ref x) "__class__") Q E s := by
  obtain ⟨hga, hgt, hsub, hdct, ha, hn, htk, hm⟩ := T
  have hf : findObj K D od "__class__" = some (.bind (.builtin "getset_descriptor.__get__") (.builtin "object.__class__")) := findObj_dataO (by obtain ⟨cd, hc, _⟩ := any_some hdct; rw [hc]; rfl) ha hn htk
  obtain ⟨hp, g, d, t, os⟩ := s
  have L0 := I.type (M := model prog w)
  have L1 := looks_findIn (M := model prog w) X hga
  have L2 := looks_findIn (M := model prog w) X hgt
  have L3 := looks_find (M := model prog w) X I hf
  have sub : Looks (model prog w) hp (isInstance (.ref x) (.type "BaseException")) true := L0.andThen (looks_subIn X hsub)
  have hx0 : (false && onTheHeap (Value.builtin "BaseException.__getattribute__")) = false := rfl
  have hx2 : (Value.builtin "BaseException.__getattribute__" == Value.builtin "object.__getattribute__") = false := by decide +kernel
  have hx1 : (onTheHeap (Value.ref D) && Value.builtin "BaseException.__getattribute__" == Value.builtin "object.__getattribute__") = false := by rw [hx2]; rfl
  unfold getAttr? getAttrBy? getAttrBy
  refine wpAny_bind (wpAny_mkText (wpAny_bind (wpAny_attempt (wpAny_holding (wpAny_bind (L0.at (wpAny_bind (L1.at ?_))))))))
  show wpAny _ _ (if (onTheHeap (Value.ref D) && Value.builtin "BaseException.__getattribute__" == Value.builtin "object.__getattribute__") = true then _ else _) _ _ _
  rw [hx1, if_neg Bool.false_ne_true]
  unfold getAttrByItsOwn hookBefore
  refine wpAny_bind ?_
  rw [if_pos (show onTheHeap (Value.ref D) = true from rfl)]
  refine L2.at ?_
  refine wpAny_bind (wpAny_attempt (wpAny_holding ?_))
  unfold callGetattribute
  rw [hx0, if_neg Bool.false_ne_true]
  unfold boundAndCalled
  rw [PySem.F.excAttr_ValueError.ga.bind (.ref x)]
  refine wpAny_bind (wpAny_pure ?_)
  show wpAny _ _ (call (.builtin "BaseException.__getattribute__") [.ref x, .str "__class__" t]) _ _ _
  refine wpAny_call (codeAny_call_builtin PySem.F.excAttr_ValueError.ga.plain PySem.F.entry_bexc_ga ?_)
  refine @check_slot (model prog w) _ _ ⟨hp, g, d, t + 1, os⟩ "BaseException.__getattribute__" "BaseException" "__getattribute__" (.ref x) [.str "__class__" t] [] _ (by decide +kernel) (by decide +kernel) sub (PySem.F.args_bexc_ga (.ref x) (.str "__class__" t)) ?_
  unfold Builtin.«object.__getattribute__»
  refine wpAny_bind (wpAny_of_eq (a := ((Value.ref x : Value), [Value.str "__class__" t])) (by first | rfl | (simp only [slotArgs]; rfl)) ?_)
  refine wpAny_bind (wpAny_pure (wpAny_bind (L0.at (wpAny_bind (L3.at ?_)))))
  show wpAny _ _ (holding [Value.builtin "object.__class__"] (call (.builtin "getset_descriptor.__get__") [.builtin "object.__class__", .ref x, .ref D]) >>= ret) _ _ _
  refine wpAny_bind (wpAny_holding (wpAny_call (class_get (s := ⟨hp, g, d, t + 1, os⟩) (ox := ox) (od := od) X I hm ?_)))
  refine wpAny_pure ?_
  show wpAny _ _ (handedOut (.ref D)) _ _ _
  rw [handedOut_of (v := .ref D) rfl]
  first
    | exact wpAny_pure (wpAny_pure h)
    | exact wpAny_pure h
    | exact wpAny_pure (wpAny_bind (wpAny_pure (wpAny_pure h)))
theorem kitx_exc (T : ExcC K D) : KitX K (.ref x) (.ref D) (fun h => InstAt h x ox D od) where
  ty := fun _ _ _ I => I.type
  it := fun _ _ X _ => by
    obtain ⟨cdD, hcD, _⟩ := any_some T.hd
    unfold clsIn at hcD
    split at hcD
    · rename_i c' d' cd' sl' ho
      intro A' Q' E' s' k q
      unfold isType loadHead
      exact wpAny_bind (wpAny_loadPart (k _ _ (X _ _ ho)) (wpAny_pure q))
    · cases hcD
  ne := fun h tp dd its n sl X htp => by
    obtain ⟨cdD, hcD, _⟩ := any_some T.hd
    refine Bool.eq_false_iff.mpr fun q => ?_
    have e : D = tp := Value.ref.inj (beq_iff_eq.mp q)
    subst e
    unfold clsIn at hcD
    split at hcD
    · rename_i c' d' cd' sl' ho
      have z := (X _ _ ho).symm.trans htp
      cases z
    · cases hcD
  ca := fun X I k => class_of_exc X T I k
end
end PySem.W
namespace Pv
open PySem PySem.Spec PySem.SeqAt L2 PyProof.Rows
def rIsF (K : PySem.W.Frag) (D a dd : Addr) : List V → Hp → VK → Prop := fun xs H Q => (∃ fs, H dd = some (.xd fs)) ∧ ∃ (c : V) (cv : Value) (b : Bool), xs = [.ref a, c] ∧ (∀ u, RelV c u → u = cv) ∧ PySem.W.kitOne K (.ref D) cv = some b ∧ Q (.bl b) H
theorem call_isF {X : Cx} {a D dd : Addr} {oe : Obj} {pn : List (Addr × Obj)} (C : ExcC X.K D) (hz : Zc (.ref D) (some dd) oe) (hf : ∃ vs, oe.data = .fields vs) : CallR (X.suite a ((a, oe) :: pn)) (.builtin "isinstance") (rIsF X.K D a dd) := by
  intro pins s σ H xs us Q I r h
  obtain ⟨⟨fs, ed⟩, c, cv, b, rfl, hcv, e, q⟩ := h
  cases r with
  | cons rx rr =>
    cases rr with
    | cons rt rr =>
      cases rr
      cases rx
      have ec := hcv _ rt
      subst ec
      obtain ⟨hget, _⟩ := I.pin (a, oe) (List.mem_append.mpr (.inl List.mem_cons_self))
      obtain ⟨vs, hv⟩ := hf
      have hx : ObjOk X.prog X.w H s.heap dd (.xd fs) := I.hok dd _ ed
      obtain ⟨mA, hns, _⟩ := hx
      obtain ⟨od, ho, _⟩ := lookIn_ns hns
      have J : PySem.W.InstAt s.heap a oe D (some od) := ⟨hget, hz.1, by unfold PySem.W.notCls; rw [hv] <;> rfl, by rw [hz.2]; exact ho⟩
      exact PySem.W.kia_one (PySem.W.kitx_exc C) I.kIn J e (fun z => nomatch z) fun tk => ⟨.bl b, H, I.kept (t' := tk) fun _ _ z => z, rfl, q⟩
section
variable {X : Cx} {CT : CTab} {P : List Nat} {Wx : Option WX} {W : WX}
end
end Pv

/-! PxA: defs that change their last argument. -/
namespace Pv
open PySem PySem.Spec PySem.SeqAt L2
section
variable {k : Kx} {F H : Hp}
end
section
variable {P : Program} {w : World} {K : PySem.W.Frag} {mg : Str → Option Value} {base : Heap} {x qual : Str} {params : Arguments} {body : List Stmt} {scope : Scope} {f : Addr} {fd : FuncData}
end
section
variable {k : Kx} {F : Hp} {ρ : Rho} {σ : L2.St} {H : Hp}
theorem RRs.snoc : ∀ {rs : List Rv} {r : Rv} {H0 : Hp} {vs : List V}, RRs k F ρ σ H H0 (rs ++ [r]) vs → ∃ ws v Hn, vs = ws ++ [v] ∧ RRs k F ρ σ H H0 rs ws ∧ (∀ p, H0 p ≠ none → Hn p ≠ none) ∧ RR k Hn F ρ σ H r v
  | [], r, H0, _, .cons a b c d => by
    cases b
    exact ⟨[], _, H0, rfl, .nil, fun _ h => h, a⟩
  | r0 :: rs, r, H0, _, .cons a b c d => by
    obtain ⟨ws, v, Hn, rfl, h1, h2, h3⟩ := RRs.snoc b
    exact ⟨_ :: ws, v, Hn, rfl, .cons a h1 c d, fun p h => h2 p (c p h), h3⟩
end
section
variable {X : Cx} {CT : CTab} {x : Str} {p pos : Pos} {e : Expr} {es : List Expr} {f : Addr} {np j : Nat} {cm : CM} {mr : AM}
end
/-! a or b of tuples -/
end Pv

/-! PxB: sorted(d), d a dict with tuple keys -/
namespace Pv
open PySem PySem.Spec PySem.SeqAt PySem.Calls PyProof.Rows L2
end Pv
/-! name = {k: v for ..} on one line, the name a local -/
namespace Pv
open PySem PySem.Spec PySem.SeqAt PySem.Calls PyProof.Rows L2
end Pv
namespace Pv
open PySem PySem.Spec PySem.SeqAt L2
end Pv

/-! PxC: items of two lists set at once -/
namespace Pv
open PySem PySem.Spec PySem.SeqAt L2
section
variable {X : Cx} {CT : CTab} {P : List Nat} {Wx : Option WX} {a b e : Expr} {m1 m2 me : EM}
end
end Pv

/-! PxD: sorted(set(list of tuples of ints)), of one length -/
namespace Pv
open PySem PySem.Spec PySem.SeqAt L2
section
variable {X : Cx} {CT : CTab} {pos p : Pos} {e : Expr} {mr : AM}
end
end Pv

/-! PxE: str(int) -/
namespace Pv
open PySem PySem.Spec PySem.SeqAt L2
def rStrI : List V → Hp → VK → Prop := fun xs H Q => ∃ i : Int, xs = [.int i] ∧ i.natAbs.log2 < 1920 ∧ Q (.str (toString i)) H
theorem call_strI {X : Cx} : CallR X (.type "str") rStrI := by
  intro pins s σ H xs us Q I r h
  obtain ⟨i, rfl, hz, q⟩ := h
  obtain ⟨u, rfl, t, rfl⟩ := vals1 r
  exact PySem.P.str_of_int hz ⟨.str _, H, I.tok _, ⟨_, rfl⟩, q⟩
def gStrI : List D → Option SV
  | [.int i] => if Nat.ble i.natAbs 4611686018427387904 = true then some (.val (.str (toString i))) else none
  | _ => none
theorem log_few {n : Nat} (h : Nat.ble n 4611686018427387904 = true) : n.log2 < 1920 := by
  have h := Nat.le_of_ble_eq_true h
  by_cases z : n = 0
  · subst z; decide
  · refine Nat.lt_of_lt_of_le ((Nat.log2_lt z).mpr (Nat.lt_of_le_of_lt h (show 4611686018427387904 < 2 ^ 63 by decide))) (by decide)
theorem simStrI {k : Kx} : CallSim k rStrI gStrI := by
  intro F ρ σ H vs ds Q f rd h
  unfold gStrI at h
  split at h
  · obtain ⟨v, rfl, r⟩ := rd.one
    rw [r.int]
    split at h
    · rename_i c
      exact ⟨_, rfl, log_few c, h _ F H (Aft.refl f) (.str _)⟩
    · exact h.elim
  · exact h.elim
theorem uStrI {X : Cx} {CT : CTab} : Blt X CT (.type "str") gStrI := ⟨_, call_strI, simStrI⟩
end Pv

/-! PxF: C(..) that may raise -/
namespace Pv
open PySem PySem.Spec PySem.SeqAt L2
section
variable {X : Cx} {CX : CXT} {k : Nat} {f C : Addr} {fd : FuncData} {ps : List Str} {sp : Sp} {E : St → XK} {x : Str} {p pos : Pos} {e : Expr} {es : List Expr} {t : TA}
end
end Pv

/-! PxG: the module's run in two parts. -/
namespace Pv
open PySem PySem.Spec PySem.SeqAt L2
end Pv

/-! PxH: == of two instances of one class by its own __eq__. -/
namespace Pv
open PySem PySem.Spec PySem.SeqAt L2
end Pv

/-! PxI: dict comprehensions whose keys are ints. -/
namespace Pv
open PySem PySem.Spec PySem.SeqAt L2
abbrev KD := List (List Int) × List D
structure CID (k : Kx) (e : Ent) (ρ0 ρ : Rho) (σ : L2.St) (F H : Hp) (T : Addr) (acc : List V) (a : KD) : Prop where
  s : SInv k e ρ σ F H
  ow : ∀ p, Own ρ σ p → Own ρ0 σ p
  sl : ∀ (i : Nat) (x : SV), ρ0[i]? = some (some x) → ∃ x', ρ[i]? = some (some x')
  hT : H T = some (.dK ((a.1.map iKey).zip acc))
  fT : F T = none
  one : ∀ y ∈ a.1, y.length = 1
  len : a.1.length = acc.length
  r : RepL k F acc a.2
theorem CID.aft {k : Kx} {e : Ent} {ρ0 ρ ρ' : Rho} {σ : L2.St} {F H F' H' : Hp} {T : Addr} {acc : List V} {a : KD} (c : CID k e ρ0 ρ σ F H T acc a) (nO : ¬ Own ρ0 σ T) (A : Aft k ρ σ F H ρ' F' H') : CID k e ρ0 ρ' σ F' H' T acc a :=
  ⟨c.s.aft A, fun p z => c.ow p (A.ow p z), fun i x q => let ⟨x', q'⟩ := c.sl i x q; A.sl i x' q', A.tr.keep T _ c.hT fun z => nO (c.ow T z), A.tr.new T _ c.hT trivial c.fT fun z => nO (c.ow T z), c.one, c.len, c.r.mono A.tr.sub⟩
section
variable {X : Cx} {CT : CTab} {ts : List Nat} {tg it ke vx : Expr} {mi : IM} {mg : GM} {mt : TM} {mk mv : EM} {pos : Pos}
end
end Pv

/-! PxJ: dict(l) of a list of pairs; what raises, indexed or cut. -/
namespace Pv
open PySem PySem.Spec PySem.SeqAt PyProof.Rows L2
/-! len(set(xs)), xs a list of ints -/
section
variable {X : Cx} {CT : CTab} {a : Expr} {ma : EM} {p p2 q pos : Pos}
end
section
variable {X : Cx} {CT : CTab} {W : WX} {a b : Expr} {ma mb : EM} {pos : Pos}
end
end Pv
namespace Pv
open PySem PySem.Spec PySem.SeqAt L2
section
variable {X : Cx} {CT : CTab} {ts : List Nat} {tg : Expr} {mg : GM} {mt : TM} {me : EM} {pos p : Pos} {x : Str} {e : Expr} {P : List Nat} {Wx : Option WX}
end
end Pv

/-! PxK: a + b where both may raise; (raising,). -/
namespace Pv
open PySem PySem.Spec PySem.SeqAt L2
section
variable {X : Cx} {CT : CTab} {W : WX} {a b : Expr} {ma mb : EM} {pos : Pos}
end
section
variable {X : Cx} {CT : CTab} {P : List Nat} {Wx : Option WX}
end
end Pv

/-! Tv1: typed readings of the pure functions: encoders, judgments, expressions. -/
namespace Tv
open PySem Pv
abbrev PT (α : Type) := (α → Prop) → Prop
abbrev eI : Int → D := PyData.int
abbrev eB : Bool → D := PyData.bool
abbrev eS : Str → D := PyData.str
def eU : Unit → D := fun _ => .none
def eT {α : Type} (e : α → D) (l : List α) : D := .tuple (l.map e)
def eL {α : Type} (e : α → D) (l : List α) : D := .list (l.map e)
def eP {α β : Type} (e : α → D) (f : β → D) (p : α × β) : D := .tuple [e p.1, f p.2]
def eQ {α β γ : Type} (e : α → D) (f : β → D) (g : γ → D) (p : α × β × γ) : D := .tuple [e p.1, f p.2.1, g p.2.2]
def eO {α : Type} (e : α → D) : Option α → D
  | none => .none
  | some a => e a
abbrev vV {α : Type} (e : α → D) : α → SV := fun a => .val (e a)
abbrev vL {α : Type} (e : α → D) : List α → SV := fun l => .own (.lst (l.map e))

section
variable {ω X Y α β γ δ σ : Type} {R R1 R2 R3 : ω → Rho}
def W (m : Rho → Option (X × Rho)) (R : ω → Rho) (k : α → X) (T : PT α) (R' : ω → Rho) : Prop := ∀ w Q, T Q → ∃ a w', Q a ∧ m (R w) = some (k a, R' w')
abbrev WE (m : EM) (R : ω → Rho) (k : α → Rv) (T : PT α) (R' : ω → Rho) : Prop := W m R k T R'
abbrev ret (x : α) : PT α := fun Q => Q x

/-! names, constants -/
theorem wVar (i : Nat) (e : α → D) (x : α) (h : ∀ w, (R w)[i]? = some (some (.val (e x))) := by intro _; rfl) : WE (evVar i) R (fun a => .sv (.val (e a))) (fun Q => Q x) R := fun w Q q => ⟨x, w, q, by simp only [evVar, h w]⟩
theorem wPlc (i : Nat) (o : OB) (h : ∀ w, (R w)[i]? = some (some (.own o)) := by intro _; rfl) : WE (evVar i) R (fun _ : Unit => .plc i) (fun Q => Q ()) R := fun w Q q => ⟨(), w, q, by simp only [evVar, h w]⟩
theorem wC (e : α → D) (x : α) : WE (evC (e x)) R (fun a => .sv (.val (e a))) (fun Q => Q x) R := fun w Q q => ⟨x, w, q, rfl⟩
theorem wInt (x : Int) : WE (evC (.int x)) R (fun a => .sv (.val (eI a))) (fun Q => Q x) R := wC eI x
theorem wBl (x : Bool) : WE (evC (.bool x)) R (fun a => .sv (.val (eB a))) (fun Q => Q x) R := wC eB x
theorem wStr (x : Str) : WE (evC (.str x)) R (fun a => .sv (.val (eS a))) (fun Q => Q x) R := wC eS x
theorem wNon : WE (evC .none) R (fun a => .sv (.val (eU a))) (fun Q => Q ()) R := wC eU ()
theorem wSome {m : EM} {e : α → D} {T : PT α} (h : WE m R (fun a => .sv (.val (e a))) T R1) : WE m R (fun a => .sv (.val (eO e a))) (fun Q => T fun a => Q (some a)) R1 := fun w Q q => by
  obtain ⟨a, w', h1, h2⟩ := h w _ q
  exact ⟨some a, w', h1, h2⟩
theorem wNone {m : EM} {e : α → D} {T : PT Unit} (h : WE m R (fun a => .sv (.val (eU a))) T R1) : WE m R (fun a => .sv (.val (eO e a))) (fun Q => T fun _ => Q none) R1 := fun w Q q => by
  obtain ⟨a, w', h1, h2⟩ := h w _ q
  exact ⟨none, w', h1, h2⟩

/-! operators -/
def Op1 (g : D → Option SV) (x : D) (s : γ → SV) (T : PT γ) : Prop := ∀ Q, T Q → ∃ c, Q c ∧ g x = some (s c)
def Op2 (g : D → D → Option SV) (x y : D) (s : γ → SV) (T : PT γ) : Prop := ∀ Q, T Q → ∃ c, Q c ∧ g x y = some (s c)
def OpN (g : List D → Option SV) (xs : List D) (s : γ → SV) (T : PT γ) : Prop := ∀ Q, T Q → ∃ c, Q c ∧ g xs = some (s c)
variable {ma mb mc : EM} {ra : α → Rv} {rb : β → Rv} {rc : γ → Rv} {Ta : PT α} {Tb : PT β} {Tc : PT γ}
theorem wBin {g : D → D → Option SV} {s : γ → SV} {d1 : α → D} {d2 : β → D} {top : α → β → PT γ} (ha : WE ma R ra Ta R1) (hb : WE mb R1 rb Tb R2) (ho : ∀ a b, Op2 g (d1 a) (d2 b) s (top a b)) (h1 : ∀ w a, rdD (R2 w) (ra a) = some (d1 a) := by intro _ _; rfl) (h2 : ∀ w b, rdD (R2 w) (rb b) = some (d2 b) := by intro _ _; rfl) :
    WE (evBin g ma mb) R (fun c => .sv (s c)) (fun Q => Ta fun a => Tb fun b => top a b Q) R2 := fun w Q q => by
  obtain ⟨a, w1, q1, e1⟩ := ha w _ q
  obtain ⟨b, w2, q2, e2⟩ := hb w1 _ q1
  obtain ⟨c, q3, e3⟩ := ho a b _ q2
  exact ⟨c, w2, q3, by simp only [evBin, e1, e2, h1, h2, e3, Option.bind_some]⟩
theorem wUn {g : D → Option SV} {s : γ → SV} {d1 : α → D} {top : α → PT γ} (ha : WE ma R ra Ta R1) (ho : ∀ a, Op1 g (d1 a) s (top a)) (h1 : ∀ w a, rdD (R1 w) (ra a) = some (d1 a) := by intro _ _; rfl) : WE (evUn g ma) R (fun c => .sv (s c)) (fun Q => Ta fun a => top a Q) R1 := fun w Q q => by
  obtain ⟨a, w1, q1, e1⟩ := ha w _ q
  obtain ⟨c, q3, e3⟩ := ho a _ q1
  exact ⟨c, w1, q3, by simp only [evUn, e1, h1, e3, Option.bind_some]⟩
/-! arguments -/
variable {mr : AM} {rr : β → List Rv} {Tr : PT β}
theorem wNil : W evNil R (fun _ : Unit => ([] : List Rv)) (fun Q => Q ()) R := fun w Q q => ⟨(), w, q, rfl⟩
theorem wCons (ha : WE ma R ra Ta R1) (hr : W mr R1 rr Tr R2) : W (evCons ma mr) R (fun p : α × β => ra p.1 :: rr p.2) (fun Q => Ta fun a => Tr fun b => Q (a, b)) R2 := fun w Q q => by
  obtain ⟨a, w1, q1, e1⟩ := ha w _ q
  obtain ⟨b, w2, q2, e2⟩ := hr w1 _ q1
  exact ⟨(a, b), w2, q2, by simp only [evCons, e1, e2, Option.bind_some]⟩
variable {ms : AM} {rs : α → List Rv} {Ts : PT α}
theorem wCall {g : List D → Option SV} {s : γ → SV} {ds : α → List D} {top : α → PT γ} (ha : W ms R rs Ts R1) (ho : ∀ a, OpN g (ds a) s (top a)) (h1 : ∀ w a, rdAll (R1 w) (rs a) = some (ds a) := by intro _ _; rfl) :
    WE (evCall g ms) R (fun c => .sv (s c)) (fun Q => Ts fun a => top a Q) R1 := fun w Q q => by
  obtain ⟨a, w1, q1, e1⟩ := ha w _ q
  obtain ⟨c, q3, e3⟩ := ho a _ q1
  exact ⟨c, w1, q3, by simp only [evCall, e1, h1, e3, Option.bind_some]⟩
theorem wTup {e : γ → D} {f : α → γ} {ds : α → List D} (ha : W ms R rs Ts R1) (he : ∀ a, e (f a) = .tuple (ds a)) (h1 : ∀ w a, frzs (R1 w) (rs a) = some (ds a, R2 w) := by intro _ _; rfl) (hl : ∀ a, (ds a).length ≤ sizeLine := by intro _; (try simp only [List.map_cons, List.map_nil, List.length_cons, List.length_nil]); decide) :
    WE (evTup ms) R (fun c => .sv (.val (e c))) (fun Q => Ts fun a => Q (f a)) R2 := fun w Q q => by
  obtain ⟨a, w1, q1, e1⟩ := ha w _ q
  exact ⟨f a, w1, q1, by simp only [evTup, e1, h1, Option.bind_some, if_pos (hl a), he]⟩
theorem wLst {e : γ → D} {f : α → List γ} {ds : α → List D} (ha : W ms R rs Ts R1) (he : ∀ a, (f a).map e = ds a := by intro _; rfl) (h1 : ∀ w a, frzs (R1 w) (rs a) = some (ds a, R2 w) := by intro _ _; rfl) (hl : ∀ a, (ds a).length ≤ sizeLine := by intro _; (try simp only [List.map_cons, List.map_nil, List.length_cons, List.length_nil]); decide) :
    WE (evLst ms) R (fun c => .sv (.own (.lst (c.map e)))) (fun Q => Ts fun a => Q (f a)) R2 := fun w Q q => by
  obtain ⟨a, w1, q1, e1⟩ := ha w _ q
  exact ⟨f a, w1, q1, by simp only [evLst, e1, h1, Option.bind_some, if_pos (hl a), he]⟩
/-! tests -/
theorem wTb {Tb : PT Bool} (ha : WE ma R (fun a => .sv (.val (eB a))) Tb R1) : W (tvB ma) R (fun b : Bool => b) Tb R1 := fun w Q q => by
  obtain ⟨a, w1, q1, e1⟩ := ha w _ q
  exact ⟨a, w1, q1, by simp [tvB, e1, rdD, toB, SV.d, eB]⟩
theorem wYes : W tvYes R (fun b : Bool => b) (fun Q => Q true) R := fun w Q q => ⟨true, w, q, rfl⟩
variable {mt mu : TM} {Tt Tu : PT Bool}
theorem wTNot (h : W mt R (fun b : Bool => b) Tt R1) : W (tvNot mt) R (fun b : Bool => b) (fun Q => Tt fun b => Q (!b)) R1 := fun w Q q => by
  obtain ⟨a, w1, q1, e1⟩ := h w _ q
  exact ⟨!a, w1, q1, by simp only [tvNot, e1, Option.bind_some]⟩
def andW (Ta Tb : PT Bool) : PT Bool := fun Q => Ta fun a => if a = true then Tb Q else Q false
def orW (Ta Tb : PT Bool) : PT Bool := fun Q => Ta fun a => if a = true then Q true else Tb Q
theorem wTOr (h : W mt R (fun b : Bool => b) Tt R1) (h2 : W mu R1 (fun b : Bool => b) Tu R1) : W (tvOr mt mu) R (fun b : Bool => b) (orW Tt Tu) R1 := fun w Q q => by
  obtain ⟨a, w1, q1, e1⟩ := h w _ q
  cases a with
  | false =>
    rw [if_neg (by decide)] at q1
    obtain ⟨b, w2, q2, e2⟩ := h2 w1 _ q1
    exact ⟨b, w2, q2, by simp only [tvOr, e1, e2, Option.bind_some]; rfl⟩
  | true =>
    rw [if_pos rfl] at q1
    exact ⟨true, w1, q1, by simp only [tvOr, e1, Option.bind_some]; rfl⟩
theorem wAnd {Tu : PT Bool} (h : WE ma R (fun a => .sv (.val (eB a))) Tt R1) (h2 : WE mb R1 (fun a => .sv (.val (eB a))) Tu R1) : WE (evAnd ma mb) R (fun a => .sv (.val (eB a))) (andW Tt Tu) R1 := fun w Q q => by
  obtain ⟨a, w1, q1, e1⟩ := wTb h w _ q
  cases a with
  | true =>
    rw [if_pos rfl] at q1
    obtain ⟨b, w2, q2, e2⟩ := h2 w1 _ q1
    exact ⟨b, w2, q2, by simp only [evAnd, e1, e2, Option.bind_some, if_true]⟩
  | false =>
    rw [if_neg (by decide)] at q1
    exact ⟨false, w1, q1, by simp only [evAnd, e1, Option.bind_some]; rfl⟩
theorem wOr {Tu : PT Bool} (h : WE ma R (fun a => .sv (.val (eB a))) Tt R1) (h2 : WE mb R1 (fun a => .sv (.val (eB a))) Tu R1) : WE (evOr ma mb) R (fun a => .sv (.val (eB a))) (orW Tt Tu) R1 := fun w Q q => by
  obtain ⟨a, w1, q1, e1⟩ := wTb h w _ q
  cases a with
  | false =>
    rw [if_neg (by decide)] at q1
    obtain ⟨b, w2, q2, e2⟩ := h2 w1 _ q1
    exact ⟨b, w2, q2, by simp only [evOr, e1, e2, Option.bind_some]; rfl⟩
  | true =>
    rw [if_pos rfl] at q1
    exact ⟨true, w1, q1, by simp only [evOr, e1, Option.bind_some]; rfl⟩
theorem wNot {Tb : PT Bool} (ha : WE ma R (fun a => .sv (.val (eB a))) Tb R1) : WE (evNot ma) R (fun a => .sv (.val (eB a))) (fun Q => Tb fun a => Q (!a)) R1 := fun w Q q => by
  obtain ⟨a, w1, q1, e1⟩ := wTb ha w (fun b => Q (!b)) q
  exact ⟨!a, w1, q1, by simp only [evNot, e1, Option.bind_some]⟩
theorem wIf {k : γ → Rv} {Ta Tb : PT γ} (h : W mt R (fun b : Bool => b) Tt R1) (ha : WE ma R1 k Ta R2) (hb : WE mb R1 k Tb R2) : WE (evIf mt ma mb) R k (fun Q => Tt fun b => if b = true then Ta Q else Tb Q) R2 := fun w Q q => by
  obtain ⟨a, w1, q1, e1⟩ := h w _ q
  cases a with
  | true =>
    rw [if_pos rfl] at q1
    obtain ⟨b, w2, q2, e2⟩ := ha w1 _ q1
    exact ⟨b, w2, q2, by simp only [evIf, e1, e2, Option.bind_some, if_true]⟩
  | false =>
    rw [if_neg (by decide)] at q1
    obtain ⟨b, w2, q2, e2⟩ := hb w1 _ q1
    exact ⟨b, w2, q2, by simp only [evIf, e1, e2, Option.bind_some]; rfl⟩
/-! the same, the test known -/
theorem wIsi {ts : List TR} {t : TR} {b : Bool} {d1 : α → D} (ha : WE ma R ra Ta R1) (h1 : ∀ w a, rdD (R1 w) (ra a) = some (d1 a) := by intro _ _; rfl) (h2 : ∀ a, tyD (d1 a) = some t := by intro _; rfl) (h3 : isiAny t ts = some b := by decide) : WE (evIsi ts ma) R (fun a => .sv (.val (eB a))) (fun Q => Ta fun _ => Q b) R1 := fun w Q q => by
  obtain ⟨a, w1, q1, e1⟩ := ha w _ q
  exact ⟨b, w1, q1, by simp only [evIsi, e1, h1, h2, h3, Option.bind_some]⟩
theorem wChain {g g' : D → D → Option SV} {d1 : α → D} {d2 : β → D} {d3 : γ → D} {top : α → β → PT Bool} {top' : β → γ → PT Bool} (ha : WE ma R ra Ta R1) (hb : WE mb R1 rb Tb R2) (hc : WE mc R2 rc Tc R2) (ho : ∀ a b, Op2 g (d1 a) (d2 b) (vV eB) (top a b)) (ho' : ∀ b c, Op2 g' (d2 b) (d3 c) (vV eB) (top' b c))
    (h1 : ∀ w a, rdD (R2 w) (ra a) = some (d1 a) := by intro _ _; rfl) (h2 : ∀ w b, rdD (R2 w) (rb b) = some (d2 b) := by intro _ _; rfl) (h3 : ∀ w b, rdD (R2 w) (rc b) = some (d3 b) := by intro _ _; rfl) :
    WE (evChain g g' ma mb mc) R (fun a => .sv (.val (eB a))) (fun Q => Ta fun a => Tb fun b => top a b fun t => if t = true then Tc fun c => top' b c Q else Q false) R2 := fun w Q q => by
  obtain ⟨a, w1, q1, e1⟩ := ha w _ q
  obtain ⟨b, w2, q2, e2⟩ := hb w1 _ q1
  obtain ⟨t, q3, e3⟩ := ho a b _ q2
  cases t with
  | true =>
    rw [if_pos rfl] at q3
    obtain ⟨c, w3, q4, e4⟩ := hc w2 _ q3
    obtain ⟨u, q5, e5⟩ := ho' b c _ q4
    exact ⟨u, w3, q5, by simp [evChain, e1, e2, h1, h2, e3, e4, h3, e5, SV.d, toB, eB]⟩
  | false =>
    rw [if_neg (by decide)] at q3
    exact ⟨false, w2, q3, by simp [evChain, e1, e2, h1, h2, e3, SV.d, toB, eB]⟩
end
end Tv

/-! Tv2: calls, walks, comprehensions, statements, defs. -/
namespace Pv
open PySem PySem.Spec PySem.SeqAt L2
def fz1 (i : Nat) (ρ : Rho) : Rho := match ρ[i]? with
  | some (some (.own o)) => ρ.set i (some (.val o.d))
  | _ => ρ
def fzs : List Nat → Rho → Rho
  | [], ρ => ρ
  | i :: is, ρ => fzs is (fz1 i ρ)
theorem SInv.fz1 {k : Kx} {e : Ent} {ρ : Rho} {σ : L2.St} {F H : Hp} (s : SInv k e ρ σ F H) (i : Nat) : ∃ F', SInv k e (fz1 i ρ) σ F' H := by
  unfold Pv.fz1
  split
  · rename_i o h
    obtain ⟨p, ho, h1, _⟩ := s.fr.owns i o h
    obtain ⟨F1, A1, _⟩ := frz1_ok s.fr (Aft.refl s.fr) (r := .plc i) (v := .ref p) ⟨h1, _, h⟩ (show frz1 ρ (.plc i) = some (o.d, ρ.set i (some (.val o.d))) by simp [frz1, h])
    exact ⟨F1, s.aft A1⟩
  · exact ⟨F, s⟩
theorem SInv.fzs {k : Kx} {e : Ent} {σ : L2.St} {H : Hp} : ∀ (is : List Nat) {ρ : Rho} {F : Hp}, SInv k e ρ σ F H → ∃ F', SInv k e (fzs is ρ) σ F' H
  | [], _, F, s => ⟨F, s⟩
  | i :: is, _, _, s => by
    obtain ⟨F1, s1⟩ := s.fz1 i
    exact SInv.fzs is s1
def pre (p : List Nat × List Nat) (ρ : Rho) : Rho := fzs p.2 (kill p.1 ρ)
def exPre (p : List Nat × List Nat) (m : SM) : SM := fun ρ => m (pre p ρ)
theorem simPre {k : Kx} {P : List Nat} {Wx : Option WX} {t : TS} {m : SM} (p : List Nat × List Nat) (hm : SimS k P Wx t m) : SimS k P Wx t (exPre p m) := fun e ρ σ F H D hP s h => by
  obtain ⟨F', s'⟩ := SInv.fzs p.2 (s.kill p.1)
  exact hm e (pre p ρ) σ F' H D hP s' h
theorem sPre {X : Cx} {CT : CTab} {P : List Nat} {Wx : Option WX} {st : Stmt} {m : SM} (p : List Nat × List Nat) : NS X CT P Wx st m → NS X CT P Wx st (exPre p m) := fun ⟨_, h, s⟩ => ⟨_, h, simPre p s⟩
end Pv
namespace Tv
open PySem Pv
section
variable {ω X Y α β γ δ σ : Type} {R R1 R2 R3 : ω → Rho} {ma mb mc me : EM} {ms : AM} {rs : α → List Rv} {Ts : PT α}
/-! ### defs -/
def endB (io : Bool) (x : Fl × Rho) : Option (SV × SV) := match x.1 with
  | .nx => (out0 io x.2).bind fun o => some (.val .none, o)
  | .ret r => (retS io x.2 r).bind fun b => (out0 io b.2).bind fun o => some (b.1, o)
  | _ => none
def CW (c : CM) (args : List SV) (s : γ → SV) (T : PT γ) : Prop := ∀ Q, T Q → ∃ a o, Q a ∧ c args = some (s a, o)
def CR (c : CM) (row : ω → SV) (args : List SV) (s : γ → SV) (T : PT γ) : Prop := ∀ w Q, T Q → ∃ a w', Q a ∧ c (row w :: args) = some (s a, row w')
theorem wCallV {c : CM} {np : Nat} {s : γ → SV} {ss : α → List SV} {t : α → PT γ} (ha : W ms R rs Ts R1) (hc : ∀ a, CW c (ss a) s (t a)) (hp : ∀ w a, passB (R1 w) (rs a) = some (ss a) := by intro _ _; rfl) (hf : ∀ w a, frAll (R1 w) (rs a) = R1 w := by intro _ _; rfl) (hl : ∀ a, (ss a).length = np := by intro _; rfl) :
    WE (evCallL np c ms) R (fun x => .sv (s x)) (fun Q => Ts fun a => t a Q) R1 := fun w Q q => by
  obtain ⟨a, w1, q1, e1⟩ := ha w _ q
  obtain ⟨x, o, q2, e2⟩ := hc a _ q1
  exact ⟨x, w1, q2, by simp only [evCallL, e1, hp, hf, hl, e2, Option.bind_some, if_true, ite_self]⟩
theorem wCallI {c : CM} {np j : Nat} {s : γ → SV} {rs : α → List Rv} {ss : α → List SV} {t : α → PT γ} {row : ω → OB} (ha : W ms R (fun a => Rv.plc j :: rs a) Ts R1) (hc : ∀ a, CR c (fun w => .own (row w)) (ss a) s (t a)) (hj : ∀ w, (R1 w)[j]? = some (some (.own (row w))) := by intro _; rfl) (hq : ∀ a, j ∉ plcs (rs a) := by intro _; simp [plcs])
    (hp : ∀ w a, passB (R1 w) (rs a) = some (ss a) := by intro _ _; rfl) (hf : ∀ w a, frAll (R1 w) (rs a) = R1 w := by intro _ _; rfl) (hl : ∀ a, (ss a).length + 1 = np := by intro _; rfl) (hs : ∀ w w', (R1 w).set j (some (.own (row w'))) = R1 w' := by intro _ _; rfl) :
    WE (evCallI np c ms) R (fun x => .sv (s x)) (fun Q => Ts fun a => t a Q) R1 := fun w Q q => by
  obtain ⟨a, w1, q1, e1⟩ := ha w _ q
  obtain ⟨x, w2, q2, e2⟩ := hc a w1 _ q1
  exact ⟨x, w2, q2, by simp only [evCallI, e1, hj, hq, hp, hf, hl, e2, hs, Option.bind_some, if_true, if_false, ite_self]⟩
/-! ### walks -/
abbrev WI (m : IM) (R : ω → Rho) (e : δ → D) (T : PT (List δ)) (R' : ω → Rho) : Prop := W m R (fun l : List δ => l.map e) T R'
theorem wSeq {ra : α → Rv} {Ta : PT α} {e : δ → D} {l : α → List δ} (ha : WE ma R ra Ta R1) (h1 : ∀ w a, (frz1 (R1 w) (ra a)).bind (fun b => (seqD b.1).bind fun xs => some (xs, b.2)) = some ((l a).map e, R2 w) := by intro _ _; rfl) : WI (ivSeq ma) R e (fun Q => Ta fun a => Q (l a)) R2 := fun w Q q => by
  obtain ⟨a, w1, q1, e1⟩ := ha w _ q
  exact ⟨l a, w1, q1, by simp only [ivSeq, e1, h1, Option.bind_some]⟩
def rangeL (a : Int) (n : Nat) : List Int := (List.range n).map fun (i : Nat) => a + (i : Int)
def rangeW (n : Int) : PT (List Int) := fun Q => big62 n = true ∧ Q (rangeL 0 n.toNat)
def range2W (a b : Int) : PT (List Int) := fun Q => (big62 a = true ∧ big62 b = true) ∧ Q (rangeL a (b - a).toNat)
theorem rngD_map (a : Int) (n : Nat) : rngD a n = (rangeL a n).map eI := by simp [rngD, rangeL]
theorem wRng1 {v : α → Int} (ha : W ms R rs Ts R1) (h1 : ∀ w a, rdAll (R1 w) (rs a) = some [.int (v a)] := by intro _ _; rfl) : WI (ivArgs rng1 ms) R eI (fun Q => Ts fun a => rangeW (v a) Q) R1 := fun w Q q => by
  obtain ⟨a, w1, q1, e1⟩ := ha w _ q
  exact ⟨_, w1, q1.2, by simp only [ivArgs, e1, h1, rng1, q1.1, Option.bind_some, if_true, rngD_map]⟩
theorem wRng2 {v u : α → Int} (ha : W ms R rs Ts R1) (h1 : ∀ w a, rdAll (R1 w) (rs a) = some [.int (v a), .int (u a)] := by intro _ _; rfl) : WI (ivArgs rng2 ms) R eI (fun Q => Ts fun a => range2W (v a) (u a) Q) R1 := fun w Q q => by
  obtain ⟨a, w1, q1, e1⟩ := ha w _ q
  exact ⟨_, w1, q1.2, by simp only [ivArgs, e1, h1, rng2, q1.1.1, q1.1.2, Option.bind_some, Bool.and_self, if_true, rngD_map]⟩
def enumFrom : Nat → List δ → List (Int × δ)
  | _, [] => []
  | n, x :: xs => ((n : Int), x) :: enumFrom (n + 1) xs
def enumL (l : List δ) : List (Int × δ) := enumFrom 0 l
theorem enumFrom_get : ∀ (l : List δ) (n i : Nat), (enumFrom n l)[i]? = l[i]?.map fun x => (((n + i : Nat) : Int), x)
  | [], n, i => by simp [enumFrom]
  | x :: xs, n, 0 => by simp [enumFrom]
  | x :: xs, n, i + 1 => by
    simp only [enumFrom, List.getElem?_cons_succ]
    rw [enumFrom_get xs (n + 1) i, show n + 1 + i = n + (i + 1) by omega]
theorem enumL_get (l : List δ) (i : Nat) : (enumL l)[i]? = l[i]?.map fun x => ((i : Int), x) := by
  rw [enumL, enumFrom_get]; simp
theorem enumD_map (e : δ → D) (l : List δ) : enumD (l.map e) = (enumL l).map (eP eI e) := by
  apply List.ext_getElem?
  intro i
  rw [List.getElem?_map, enumL_get]
  by_cases h : i < l.length
  · simp [enumD, h, eP]
  · simp [enumD, h]
theorem wEnum {ra : α → Rv} {Ta : PT α} {e : δ → D} {l : α → List δ} (ha : WE ma R ra Ta R1) (h1 : ∀ w a, (frz1 (R1 w) (ra a)).bind (fun b => (seqD b.1).bind fun xs => some (xs, b.2)) = some ((l a).map e, R2 w) := by intro _ _; rfl) : WI (ivEnum ma) R (eP eI e) (fun Q => Ta fun a => Q (enumL (l a))) R2 := fun w Q q => by
  obtain ⟨a, w1, q1, e1⟩ := ha w _ q
  refine ⟨enumL (l a), w1, q1, ?_⟩
  have h := h1 w1 a
  simp only [Option.bind_eq_some_iff] at h
  obtain ⟨b, h2, xs, h3, h4⟩ := h
  have h5 : xs = (l a).map e ∧ b.2 = R2 w1 := by simpa using h4
  simp only [ivEnum, e1, h2, h3, Option.bind_some, h5.1, h5.2, enumD_map]
/-! ### comprehensions -/
def compG (t : δ → PT Bool) (f : δ → PT γ) : List δ → PT (List γ)
  | [], Q => Q []
  | x :: xs, Q => t x fun b => if b = true then f x fun y => compG t f xs fun ys => Q (y :: ys) else compG t f xs Q
def compW (l : List δ) (t : δ → PT Bool) (f : δ → PT γ) : PT (List γ) := fun Q => l.length ≤ sizeLine ∧ compG t f l Q
def mapG (f : δ → PT γ) : List δ → PT (List γ)
  | [], Q => Q []
  | x :: xs, Q => f x fun y => mapG f xs fun ys => Q (y :: ys)
def mapW (l : List δ) (f : δ → PT γ) : PT (List γ) := fun Q => l.length ≤ sizeLine ∧ mapG f l Q
theorem mapG_eq (f : δ → PT γ) : ∀ (l : List δ), mapG f l = compG (fun _ Q => Q true) f l
  | [] => rfl
  | x :: xs => by
    funext Q
    simp only [mapG, compG, mapG_eq f xs, if_true]
variable {mi : IM} {mg : GM} {mt : TM} {vs : List Nat} {e : δ → D} {e' : γ → D} {Ti : PT (List δ)} {R0 : ω → Rho} {Rb Rc : δ → ω → Rho} {re : δ → β → Rv} {tt : δ → PT Bool} {tb : δ → PT β} {v : δ → β → γ}
theorem comp_go (hg : ∀ w x, mg (e x) (R0 w) = some (Rb x w)) (ht : ∀ x, W mt (Rb x) (fun b : Bool => b) (tt x) (Rb x)) (he : ∀ x, WE me (Rb x) (re x) (tb x) (Rb x)) (hz : ∀ w x b, frz1 (Rb x w) (re x b) = some (e' (v x b), Rc x w)) (hk : ∀ w x, kill vs (Rb x w) = R0 w) (hk2 : ∀ w x, kill vs (Rc x w) = R0 w) :
    ∀ (l : List δ) w Q, compG tt (fun x Q => tb x fun b => Q (v x b)) l Q → ∃ ys w', Q ys ∧ goComp mg mt me vs (l.map e) (R0 w) = some (ys.map e', R0 w')
  | [], w, Q, q => ⟨[], w, q, rfl⟩
  | x :: xs, w, Q, q => by
    obtain ⟨b, w1, q1, e1⟩ := ht x w _ q
    cases b with
    | true =>
      rw [if_pos rfl] at q1
      obtain ⟨y, w2, q2, e2⟩ := he x w1 _ q1
      obtain ⟨ys, w3, q3, e3⟩ := comp_go hg ht he hz hk hk2 xs w2 _ q2
      exact ⟨v x y :: ys, w3, q3, by simp only [List.map_cons, goComp, hg, e1, e2, hz, hk2, e3, Option.bind_some, if_true]⟩
    | false =>
      rw [if_neg (by decide)] at q1
      obtain ⟨ys, w3, q3, e3⟩ := comp_go hg ht he hz hk hk2 xs w1 _ q1
      refine ⟨ys, w3, q3, ?_⟩
      simp only [List.map_cons, goComp, hg, e1, hk, Option.bind_some]
      exact e3
theorem wComp (hi : WI mi R e Ti R1) (ht : ∀ x, W mt (Rb x) (fun b : Bool => b) (tt x) (Rb x)) (he : ∀ x, WE me (Rb x) (re x) (tb x) (Rb x)) (hg : ∀ w x, mg (e x) (R0 w) = some (Rb x w) := by intro _ _; rfl) (hz : ∀ w x b, frz1 (Rb x w) (re x b) = some (e' (v x b), Rc x w) := by intro _ _ _; rfl)
    (h0 : ∀ w, kill vs (R1 w) = R0 w := by intro _; rfl) (hk : ∀ w x, kill vs (Rb x w) = R0 w := by intro _ _; rfl) (hk2 : ∀ w x, kill vs (Rc x w) = R0 w := by intro _ _; rfl) (hr : ∀ w w', restore vs (R1 w) (R0 w') = R1 w' := by intro _ _; rfl) :
    WE (evComp mi mg mt me vs) R (fun l => .sv (.own (.lst (l.map e')))) (fun Q => Ti fun l => compW l tt (fun x Q => tb x fun b => Q (v x b)) Q) R1 := fun w Q q => by
  obtain ⟨l, w1, q1, e1⟩ := hi w _ q
  obtain ⟨ys, w2, q2, e2⟩ := comp_go hg ht he hz hk hk2 l w1 _ q1.2
  exact ⟨ys, w2, q2, by simp only [evComp, e1, List.length_map, if_pos q1.1, h0, e2, hr, Option.bind_some]⟩
theorem wMap (hi : WI mi R e Ti R1) (he : ∀ x, WE me (Rb x) (re x) (tb x) (Rb x)) (hg : ∀ w x, mg (e x) (R0 w) = some (Rb x w) := by intro _ _; rfl) (hz : ∀ w x b, frz1 (Rb x w) (re x b) = some (e' (v x b), Rc x w) := by intro _ _ _; rfl)
    (h0 : ∀ w, kill vs (R1 w) = R0 w := by intro _; rfl) (hk : ∀ w x, kill vs (Rb x w) = R0 w := by intro _ _; rfl) (hk2 : ∀ w x, kill vs (Rc x w) = R0 w := by intro _ _; rfl) (hr : ∀ w w', restore vs (R1 w) (R0 w') = R1 w' := by intro _ _; rfl) :
    WE (evComp mi mg tvYes me vs) R (fun l => .sv (.own (.lst (l.map e')))) (fun Q => Ti fun l => mapW l (fun x Q => tb x fun b => Q (v x b)) Q) R1 := fun w Q q => by
  refine wComp hi (fun x => wYes) he hg hz h0 hk hk2 hr w Q ?_
  have e : (fun l => mapW l (fun x Q => tb x fun b => Q (v x b)) Q) = fun l => compW l (fun x Q => Q true) (fun x Q => tb x fun b => Q (v x b)) Q := by
    funext l; simp only [mapW, compW, mapG_eq]
  show Ti (fun l => compW l (fun x Q => Q true) (fun x Q => tb x fun b => Q (v x b)) Q)
  rw [← e]; exact q
/-! ### slices -/
theorem wSl {ra : α → Rv} {Ta : PT α} {d1 : α → D} {s : γ → SV} {top : α → PT γ} {lo hi : Option Int} (ha : WE ma R ra Ta R1) (ho : ∀ a, Op1 (gSl lo hi) (d1 a) s (top a)) {ml mh : OM} (hl : ∀ w, ml (R1 w) = some (lo, R1 w) := by intro _; rfl) (hh : ∀ w, mh (R1 w) = some (hi, R1 w) := by intro _; rfl) (h1 : ∀ w a, rdD (R1 w) (ra a) = some (d1 a) := by intro _ _; rfl) :
    WE (evSl ma ml mh) R (fun x => .sv (s x)) (fun Q => Ta fun a => top a Q) R1 := fun w Q q => by
  obtain ⟨a, w1, q1, e1⟩ := ha w _ q
  obtain ⟨c, q2, e2⟩ := ho a _ q1
  exact ⟨c, w1, q2, by simp only [evSl, e1, hl, hh, h1, e2, Option.bind_some]⟩
end
/-! ### statements -/
section
variable {ω α β γ δ σ τ : Type} {R R1 R2 R3 : ω → Rho} {ma mb mc me : EM} {ms : AM} {rs : α → List Rv} {Ts : PT α} {ra : α → Rv} {Ta : PT α} {P : List Nat} {i j : Nat} {m n m1 m2 : SM} {mt : TM} {Tt : PT Bool}
def WS (m : SM) (R : ω → Rho) (K : α → ω → Rho) (T : PT α) : Prop := ∀ w Q, T Q → ∃ a w', Q a ∧ m (R w) = some (.nx, K a w')
def WF (io : Bool) (m : SM) (R : ω → Rho) (s : γ → SV) (out : γ → ω → SV) (T : PT γ) : Prop := ∀ w Q, T Q → ∃ a w' r ρ, Q a ∧ m (R w) = some (.ret r, ρ) ∧ endB io (.ret r, ρ) = some (s a, out a w')
def WN (io : Bool) (m : SM) (R : ω → Rho) (s : γ → SV) (out : γ → ω → SV) (T : PT γ) : Prop := ∀ w Q, T Q → ∃ a w' x, Q a ∧ m (R w) = some x ∧ endB io x = some (s a, out a w')
inductive Stp (σ β : Type) where
  | go (s : σ) | stop (s : σ) | ret (b : β)
def StOk (io : Bool) (ks : List Nat) (K : σ → ω → Rho) (s : β → SV) (out : β → ω → SV) (esc : Bool) (w' : ω) (x : Fl × Rho) : Stp σ β → Prop
  | .go a => (x.1 = .ct ∨ (esc = false ∧ x.1 = .nx)) ∧ kill ks x.2 = K a w'
  | .stop a => x.1 = .bk ∧ kill ks x.2 = K a w'
  | .ret b => (∃ r ρ, x = (.ret r, ρ)) ∧ endB io x = some (s b, out b w')
def WL (io : Bool) (esc : Bool) (ks : List Nat) (m : SM) (R : ω → Rho) (K : σ → ω → Rho) (s : β → SV) (out : β → ω → SV) (T : PT (Stp σ β)) : Prop := ∀ w Q, T Q → ∃ st w' x, Q st ∧ m (R w) = some x ∧ StOk io ks K s out esc w' x st
def WSK (ks : List Nat) (m : SM) (R : ω → Rho) (K : α → ω → Rho) (T : PT α) : Prop := ∀ w Q, T Q → ∃ a w' ρ, Q a ∧ m (R w) = some (.nx, ρ) ∧ kill ks ρ = K a w'

variable {K K1 K2 : α → ω → Rho} {T : PT α}
theorem sAsg {s : α → SV} (h : WE me R (fun a => .sv (s a)) T R1) (hi : i ∉ P := by decide) (hK : ∀ w a, (R1 w).set i (some (s a)) = K a w := by intro _ _; rfl) : WS (exAsg P i me) R K T := fun w Q q => by
  obtain ⟨a, w1, q1, e1⟩ := h w _ q
  exact ⟨a, w1, q1, by simp only [exAsg, e1, stoS, if_neg hi, Option.bind_some, hK]⟩
theorem sParW {is : List Nat} (h : W ms R rs T R1) (hK : ∀ w a, (frzP (R1 w) (rs a)).bind (fun b => parS P is b.1 b.2) = some (K a w) := by intro _ _; rfl) : WS (exPar P is ms) R K T := fun w Q q => by
  obtain ⟨a, w1, q1, e1⟩ := h w _ q
  refine ⟨a, w1, q1, ?_⟩
  have z := hK w1 a
  rw [Option.bind_eq_some_iff] at z
  obtain ⟨b, z1, z2⟩ := z
  simp only [exPar, e1, z1, z2, Option.bind_some]
theorem sMut {f : List D → List D → Option (D × List D)} {e : δ → D} {l : List δ} {ds : α → List D} {top : α → PT (List δ)} {K : List δ → ω → Rho} (h : W ms R rs T R1) (hf : ∀ a Q, top a Q → ∃ l' d, Q l' ∧ f (l.map e) (ds a) = some (d, l'.map e)) (h0 : ∀ w, lstAt (R w) i = some (l.map e) := by intro _; rfl) (h1 : ∀ w a, frzs (R1 w) (rs a) = some (ds a, R2 w) := by intro _ _; rfl)
    (h2 : ∀ w, lstAt (R2 w) i = some (l.map e) := by intro _; rfl) (hK : ∀ w l', (R2 w).set i (some (.own (.lst (l'.map e)))) = K l' w := by intro _ _; rfl) : WS (exExpr (evMut f i ms)) R K (fun Q => T fun a => top a Q) := fun w Q q => by
  obtain ⟨a, w1, q1, e1⟩ := h w _ q
  obtain ⟨l', d, q2, e2⟩ := hf a _ q1
  exact ⟨l', w1, q2, by simp only [exExpr, evMut, h0, e1, h1, h2, e2, hK, Option.bind_some]⟩
def appW (l : List δ) (x : δ) : PT (List δ) := fun Q => l.length < sizeLine ∧ Q (l ++ [x])
theorem f_app {e : δ → D} {l : List δ} (x : δ) (Q : List δ → Prop) (h : appW l x Q) : ∃ l' d, Q l' ∧ fAppend (l.map e) [e x] = some (d, l'.map e) := ⟨_, .none, h.2, by simp only [fAppend, List.length_map, if_pos h.1, List.map_append, List.map_cons, List.map_nil]⟩
def setW (l : List δ) (i : Int) (x : δ) : PT (List δ) := fun Q => ∃ n, L2.ixN l.length i = some n ∧ Q (l.set n x)
theorem sStoW {mi : EM} {e : δ → D} {l : List δ} {v : α → δ} {Ti : PT Int} {K : List δ → ω → Rho} (h : WE me R ra T R1) (hi : WE mi R1 (fun a => .sv (.val (eI a))) Ti R2) (h0 : ∀ w, lstAt (R1 w) j = some (l.map e) := by intro _; rfl) (h1 : ∀ w a, frz1 (R2 w) (ra a) = some (e (v a), R3 w) := by intro _ _; rfl)
    (h2 : ∀ w, lstAt (R3 w) j = some (l.map e) := by intro _; rfl) (hK : ∀ w l', (R3 w).set j (some (.own (.lst (l'.map e)))) = K l' w := by intro _ _; rfl) : WS (exSto j mi me) R K (fun Q => T fun a => Ti fun i => setW l i (v a) Q) := fun w Q q => by
  obtain ⟨a, w1, q1, e1⟩ := h w _ q
  obtain ⟨i, w2, q2, e2⟩ := hi w1 _ q1
  obtain ⟨n, hn, q3⟩ := q2
  refine ⟨_, w2, q3, ?_⟩
  simp only [exSto, e1, h0, e2, rdD, SV.d, h1, h2, List.length_map, hn, Option.bind_some]
  rw [← hK, List.map_set]
theorem sPassW : WS exPass R (fun (_ : Unit) w => R w) (fun Q => Q ()) := fun w Q q => ⟨(), w, q, rfl⟩
theorem sRe {K' : β → ω → Rho} (f : α → β) (h : WS m R K T) (hK : ∀ w a, K a w = K' (f a) w := by intro _ _; rfl) : WS m R K' (fun Q => T fun a => Q (f a)) := fun w Q q => by
  obtain ⟨a, w1, q1, e1⟩ := h w _ q
  exact ⟨f a, w1, q1, by rw [e1, hK]⟩
theorem sReK {ks : List Nat} {K' : β → ω → Rho} (f : α → β) (h : WS m R K T) (hK : ∀ w a, kill ks (K a w) = K' (f a) w := by intro _ _; rfl) : WSK ks m R K' (fun Q => T fun a => Q (f a)) := fun w Q q => by
  obtain ⟨a, w1, q1, e1⟩ := h w _ q
  exact ⟨f a, w1, _, q1, e1, hK w1 a⟩
theorem sKillK {ks : List Nat} (h : WSK ks m R K T) : WS (exKill ks m) R K T := fun w Q q => by
  obtain ⟨a, w1, ρ, q1, e1, e2⟩ := h w _ q
  exact ⟨a, w1, q1, by simp only [exKill, e1, Option.bind_some, e2]⟩
theorem sSeqK {ks : List Nat} {K2 : β → ω → Rho} {T2 : α → PT β} (h : WS m1 R K1 T) (h2 : ∀ a, WSK ks m2 (K1 a) K2 (T2 a)) : WSK ks (exSeq m1 m2) R K2 (fun Q => T fun a => T2 a Q) := fun w Q q => by
  obtain ⟨a, w1, q1, e1⟩ := h w _ q
  obtain ⟨b, w2, ρ, q2, e2, e3⟩ := h2 a w1 _ q1
  exact ⟨b, w2, ρ, q2, by simp only [exSeq, e1, e2, Option.bind_some], e3⟩
theorem sIfW {T' : PT α} (h : W mt R (fun b : Bool => b) Tt R1) (h1 : WS m1 R1 K T) (h2 : WS m2 R1 K T') : WS (exIf mt m1 m2) R K (fun Q => Tt fun b => if b = true then T Q else T' Q) := fun w Q q => by
  obtain ⟨b, w1, q1, e1⟩ := h w _ q
  cases b with
  | true =>
    rw [if_pos rfl] at q1
    obtain ⟨b, w2, q2, e2⟩ := h1 w1 _ q1
    exact ⟨b, w2, q2, by simp only [exIf, e1, e2, Option.bind_some, if_true]⟩
  | false =>
    rw [if_neg (by decide)] at q1
    obtain ⟨b, w2, q2, e2⟩ := h2 w1 _ q1
    exact ⟨b, w2, q2, by simp only [exIf, e1, e2, Option.bind_some]; rfl⟩
theorem sIfBad (h : W mt R (fun b : Bool => b) Tt R1) (h2 : WS m2 R1 K T) : WS (exIf mt exBad m2) R K (fun Q => Tt fun b => b = false ∧ T Q) := fun w Q q => by
  obtain ⟨b, w1, q1, e1⟩ := h w _ q
  obtain ⟨hb, q1⟩ := q1
  obtain ⟨c, w2, q2, e2⟩ := h2 w1 _ q1
  exact ⟨c, w2, q2, by simp only [exIf, e1, hb, Option.bind_some]; exact e2⟩
/-! ### loops -/
def forW (f : δ → σ → PT σ) : List δ → σ → PT σ
  | [], s, Q => Q s
  | x :: xs, s, Q => f x s fun s' => forW f xs s' Q
def forR (f : δ → σ → PT (Stp σ β)) : List δ → σ → PT (Sum σ β)
  | [], s, Q => Q (.inl s)
  | x :: xs, s, Q => f x s fun r => match r with
    | .go s' => forR f xs s' Q
    | .stop s' => Q (.inl s')
    | .ret b => Q (.inr b)
variable {mi : IM} {mg : GM} {e : δ → D} {Ti : PT (List δ)} {K0 : σ → ω → Rho} {Kb : δ → σ → ω → Rho} {s0 : σ} {f : δ → σ → PT σ} {fr : δ → σ → PT (Stp σ γ)} {io : Bool} {s : γ → SV} {out : γ → ω → SV} {kp : List Nat × List Nat}
theorem for_go (hb : ∀ x s, WS m (Kb x s) K0 (f x s)) (hg : ∀ w x s, mg (e x) (K0 s w) = some (Kb x s w)) : ∀ (l : List δ) (s : σ) w Q, forW f l s Q → ∃ s' w', Q s' ∧ goFor mg m (l.map e) (K0 s w) = some (.nx, K0 s' w')
  | [], s, w, Q, q => ⟨s, w, q, rfl⟩
  | x :: xs, s, w, Q, q => by
    obtain ⟨a, w1, q1, e1⟩ := hb x s w _ q
    obtain ⟨s', w2, q2, e2⟩ := for_go hb hg xs a w1 _ q1
    exact ⟨s', w2, q2, by simp only [List.map_cons, goFor, hg, e1, e2, Option.bind_some]⟩
theorem sForW (s0 : σ) (hi : WI mi R1 e Ti R2) (hb : ∀ x s, WS m (Kb x s) K0 (f x s)) (h0 : ∀ w, R2 w = K0 s0 w := by intro _; rfl) (hg : ∀ w x s, mg (e x) (K0 s w) = some (Kb x s w) := by intro _ _ _; rfl) (hp : ∀ w, pre kp (R w) = R1 w := by intro _; rfl) :
    WS (exPre kp (exFor mi mg m)) R K0 (fun Q => Ti fun l => forW f l s0 Q) := fun w Q q => by
  obtain ⟨l, w1, q1, e1⟩ := hi w _ q
  obtain ⟨s', w2, q2, e2⟩ := for_go hb hg l s0 w1 _ q1
  exact ⟨s', w2, q2, by simp only [exPre, hp, exFor, e1, h0, e2, Option.bind_some]⟩
def LpOk (io : Bool) (K : σ → ω → Rho) (s : γ → SV) (out : γ → ω → SV) (w' : ω) (x : Fl × Rho) : Sum σ γ → Prop
  | .inl a => x = (.nx, K a w')
  | .inr b => (∃ r ρ, x = (.ret r, ρ)) ∧ endB io x = some (s b, out b w')
theorem forR_go (hb : ∀ x s', WL io false [] m (Kb x s') K0 s out (fr x s')) (hg : ∀ w x s, mg (e x) (K0 s w) = some (Kb x s w)) : ∀ (l : List δ) (s' : σ) w Q, forR fr l s' Q → ∃ r w' x, Q r ∧ goFor mg m (l.map e) (K0 s' w) = some x ∧ LpOk io K0 s out w' x r
  | [], s', w, Q, q => ⟨.inl s', w, _, q, rfl, rfl⟩
  | x :: xs, s', w, Q, q => by
    obtain ⟨a, w1, y, q1, e1, ok⟩ := hb x s' w _ q
    cases a with
    | go t =>
      obtain ⟨r, w2, z, q2, e2, ok2⟩ := forR_go hb hg xs t w1 _ q1
      refine ⟨r, w2, z, q2, ?_, ok2⟩
      obtain ⟨fl, ρ⟩ := y
      obtain ⟨ok, hρ⟩ := ok
      obtain rfl : ρ = _ := hρ
      rcases ok with h | ⟨_, h⟩
      · obtain rfl : fl = _ := h
        simp only [List.map_cons, goFor, hg, e1, e2, Option.bind_some]
      · obtain rfl : fl = _ := h
        simp only [List.map_cons, goFor, hg, e1, e2, Option.bind_some]
    | stop t =>
      obtain ⟨fl, ρ⟩ := y
      obtain ⟨ok, hρ⟩ := ok
      obtain rfl : ρ = _ := hρ
      obtain rfl : fl = _ := ok
      exact ⟨.inl t, w1, _, q1, by simp only [List.map_cons, goFor, hg, e1, Option.bind_some], rfl⟩
    | ret b =>
      obtain ⟨⟨r, ρ, rfl⟩, ok⟩ := ok
      exact ⟨.inr b, w1, _, q1, by simp only [List.map_cons, goFor, hg, e1, Option.bind_some], ⟨r, ρ, rfl⟩, ok⟩
def thenW (Tr : σ → PT γ) : Sum σ γ → PT γ
  | .inl s, Q => Tr s Q
  | .inr b, Q => Q b
theorem nForR {Tr : σ → PT γ} (s0 : σ) (hi : WI mi R1 e Ti R2) (hb : ∀ x s', WL io false [] m (Kb x s') K0 s out (fr x s')) (hr : ∀ s', WN io n (K0 s') s out (Tr s')) (h0 : ∀ w, R2 w = K0 s0 w := by intro _; rfl) (hg : ∀ w x s, mg (e x) (K0 s w) = some (Kb x s w) := by intro _ _ _; rfl) (hp : ∀ w, pre kp (R w) = R1 w := by intro _; rfl) :
    WN io (exSeq (exPre kp (exFor mi mg m)) n) R s out (fun Q => Ti fun l => forR fr l s0 fun r => thenW Tr r Q) := fun w Q q => by
  obtain ⟨l, w1, q1, e1⟩ := hi w _ q
  obtain ⟨r, w2, x, q2, e2, ok⟩ := forR_go hb hg l s0 w1 _ q1
  have e3 : exPre kp (exFor mi mg m) (R w) = some x := by simp only [exPre, hp, exFor, e1, h0, e2, Option.bind_some]
  cases r with
  | inl s' =>
    obtain rfl : x = _ := ok
    obtain ⟨a, w3, y, q3, e4, ok4⟩ := hr s' w2 _ q2
    exact ⟨a, w3, y, q3, by simp only [exSeq, e3, e4, Option.bind_some], ok4⟩
  | inr b =>
    obtain ⟨⟨r, ρ, rfl⟩, ok⟩ := ok
    exact ⟨b, w2, _, q2, by simp only [exSeq, e3, Option.bind_some], ok⟩
variable {tc : σ → PT Bool} {fw : σ → PT (Stp σ γ)} {Kc : σ → ω → Rho}
/-! ### ends of defs -/
variable {Tf Tg : PT γ}
theorem fRet {v : α → γ} (h : WE me R ra T R1) (he : ∀ w a, endB io (.ret (ra a), R1 w) = some (s (v a), out (v a) w) := by intro _ _; rfl) : WF io (exRet me) R s out (fun Q => T fun a => Q (v a)) := fun w Q q => by
  obtain ⟨a, w1, q1, e1⟩ := h w _ q
  exact ⟨v a, w1, _, _, q1, by simp only [exRet, e1, Option.bind_some], he w1 a⟩
theorem fSeq {Tf : α → PT γ} (h : WS m1 R K1 T) (h2 : ∀ a, WF io m2 (K1 a) s out (Tf a)) : WF io (exSeq m1 m2) R s out (fun Q => T fun a => Tf a Q) := fun w Q q => by
  obtain ⟨a, w1, q1, e1⟩ := h w _ q
  obtain ⟨b, w2, r, ρ, q2, e2, ok⟩ := h2 a w1 _ q1
  exact ⟨b, w2, r, ρ, q2, by simp only [exSeq, e1, e2, Option.bind_some], ok⟩
theorem nF (h : WF io m R s out Tf) : WN io m R s out Tf := fun w Q q => by
  obtain ⟨a, w2, r, ρ, q2, e2, ok⟩ := h w _ q
  exact ⟨a, w2, _, q2, e2, ok⟩
theorem nS {v : α → γ} (h : WS m R K T) (he : ∀ w a, endB io (.nx, K a w) = some (s (v a), out (v a) w) := by intro _ _; rfl) : WN io m R s out (fun Q => T fun a => Q (v a)) := fun w Q q => by
  obtain ⟨a, w2, q2, e2⟩ := h w _ q
  exact ⟨v a, w2, _, q2, e2, he w2 a⟩
theorem nSeq {Tf : α → PT γ} (h : WS m1 R K1 T) (h2 : ∀ a, WN io m2 (K1 a) s out (Tf a)) : WN io (exSeq m1 m2) R s out (fun Q => T fun a => Tf a Q) := fun w Q q => by
  obtain ⟨a, w1, q1, e1⟩ := h w _ q
  obtain ⟨b, w2, x, q2, e2, ok⟩ := h2 a w1 _ q1
  exact ⟨b, w2, x, q2, by simp only [exSeq, e1, e2, Option.bind_some], ok⟩
theorem nIfRet {Tf : PT γ} {Tr : α → PT γ} (h : W mt R (fun b : Bool => b) Tt R1) (h1 : WF io m1 R1 s out Tf) (h2 : WS m2 R1 K T) (hr : ∀ a, WN io n (K a) s out (Tr a)) : WN io (exSeq (exIf mt m1 m2) n) R s out (fun Q => Tt fun b => if b = true then Tf Q else T fun a => Tr a Q) := fun w Q q => by
  obtain ⟨b, w1, q1, e1⟩ := h w _ q
  cases b with
  | true =>
    rw [if_pos rfl] at q1
    obtain ⟨a, w2, r, ρ, q2, e2, ok⟩ := h1 w1 _ q1
    exact ⟨a, w2, _, q2, by simp only [exSeq, exIf, e1, e2, Option.bind_some, if_true], ok⟩
  | false =>
    rw [if_neg (by decide)] at q1
    obtain ⟨a, w2, q2, e2⟩ := h2 w1 _ q1
    obtain ⟨b, w3, x, q3, e3, ok⟩ := hr a w2 _ q2
    refine ⟨b, w3, x, q3, ?_, ok⟩
    have e4 : exIf mt m1 m2 (R w) = some (.nx, K a w2) := by simp only [exIf, e1, Option.bind_some]; exact e2
    simp only [exSeq, e4, e3, Option.bind_some]
theorem nIf {Tf Tg : PT γ} (h : W mt R (fun b : Bool => b) Tt R1) (h1 : WN io m1 R1 s out Tf) (h2 : WN io m2 R1 s out Tg) : WN io (exIf mt m1 m2) R s out (fun Q => Tt fun b => if b = true then Tf Q else Tg Q) := fun w Q q => by
  obtain ⟨b, w1, q1, e1⟩ := h w _ q
  cases b with
  | true =>
    rw [if_pos rfl] at q1
    obtain ⟨a, w2, x, q2, e2, ok⟩ := h1 w1 _ q1
    exact ⟨a, w2, x, q2, by simp only [exIf, e1, e2, Option.bind_some, if_true], ok⟩
  | false =>
    rw [if_neg (by decide)] at q1
    obtain ⟨a, w2, x, q2, e2, ok⟩ := h2 w1 _ q1
    exact ⟨a, w2, x, q2, by simp only [exIf, e1, Option.bind_some]; exact e2, ok⟩
/-! ### turns of loops -/
variable {KL : σ → ω → Rho} {Tl Tl' : PT (Stp σ γ)} {esc : Bool} {ks : List Nat}
theorem lS {f : α → σ} (h : WS m R K T) (hK : ∀ w a, kill ks (K a w) = KL (f a) w := by intro _ _; rfl) : WL io false ks m R KL s out (fun Q => T fun a => Q (.go (f a))) := fun w Q q => by
  obtain ⟨a, w1, q1, e1⟩ := h w _ q
  exact ⟨.go (f a), w1, _, q1, e1, .inr ⟨rfl, rfl⟩, hK w1 a⟩
theorem lF (h : WF io m R s out Tf) : WL io esc ks m R KL s out (fun Q => Tf fun b => Q (.ret b)) := fun w Q q => by
  obtain ⟨a, w1, r, ρ, q1, e1, ok⟩ := h w _ q
  exact ⟨.ret a, w1, _, q1, e1, ⟨r, ρ, rfl⟩, ok⟩
theorem lSeq {Tl : α → PT (Stp σ γ)} (h : WS m1 R K1 T) (h2 : ∀ a, WL io esc ks m2 (K1 a) KL s out (Tl a)) : WL io esc ks (exSeq m1 m2) R KL s out (fun Q => T fun a => Tl a Q) := fun w Q q => by
  obtain ⟨a, w1, q1, e1⟩ := h w _ q
  obtain ⟨b, w2, x, q2, e2, ok⟩ := h2 a w1 _ q1
  exact ⟨b, w2, x, q2, by simp only [exSeq, e1, e2, Option.bind_some], ok⟩
theorem lIf (h : W mt R (fun b : Bool => b) Tt R1) (h1 : WL io esc ks m1 R1 KL s out Tl) (h2 : WL io esc ks m2 R1 KL s out Tl') : WL io esc ks (exIf mt m1 m2) R KL s out (fun Q => Tt fun b => if b = true then Tl Q else Tl' Q) := fun w Q q => by
  obtain ⟨b, w1, q1, e1⟩ := h w _ q
  cases b with
  | true =>
    rw [if_pos rfl] at q1
    obtain ⟨a, w2, x, q2, e2, ok⟩ := h1 w1 _ q1
    exact ⟨a, w2, x, q2, by simp only [exIf, e1, e2, Option.bind_some, if_true], ok⟩
  | false =>
    rw [if_neg (by decide)] at q1
    obtain ⟨a, w2, x, q2, e2, ok⟩ := h2 w1 _ q1
    exact ⟨a, w2, x, q2, by simp only [exIf, e1, Option.bind_some]; exact e2, ok⟩
theorem lKill (h : WL io esc ks m R KL s out Tl) : WL io esc [] (exKill ks m) R KL s out Tl := fun w Q q => by
  obtain ⟨a, w1, x, q1, e1, ok⟩ := h w _ q
  cases a with
  | go t =>
    obtain ⟨fl, ρ⟩ := x
    obtain ⟨ok, hρ⟩ := ok
    have hρ : kill ks ρ = KL t w1 := hρ
    rcases ok with h | ⟨z, h⟩
    · obtain rfl : fl = _ := h
      exact ⟨.go t, w1, (.ct, kill ks ρ), q1, by simp only [exKill, e1, Option.bind_some], .inl rfl, hρ⟩
    · obtain rfl : fl = _ := h
      exact ⟨.go t, w1, (.nx, kill ks ρ), q1, by simp only [exKill, e1, Option.bind_some], .inr ⟨z, rfl⟩, hρ⟩
  | stop t =>
    obtain ⟨fl, ρ⟩ := x
    obtain ⟨ok, hρ⟩ := ok
    obtain rfl : fl = _ := ok
    exact ⟨.stop t, w1, (.bk, kill ks ρ), q1, by simp only [exKill, e1, Option.bind_some], rfl, hρ⟩
  | ret b =>
    obtain ⟨⟨r, ρ, rfl⟩, ok⟩ := ok
    exact ⟨.ret b, w1, _, q1, by simp only [exKill, e1, Option.bind_some], ⟨r, ρ, rfl⟩, ok⟩
/-! ### whole defs -/
theorem cwOf {nl : Nat} {args : List SV} (R : Unit → Rho) (h : WN false m R s (fun _ _ => .val .none) Tf) (hR : args.map some ++ List.replicate (nl - args.length) none = R () := by rfl) : CW (runB false nl m) args s Tf := fun Q q => by
  obtain ⟨a, w, x, q1, e1, ok⟩ := h () _ q
  refine ⟨a, .val .none, q1, ?_⟩
  unfold runB
  rw [hR, e1]
  exact ok
def CIn (cm : CM) (c : Int) (args : List SV) (fs : γ → List D) (T : PT γ) : Prop := ∀ Q, T Q → ∃ x, Q x ∧ cm (.own (.ins c []) :: args) = some (.val .none, .own (.ins c (fs x)))
theorem ciOf {nl : Nat} {c : Int} {args : List SV} {fs : γ → List D} (R : Unit → Rho) (h : WN true m R (fun _ => .val .none) (fun a _ => .own (.ins c (fs a))) Tf) (hR : (SV.own (OB.ins c []) :: args).map some ++ List.replicate (nl - (args.length + 1)) none = R () := by rfl) : CIn (runB true nl m) c args fs Tf := fun Q q => by
  obtain ⟨a, w', x, q1, e1, ok⟩ := h () _ q
  refine ⟨a, q1, ?_⟩
  unfold runB
  simp only [List.length_cons] at hR ⊢
  rw [hR, e1]
  exact ok
theorem sFldW {fn : FNs} {f : Str} (h : WE me R ra T R1) (hK : ∀ w a, (frz1 (R1 w) (ra a)).bind (fun b => (insAt b.2 i).bind fun o => (putD (fn o.1) o.2 f b.1).bind fun fs => some (b.2.set i (some (.own (.ins o.1 fs))))) = some (K a w) := by intro _ _; rfl) : WS (exFld fn i f me) R K T := fun w Q q => by
  obtain ⟨a, w1, q1, e1⟩ := h w _ q
  refine ⟨a, w1, q1, ?_⟩
  have z := hK w1 a
  simp only [Option.bind_eq_some_iff] at z
  obtain ⟨b, z1, o, z2, fs, z3, z4⟩ := z
  have z5 : b.2.set i (some (.own (.ins o.1 fs))) = K a w1 := by simpa using z4
  simp only [exFld, e1, z1, z2, z3, z5, Option.bind_some]
theorem crOf {nl : Nat} {args : List SV} {row : ω → OB} (R : ω → Rho) (h : WN true m R s (fun _ w => .own (row w)) Tf) (hR : ∀ w, (SV.own (row w) :: args).map some ++ List.replicate (nl - (args.length + 1)) none = R w := by intro _; rfl) : CR (runB true nl m) (fun w => .own (row w)) args s Tf := fun w Q q => by
  obtain ⟨a, w', x, q1, e1, ok⟩ := h w _ q
  refine ⟨a, w', q1, ?_⟩
  unfold runB
  have z := hR w
  simp only [List.length_cons] at z ⊢
  rw [z, e1]
  exact ok
end
end Tv

/-! Tv3: what encoders are like; the operators at typed values. -/
namespace Tv
open PySem Pv
section
variable {α β γ δ : Type}
class Good [DecidableEq α] (e : α → D) (n : outParam Nat) : Prop where
  plain : ∀ a, (e a).plain = true
  depth : ∀ a, (e a).depth ≤ n
  eqv : ∀ a b, PyData.eqv (e a) (e b) = decide (a = b)
class NN (e : α → D) : Prop where
  nn : ∀ a, e a ≠ .none
class Nl (e : α → D) : Prop where
  nl : ∀ a, Pv.nl (e a) = true
class Ordd (e : α → D) (lt : outParam (α → α → Bool)) : Prop where
  alike : ∀ a b, PySem.W.alike (e a) (e b) = true
  lt : ∀ a b, PySem.W.dataLt (e a) (e b) = lt a b
  nn : ∀ a, e a ≠ .none
abbrev ltI (a b : Int) : Bool := decide (a < b)
def ltLex [DecidableEq α] (lt : α → α → Bool) : List α → List α → Bool
  | [], [] => false
  | [], _ :: _ => true
  | _ :: _, [] => false
  | x :: xs, y :: ys => if x = y then ltLex lt xs ys else lt x y
def ltP [DecidableEq α] [DecidableEq β] (lt : α → α → Bool) (lu : β → β → Bool) (p q : α × β) : Bool := if p.1 = q.1 then (if p.2 = q.2 then false else lu p.2 q.2) else lt p.1 q.1
def ltQ [DecidableEq α] [DecidableEq β] [DecidableEq γ] (lt : α → α → Bool) (lu : β → β → Bool) (lv : γ → γ → Bool) (p q : α × β × γ) : Bool := if p.1 = q.1 then (if p.2.1 = q.2.1 then (if p.2.2 = q.2.2 then false else lv p.2.2 q.2.2) else lu p.2.1 q.2.1) else lt p.1 q.1
instance : Good eI 0 := ⟨fun _ => rfl, fun _ => by simp [PyData.depth], fun a b => by simp [PyData.eqv]; by_cases h : a = b <;> simp [h]⟩
instance : Good eB 0 := ⟨fun _ => rfl, fun _ => by simp [PyData.depth], fun a b => by cases a <;> cases b <;> rfl⟩
instance : Good eS 0 := ⟨fun _ => rfl, fun _ => by simp [PyData.depth], fun a b => by simp [PyData.eqv]; by_cases h : a = b <;> simp [h]⟩
instance : Good eU 0 := ⟨fun _ => rfl, fun _ => by simp [eU, PyData.depth], fun a b => by simp [eU, PyData.eqv]⟩
theorem plainAll_map {e : α → D} (h : ∀ a, (e a).plain = true) : ∀ l : List α, PyData.plainAll (l.map e) = true
  | [] => rfl
  | x :: xs => by simp [PyData.plainAll, h, plainAll_map h xs]
theorem depthAll_map {e : α → D} {n : Nat} (h : ∀ a, (e a).depth ≤ n) : ∀ l : List α, PyData.depthAll (l.map e) ≤ n
  | [] => by simp [PyData.depthAll]
  | x :: xs => by have := depthAll_map h xs; have := h x; simp [PyData.depthAll]; omega
theorem eqvAll_map [DecidableEq α] {e : α → D} (h : ∀ a b, PyData.eqv (e a) (e b) = decide (a = b)) : ∀ l m : List α, PyData.eqvAll (l.map e) (m.map e) = decide (l = m)
  | [], [] => rfl
  | [], _ :: _ => rfl
  | _ :: _, [] => rfl
  | x :: xs, y :: ys => by
    simp only [List.map_cons, PyData.eqvAll, h, eqvAll_map h xs ys]
    by_cases h1 : x = y <;> by_cases h2 : xs = ys <;> simp [h1, h2]
instance [DecidableEq α] {e : α → D} {n : Nat} [g : Good e n] : Good (eT e) (n + 1) := ⟨fun a => by simp [eT, PyData.plain, plainAll_map g.plain], fun a => by have := depthAll_map g.depth a; simp [eT, PyData.depth]; omega, fun a b => by simp only [eT, PyData.eqv, eqvAll_map g.eqv]⟩
instance [DecidableEq α] {e : α → D} {n : Nat} [g : Good e n] : Good (eL e) (n + 1) := ⟨fun a => by simp [eL, PyData.plain, plainAll_map g.plain], fun a => by have := depthAll_map g.depth a; simp [eL, PyData.depth]; omega, fun a b => by simp only [eL, PyData.eqv, eqvAll_map g.eqv]⟩
instance [DecidableEq α] [DecidableEq β] {e : α → D} {f : β → D} {n m : Nat} [g : Good e n] [h : Good f m] : Good (eP e f) (n + m + 1) := ⟨fun a => by simp [eP, PyData.plain, PyData.plainAll, g.plain, h.plain], fun a => by have := g.depth a.1; have := h.depth a.2; simp [eP, PyData.depth, PyData.depthAll]; omega, fun a b => by
  obtain ⟨a1, a2⟩ := a
  obtain ⟨b1, b2⟩ := b
  simp only [eP, PyData.eqv, PyData.eqvAll, g.eqv, h.eqv, Bool.and_true, Prod.mk.injEq, Bool.decide_and]⟩
instance [DecidableEq α] [DecidableEq β] [DecidableEq γ] {e : α → D} {f : β → D} {k : γ → D} {n m o : Nat} [g : Good e n] [h : Good f m] [i : Good k o] : Good (eQ e f k) (n + m + o + 1) := ⟨fun a => by simp [eQ, PyData.plain, PyData.plainAll, g.plain, h.plain, i.plain], fun a => by have := g.depth a.1; have := h.depth a.2.1; have := i.depth a.2.2; simp [eQ, PyData.depth, PyData.depthAll]; omega, fun a b => by
  obtain ⟨a1, a2, a3⟩ := a
  obtain ⟨b1, b2, b3⟩ := b
  simp only [eQ, PyData.eqv, PyData.eqvAll, g.eqv, h.eqv, i.eqv, Bool.and_true, Prod.mk.injEq, Bool.decide_and]⟩
instance : NN eI := ⟨fun _ => by simp⟩
instance : NN eB := ⟨fun _ => by simp⟩
instance : NN eS := ⟨fun _ => by simp⟩
instance {e : α → D} : NN (eT e) := ⟨fun _ => by simp [eT]⟩
instance {e : α → D} : NN (eL e) := ⟨fun _ => by simp [eL]⟩
instance {e : α → D} {f : β → D} : NN (eP e f) := ⟨fun _ => by simp [eP]⟩
instance {e : α → D} {f : β → D} {k : γ → D} : NN (eQ e f k) := ⟨fun _ => by simp [eQ]⟩
theorem eqv_nn {d : D} (h : d ≠ .none) : PyData.eqv .none d = false ∧ PyData.eqv d .none = false := by cases d <;> simp_all [PyData.eqv]
instance [DecidableEq α] {e : α → D} {n : Nat} [g : Good e n] [z : NN e] : Good (eO e) n := ⟨fun a => by cases a with
    | none => rfl
    | some a => exact g.plain a, fun a => by cases a with
    | none => simp [eO, PyData.depth]
    | some a => exact g.depth a, fun a b => by
    cases a with
    | none => cases b with
      | none => rfl
      | some b => simp [eO, (eqv_nn (z.nn b)).1]
    | some a => cases b with
      | none => simp [eO, (eqv_nn (z.nn a)).2]
      | some b => simp [eO, g.eqv]⟩
theorem nlAll_map {e : α → D} (h : ∀ a, Pv.nl (e a) = true) : ∀ l : List α, nlAll (l.map e) = true
  | [] => rfl
  | x :: xs => by simp [nlAll, h, nlAll_map h xs]
instance : Nl eI := ⟨fun _ => rfl⟩
instance : Nl eB := ⟨fun _ => rfl⟩
instance : Nl eS := ⟨fun _ => rfl⟩
instance : Nl eU := ⟨fun _ => rfl⟩
instance {e : α → D} [h : Nl e] : Nl (eT e) := ⟨fun a => by simp [eT, Pv.nl, nlAll_map h.nl]⟩
instance {e : α → D} {f : β → D} [h : Nl e] [i : Nl f] : Nl (eP e f) := ⟨fun a => by simp [eP, Pv.nl, nlAll, h.nl, i.nl]⟩
instance {e : α → D} {f : β → D} {k : γ → D} [h : Nl e] [i : Nl f] [j : Nl k] : Nl (eQ e f k) := ⟨fun a => by simp [eQ, Pv.nl, nlAll, h.nl, i.nl, j.nl]⟩
instance {e : α → D} [h : Nl e] : Nl (eO e) := ⟨fun a => by cases a with
  | none => rfl
  | some a => exact h.nl a⟩
theorem nlV {e : α → D} [h : Nl e] (x : α) : nlS (vV e x) = true := h.nl x
instance : Ordd eI ltI := ⟨fun _ _ => rfl, fun a b => PySem.W.dataLt_int a b, fun _ => by simp⟩
theorem alikeAll_map {e : α → D} (h : ∀ a b, PySem.W.alike (e a) (e b) = true) : ∀ l m : List α, PySem.W.alikeAll (l.map e) (m.map e) = true
  | [], [] => by simp [PySem.W.alikeAll]
  | [], _ :: _ => by simp [PySem.W.alikeAll]
  | _ :: _, [] => by simp [PySem.W.alikeAll]
  | x :: xs, y :: ys => by simp [PySem.W.alikeAll, h, alikeAll_map h xs ys]
theorem rowLt_map [DecidableEq α] {e : α → D} {n : Nat} {lt : α → α → Bool} [g : Good e n] [o : Ordd e lt] : ∀ l m : List α, PySem.W.rowLt (l.map e) (m.map e) = ltLex lt l m
  | [], [] => by unfold PySem.W.rowLt; rw [PyProof.Rows.lex_irrefl]; rfl
  | [], y :: ys => by
    simp only [List.map_nil, List.map_cons, PySem.W.rowLt, PySem.W.keyToksAll, ltLex]
    rw [PyProof.Rows.lexLt]
    simp [PyProof.Rows.itemOrd, PyProof.Rows.itemLt]
  | x :: xs, [] => by
    simp only [List.map_nil, List.map_cons, PySem.W.rowLt, PySem.W.keyToksAll, ltLex]
    rw [PyProof.Rows.lexLt]
    simp [PyProof.Rows.itemOrd, PyProof.Rows.itemLt]
  | x :: xs, y :: ys => by
    have ih := rowLt_map (e := e) (lt := lt) xs ys
    unfold PySem.W.rowLt at ih ⊢
    simp only [List.map_cons]
    rw [PySem.W.dataLt_cons (o.alike x y), ih, g.eqv, o.lt]
    simp [ltLex]
instance [DecidableEq α] {e : α → D} {n : Nat} {lt : α → α → Bool} [g : Good e n] [o : Ordd e lt] : Ordd (eT e) (ltLex lt) := ⟨fun a b => by simp [eT, PySem.W.alike, alikeAll_map o.alike], fun a b => by rw [eT, eT, PySem.W.dataLt_tuple]; exact rowLt_map a b, fun _ => by simp [eT]⟩
instance [DecidableEq α] {e : α → D} {n : Nat} {lt : α → α → Bool} [g : Good e n] [o : Ordd e lt] : Ordd (eL e) (ltLex lt) := ⟨fun a b => by simp [eL, PySem.W.alike, alikeAll_map o.alike], fun a b => by rw [eL, eL, PySem.W.dataLt_list]; exact rowLt_map a b, fun _ => by simp [eL]⟩
instance [DecidableEq α] [DecidableEq β] {e : α → D} {f : β → D} {n m : Nat} {lt : α → α → Bool} {lu : β → β → Bool} [g : Good e n] [o : Ordd e lt] [h : Good f m] [p : Ordd f lu] : Ordd (eP e f) (ltP lt lu) := ⟨fun a b => by simp [eP, PySem.W.alike, PySem.W.alikeAll, o.alike, p.alike], fun a b => by
  rw [eP, eP, PySem.W.dataLt_pair (o.alike _ _) (p.alike _ _), g.eqv, h.eqv, o.lt, p.lt]
  simp [ltP], fun _ => by simp [eP]⟩
instance [DecidableEq α] [DecidableEq β] [DecidableEq γ] {e : α → D} {f : β → D} {k : γ → D} {n m r : Nat} {lt : α → α → Bool} {lu : β → β → Bool} {lv : γ → γ → Bool} [g : Good e n] [o : Ordd e lt] [h : Good f m] [p : Ordd f lu] [i : Good k r] [q : Ordd k lv] : Ordd (eQ e f k) (ltQ lt lu lv) := ⟨fun a b => by simp [eQ, PySem.W.alike, PySem.W.alikeAll, o.alike, p.alike, q.alike], fun a b => by
  rw [eQ, eQ, PySem.W.dataLt_tuple, PySem.W.dataLt_cons (o.alike _ _), PySem.W.dataLt_cons (p.alike _ _), PySem.W.dataLt_cons (q.alike _ _), g.eqv, h.eqv, i.eqv, o.lt, p.lt, q.lt, PyProof.Rows.lex_irrefl]
  simp [ltQ], fun _ => by simp [eQ]⟩
/-! ### comparisons -/
theorem pEq_of [DecidableEq α] {e : α → D} {n : Nat} [g : Good e n] (hn : n ≤ 100) (a b : α) : pEq (e a) (e b) = true := by
  have := g.depth a
  simp only [pEq, g.plain, Bool.true_and, Bool.and_true, decide_eq_true_eq]
  omega
theorem pLt_of [DecidableEq α] {e : α → D} {n : Nat} {lt : α → α → Bool} [g : Good e n] [o : Ordd e lt] (hn : n ≤ 100) (a b : α) : pLt (e a) (e b) = true := by
  have := g.depth a
  have h := o.nn a
  have h2 : (match e a with | .none => false | _ => true) = true := by cases q : e a <;> simp_all
  simp only [pLt, g.plain, o.alike, h2, Bool.true_and, Bool.and_true, decide_eq_true_eq]
  omega
theorem opEq [DecidableEq α] {e : α → D} {n : Nat} [g : Good e n] (a b : α) (hn : n ≤ 100 := by decide) : Op2 gEqD (e a) (e b) (vV eB) (fun Q => Q (decide (a = b))) := fun Q q => ⟨_, q, by simp only [gDat, if_pos (pEq_of hn a b), g.eqv]⟩
theorem opNe [DecidableEq α] {e : α → D} {n : Nat} [g : Good e n] (a b : α) (hn : n ≤ 100 := by decide) : Op2 gNeD (e a) (e b) (vV eB) (fun Q => Q (!decide (a = b))) := fun Q q => ⟨_, q, by simp only [gDat, if_pos (pEq_of hn a b), g.eqv]⟩
theorem opLt [DecidableEq α] {e : α → D} {n : Nat} {lt : α → α → Bool} [g : Good e n] [o : Ordd e lt] (a b : α) (hn : n ≤ 100 := by decide) : Op2 gLtD (e a) (e b) (vV eB) (fun Q => Q (lt a b)) := fun Q q => ⟨_, q, by simp only [gDat, if_pos (pLt_of hn a b), o.lt]⟩
theorem opGt [DecidableEq α] {e : α → D} {n : Nat} {lt : α → α → Bool} [g : Good e n] [o : Ordd e lt] (a b : α) (hn : n ≤ 100 := by decide) : Op2 gGtD (e a) (e b) (vV eB) (fun Q => Q (lt b a)) := fun Q q => ⟨_, q, by simp only [gDat, if_pos (pLt_of hn a b), o.lt]⟩
theorem opLtI (a b : Int) : Op2 gLtD (eI a) (eI b) (vV eB) (fun Q => Q (decide (a < b))) := opLt (e := eI) a b
theorem opGtI (a b : Int) : Op2 gGtD (eI a) (eI b) (vV eB) (fun Q => Q (decide (b < a))) := opGt (e := eI) a b
theorem opLeI (a b : Int) : Op2 gLeD (eI a) (eI b) (vV eB) (fun Q => Q (decide (a ≤ b))) := fun Q q => ⟨_, q, eLe⟩
end
section
variable {α β γ δ : Type} {e : α → D} {f : β → D} {k : γ → D}
theorem isN_nn {d : D} (h : d ≠ .none) : isNoneD d = false := by cases d <;> simp_all [isNoneD]
theorem opIsNot [z : NN e] (a : Option α) (u : Unit) : Op2 gIsNot (eO e a) (eU u) (vV eB) (fun Q => Q (!a.isNone)) := fun Q q => ⟨_, q, by
  cases a with
  | none => rfl
  | some a => exact (if_pos rfl).trans (by simp only [eO, isN_nn (z.nn a), Option.isNone])⟩
/-! ### arithmetic -/
theorem opAdd (a b : Int) : Op2 gAdd (eI a) (eI b) (vV eI) (fun Q => Q (a + b)) := fun Q q => ⟨_, q, rfl⟩
theorem opSub (a b : Int) : Op2 Pv.gSub (eI a) (eI b) (vV eI) (fun Q => Q (a - b)) := fun Q q => ⟨_, q, rfl⟩
def mulW (a b : Int) : PT Int := fun Q => cMul a b = true ∧ Q (a * b)
theorem opMul (a b : Int) : Op2 gMulI (eI a) (eI b) (vV eI) (mulW a b) := fun Q q => ⟨_, q.2, by simp only [gI2, if_pos q.1]⟩
theorem opNeg (a : Int) : Op1 gNeg (eI a) (vV eI) (fun Q => Q (-a)) := fun Q q => ⟨_, q, rfl⟩
def catW (l m : List α) : PT (List α) := fun Q => l.length + m.length ≤ sizeLine ∧ Q (l ++ m)
theorem opCatL (l m : List α) : Op2 gAdd (eL e l) (eL e m) (vL e) (catW l m) := fun Q q => ⟨_, q.2, by simp only [gAdd, eL, vL, List.length_map, if_pos q.1, List.map_append]⟩
def ixW (l : List α) (i : Int) : PT α := fun Q => ∃ x, L2.atI l i = some x ∧ Q x
theorem atI_map (l : List α) (i : Int) {x : α} (h : L2.atI l i = some x) : L2.atI (l.map e) i = some (e x) := by
  unfold L2.atI at h ⊢
  rw [List.length_map]
  cases q : L2.ixN l.length i with
  | none => rw [q] at h; cases h
  | some n =>
    rw [q] at h
    simp only [Option.bind_some, List.getElem?_map] at h ⊢
    rw [h]; rfl
theorem opIxT (l : List α) (i : Int) : Op2 gIx (eT e l) (eI i) (vV e) (ixW l i) := fun Q q => by
  obtain ⟨x, h, q⟩ := q
  exact ⟨x, q, by simp only [gIx, eT, atI_map l i h, Option.map_some]⟩
theorem opIxL (l : List α) (i : Int) : Op2 gIx (eL e l) (eI i) (vV e) (ixW l i) := fun Q q => by
  obtain ⟨x, h, q⟩ := q
  exact ⟨x, q, by simp only [gIx, eL, atI_map l i h, Option.map_some]⟩
theorem opSlL (lo hi : Option Int) (l : List α) : Op1 (gSl lo hi) (eL e l) (vL e) (fun Q => Q (cutL l lo hi)) := fun Q q => ⟨_, q, by simp only [gSl, eL, vL, cutL, List.length_map, List.map_take, List.map_drop]⟩
/-! ### built-in functions -/
theorem opLenT (l : List α) : OpN gLen [eT e l] (vV eI) (fun Q => Q (l.length : Int)) := fun Q q => ⟨_, q, by simp only [gLen, eT, List.length_map]⟩
theorem opLenL (l : List α) : OpN gLen [eL e l] (vV eI) (fun Q => Q (l.length : Int)) := fun Q q => ⟨_, q, by simp only [gLen, eL, List.length_map]⟩
theorem opListL (l : List α) : OpN gList [eL e l] (vL e) (fun Q => Q l) := fun Q q => ⟨_, q, rfl⟩
theorem opTupL (l : List α) : OpN gTuple [eL e l] (vV (eT e)) (fun Q => Q l) := fun Q q => ⟨_, q, rfl⟩
theorem bools_map : ∀ l : List Bool, boolsD (l.map eB) = some l
  | [] => rfl
  | x :: xs => by simp only [List.map_cons, boolsD, bools_map xs, Option.map_some]
theorem opAll (l : List Bool) : OpN gAll [eL eB l] (vV eB) (fun Q => Q (l.all id)) := fun Q q => ⟨_, q, by simp only [gAll, eL, bools_map, Option.map_some]⟩
/-! the greatest, the least -/
def maxB (lt : α → α → Bool) (x : α) (xs : List α) : α := xs.foldl (fun a y => if lt a y = true then y else a) x
/-! sorted -/
def sortB (lt : α → α → Bool) (l : List α) : List α := l.mergeSort fun a b => !lt b a
/-! sorted(set(..)) -/
/-! list(range(..)), tuple(range(..)) -/
def rgW (n : Int) : PT (List Int) := fun Q => rgOkB 0 n = true ∧ Q (rangeL 0 n.toNat)
theorem opLRg (a : Int) : Op1 gLRg1 (eI a) (vL eI) (rgW a) := fun Q q => ⟨_, q.2, by simp only [gLRg1, if_pos q.1, rngD_map]⟩
end
end Tv

/-! Tv4: comprehensions of two clauses, sorted by a key; fields, makes, lengths of instances. -/
namespace Tv
open PySem Pv
section
variable {ω α β γ δ ε : Type} {R R1 : ω → Rho}
variable {mi mi1 : IM} {mg mg1 : GM} {mt mt1 : TM} {me : EM} {vs vs1 : List Nat} {e : δ → D} {e1 : ε → D} {e' : γ → D} {Ti : PT (List δ)} {R0 : ω → Rho} {Rb Rb0 : δ → ω → Rho} {Rc Rd : δ → ε → ω → Rho} {re : δ → ε → β → Rv} {tt : δ → PT Bool} {src : δ → PT (List ε)} {tu : δ → ε → PT Bool} {tb : δ → ε → PT β} {v : δ → ε → β → γ}
/-! sorted(.., key=) -/
/-! ### classes -/
variable {ms : AM} {rs : α → List Rv} {Ts : PT α}
theorem wMake {c : Int} {np : Nat} {cm : CM} {ss : α → List SV} {t : α → PT γ} {fs : γ → List D} (ha : W ms R rs Ts R1) (hc : ∀ a, CIn cm c (ss a) fs (t a)) (hp : ∀ w a, passB (R1 w) (rs a) = some (ss a) := by intro _ _; rfl) (hf : ∀ w a, frAll (R1 w) (rs a) = R1 w := by intro _ _; rfl) (hl : ∀ a, (ss a).length + 1 = np := by intro _; rfl) :
    WE (evMake c np cm ms) R (fun x => .sv (.val (objD c (fs x)))) (fun Q => Ts fun a => t a Q) R1 := fun w Q q => by
  obtain ⟨a, w1, q1, e1⟩ := ha w _ q
  obtain ⟨x, q2, e2⟩ := hc a _ q1
  exact ⟨x, w1, q2, by simp only [evMake, e1, hp, hl, e2, hf, Option.bind_some, if_true]⟩
variable {ma : EM} {ra : α → Rv} {Ta : PT α}
end
end Tv

/-! Tv5: more of the same: total tests, starred displays, the row of draws. -/
namespace Tv
open PySem Pv
section
variable {ω α β γ δ : Type} {R R1 R2 : ω → Rho} {ma mb mc : EM} {mt mu : TM} {a b : Bool}
def ifW (b : Bool) (Ta Tb : PT α) : PT α := fun Q => if b = true then Ta Q else Tb Q
theorem wTOr2 (h : W mt R (fun b : Bool => b) (fun Q => Q a) R1) (h2 : W mu R1 (fun b : Bool => b) (fun Q => Q b) R1) : W (tvOr mt mu) R (fun b : Bool => b) (fun Q => Q (a || b)) R1 := fun w Q q => by
  refine wTOr h h2 w Q ?_
  show if a = true then Q true else Q b
  cases a <;> simpa using q
theorem wAnd2 (h : WE ma R (fun a => .sv (.val (eB a))) (fun Q => Q a) R1) (h2 : WE mb R1 (fun a => .sv (.val (eB a))) (fun Q => Q b) R1) : WE (evAnd ma mb) R (fun a => .sv (.val (eB a))) (fun Q => Q (a && b)) R1 := fun w Q q => by
  refine wAnd h h2 w Q ?_
  show if a = true then Q b else Q false
  cases a <;> simpa using q
variable {Tu : PT Bool}
theorem wTOrF (h : W mt R (fun b : Bool => b) (fun Q => Q false) R1) (h2 : W mu R1 (fun b : Bool => b) Tu R1) : W (tvOr mt mu) R (fun b : Bool => b) Tu R1 := fun w Q q => wTOr h h2 w Q (by show if false = true then Q true else Tu Q; rw [if_neg (by decide)]; exact q)
theorem wAndT (h : WE ma R (fun a => .sv (.val (eB a))) (fun Q => Q true) R1) (h2 : WE mb R1 (fun a => .sv (.val (eB a))) Tu R1) : WE (evAnd ma mb) R (fun a => .sv (.val (eB a))) Tu R1 := fun w Q q => wAnd h h2 w Q (by show if true = true then Tu Q else Q false; rw [if_pos rfl]; exact q)
theorem wChain2 {g g' : D → D → Option SV} {ra : α → Rv} {rb : β → Rv} {rc : γ → Rv} {d1 : α → D} {d2 : β → D} {d3 : γ → D} {x : α} {y : β} {z : γ} {p : α → β → Bool} {p' : β → γ → Bool} (ha : WE ma R ra (fun Q => Q x) R1) (hb : WE mb R1 rb (fun Q => Q y) R2) (hc : WE mc R2 rc (fun Q => Q z) R2) (ho : ∀ a b, Op2 g (d1 a) (d2 b) (vV eB) (fun Q => Q (p a b))) (ho' : ∀ b c, Op2 g' (d2 b) (d3 c) (vV eB) (fun Q => Q (p' b c)))
    (h1 : ∀ w a, rdD (R2 w) (ra a) = some (d1 a) := by intro _ _; rfl) (h2 : ∀ w b, rdD (R2 w) (rb b) = some (d2 b) := by intro _ _; rfl) (h3 : ∀ w b, rdD (R2 w) (rc b) = some (d3 b) := by intro _ _; rfl) :
    WE (evChain g g' ma mb mc) R (fun a => .sv (.val (eB a))) (fun Q => Q (p x y && p' y z)) R2 := fun w Q q => by
  refine wChain ha hb hc ho ho' h1 h2 h3 w Q ?_
  show if p x y = true then Q (p' y z) else Q false
  cases e : p x y <;> simp [e] at q ⊢ <;> exact q
/-! displays with stars -/
variable {mr ms : AM} {e : δ → D} {ra : α → Rv} {Ta : PT α} {Td : PT δ} {Tl : PT (List δ)}
end
abbrev retW {α : Type} (x : α) : PT α := fun Q => Q x
section
variable {ω α γ : Type} {R R1 : ω → Rho} {ma : EM} {ra : α → Rv} {Ta : PT α}
end
/-! tests known at once, in a def -/
section
variable {ω α γ : Type} {R R1 : ω → Rho} {mt : TM} {m1 m2 n : SM} {io : Bool} {s : γ → SV} {out : γ → ω → SV} {Tf : PT γ}
end
/-! ### the row of draws -/
def rowD (ns : List Int) (i s b : Int) : List D := [flsD (ns.map .int), .int i, .int s, .int b]
structure RW where
  ns : List Int
  i : Int
  s : Int
  b : Int
  hi : 0 ≤ i
abbrev row (w : RW) : OB := .lst (rowD w.ns w.i w.s w.b)
theorem wPlc0 {R : RW → Rho} (i : Nat) (h : ∀ w, (R w)[i]? = some (some (.own (row w))) := by intro _; rfl) : WE (evVar i) R (fun _ : Unit => .plc i) (fun Q => Q ()) R := fun w Q q => ⟨(), w, q, by simp only [evVar, h w]⟩
theorem flat_ints : ∀ ns : List Int, (ns.map PyData.int).all flat0 = true
  | [] => rfl
  | n :: r => by simp only [List.map_cons, List.all_cons, flat_ints r]; rfl
theorem nlRow (w : RW) : nlS (.own (row w)) = true := by
  simp only [nlS, rowD, nlAll, Pv.nl, flat_ints, Bool.and_self]
theorem wCallIN {α γ : Type} {R R1 : RW → Rho} {ms : AM} {Ts : PT α} {c : CM} {np j : Nat} {s : γ → SV} {rs : α → List Rv} {ss : α → List SV} {t : α → PT γ} (ha : W ms R (fun a => Rv.plc j :: rs a) Ts R1) (hc : ∀ a, CR c (fun w => .own (row w)) (ss a) s (t a)) (hn : ∀ x, nlS (s x) = true) (hj : ∀ w, (R1 w)[j]? = some (some (.own (row w))) := by intro _; rfl) (hq : ∀ a, j ∉ plcs (rs a) := by intro _; simp [plcs])
    (hp : ∀ w a, passB (R1 w) (rs a) = some (ss a) := by intro _ _; rfl) (hl : ∀ a, (ss a).length + 1 = np := by intro _; rfl) (hs : ∀ w w', (R1 w).set j (some (.own (row w'))) = R1 w' := by intro _ _; rfl) :
    WE (evCallI np c ms) R (fun x => .sv (s x)) (fun Q => Ts fun a => t a Q) R1 := fun w Q q => by
  obtain ⟨a, w1, q1, e1⟩ := ha w _ q
  obtain ⟨x, w2, q2, e2⟩ := hc a w1 _ q1
  exact ⟨x, w2, q2, by simp only [evCallI, e1, hj, hq, hp, hl, e2, hn, nlRow, Bool.and_self, hs, Option.bind_some, if_true, if_false]⟩
def takenW (m : Int) : PT Int := fun Q => (0 < m ∧ m < 1000000000) ∧ ∀ r, 0 ≤ r → r < m → Q r
def CR1 (c : CM) (script : List Int) (T : PT Bool) : Prop := ∀ Q, T Q → ∃ a o, Q a ∧ c [.val (flsD (script.map .int))] = some (.val (.bool a), o)
theorem crLaw {nl : Nat} {m : SM} {script : List Int} {s : Bool → SV} {T : PT Bool} (R : RW → Rho) (h : WN false m R s (fun _ _ => .val .none) T) (hs : s = vV eB := by rfl) (hR : ∀ w, [some (.val (flsD (script.map .int)))] ++ List.replicate (nl - 1) none = R w := by intro _; rfl) : CR1 (runB false nl m) script T := fun Q q => by
  obtain ⟨a, w, x, q1, e1, ok⟩ := h ⟨[], 0, 0, 0, by decide⟩ _ q
  refine ⟨a, .val .none, q1, ?_⟩
  unfold runB
  have z := hR ⟨[], 0, 0, 0, by decide⟩
  subst hs
  simp only [List.map_cons, List.map_nil, List.length_cons, List.length_nil] at z ⊢
  rw [z, e1]
  exact ok
theorem sRow {P : List Nat} {j : Nat} {ns : List Int} {s0 : Int} {R : RW → Rho} {K : Unit → RW → Rho} {me : EM} (hm : ∀ w, me (R w) = some (.sv (.own (.lst (rowD ns 0 s0 0))), R w) := by intro _; rfl) (hi : j ∉ P := by decide) (hK : ∀ w w', (R w).set j (some (.own (row w'))) = K () w' := by intro _ _; rfl) :
    WS (exAsg P j me) R K (fun Q => Q ()) := fun w Q q => ⟨(), ⟨ns, 0, s0, 0, by decide⟩, q, by
  simp only [exAsg, hm, Option.bind_some, stoS, if_neg hi]
  rw [← hK w]⟩
end Tv

/-! Tv6: how typed functions are answered. -/
namespace Tv
open PySem Pv
section
variable {α β γ δ ε σ : Type}
theorem size_eq : sizeLine = 16777216 := by decide
/-! ranges, indices, sizes -/
theorem mem_rangeL {a x : Int} {n : Nat} : x ∈ rangeL a n ↔ a ≤ x ∧ x < a + n := by
  simp only [rangeL, List.mem_map, List.mem_range]
  constructor
  · rintro ⟨i, hi, rfl⟩; omega
  · rintro ⟨h1, h2⟩; exact ⟨(x - a).toNat, by omega, by omega⟩
theorem rangeL_len {a : Int} {n : Nat} : (rangeL a n).length = n := by simp [rangeL]
theorem rangeL_get {a : Int} {n i : Nat} (h : i < n) : (rangeL a n)[i]? = some (a + i) := by simp [rangeL, h]
theorem rangeL_get' {a x : Int} {n i : Nat} (h : (rangeL a n)[i]? = some x) : i < n ∧ x = a + i := by
  have hi : i < n := by
    have := (List.getElem?_eq_some_iff.mp h).1
    rwa [rangeL_len] at this
  rw [rangeL_get hi] at h
  exact ⟨hi, by cases h; rfl⟩
theorem rangeL_lt {a : Int} {n : Nat} : (rangeL a n).Pairwise (· < ·) := by
  unfold rangeL
  rw [List.pairwise_map]
  exact List.pairwise_lt_range.imp fun h => by omega
theorem big_ok {n : Int} (h1 : -1000000000 ≤ n) (h2 : n ≤ 1000000000) : big62 n = true := Nat.ble_eq_true_of_le (by omega)
theorem rangeW_ok {n : Int} {Q : List Int → Prop} (h1 : -1000000000 ≤ n) (h2 : n ≤ 1000000000) (q : Q (rangeL 0 n.toNat)) : rangeW n Q := ⟨big_ok h1 h2, q⟩
theorem rangeW_nat {n : Nat} {Q : List Int → Prop} (h2 : n ≤ 1000000000) (q : Q (rangeL 0 n)) : rangeW (n : Int) Q := rangeW_ok (by omega) (by omega) (by simpa using q)
theorem range2W_ok {a b : Int} {Q : List Int → Prop} (h1 : -1000000000 ≤ a) (h2 : a ≤ 1000000000) (h3 : -1000000000 ≤ b) (h4 : b ≤ 1000000000) (q : Q (rangeL a (b - a).toNat)) : range2W a b Q := ⟨⟨big_ok h1 h2, big_ok h3 h4⟩, q⟩
theorem rgW_ok {n : Int} {Q : List Int → Prop} (h1 : -1000000000 ≤ n) (h2 : n ≤ 10000000) (q : Q (rangeL 0 n.toNat)) : rgW n Q := ⟨by
  simp only [rgOkB, Bool.and_eq_true]
  refine ⟨⟨big_ok (by decide) (by decide), big_ok h1 (by omega)⟩, Nat.ble_eq_true_of_le (by omega)⟩, q⟩
theorem atI_at {l : List α} {i : Int} (h0 : 0 ≤ i) {x : α} (h : l[i.toNat]? = some x) : L2.atI l i = some x := by
  have hl := (List.getElem?_eq_some_iff.mp h).1
  unfold L2.atI L2.ixN
  rw [if_pos h0, if_pos (by omega)]
  exact h
theorem ixW_ok {l : List α} {i : Int} {Q : α → Prop} (h0 : 0 ≤ i) {x : α} (h : l[i.toNat]? = some x) (q : Q x) : ixW l i Q := ⟨x, atI_at h0 h, q⟩
theorem ixW_nat {l : List α} {i : Nat} {Q : α → Prop} {x : α} (h : l[i]? = some x) (q : Q x) : ixW l (i : Int) Q := ixW_ok (by omega) (by simpa using h) q
theorem appW_ok {l : List α} {x : α} {Q : List α → Prop} (h : l.length < 16777216) (q : Q (l ++ [x])) : appW l x Q := ⟨by rw [size_eq]; exact h, q⟩
theorem mulW_l {a b : Int} {Q : Int → Prop} (h1 : -1000000000 ≤ a) (h2 : a ≤ 1000000000) (q : Q (a * b)) : mulW a b Q := ⟨by
  simp only [cMul, Bool.or_eq_true]; exact .inl (Nat.ble_eq_true_of_le (by omega)), q⟩
theorem setW_ok {l : List α} {i : Int} {x : α} {Q : List α → Prop} (h0 : 0 ≤ i) (h1 : i < l.length) (q : Q (l.set i.toNat x)) : setW l i x Q := ⟨i.toNat, by
  unfold L2.ixN; rw [if_pos h0, if_pos (by omega)], q⟩
theorem takenW_ok {m : Int} {Q : Int → Prop} (h0 : 0 < m) (h1 : m < 1000000) (q : ∀ r, 0 ≤ r → r < m → Q r) : takenW m Q := ⟨⟨h0, by omega⟩, q⟩
theorem ifW_ok {b : Bool} {Ta Tb : PT α} {Q : α → Prop} (h1 : b = true → Ta Q) (h2 : b = false → Tb Q) : ifW b Ta Tb Q := by
  cases b with
  | true => exact h1 rfl
  | false => exact h2 rfl
theorem ifW_inv {b : Bool} {Ta Tb : PT α} {Q : α → Prop} (P : α → Prop) (h1 : b = true → ∀ Q, (∀ a, P a → Q a) → Ta Q) (h2 : b = false → ∀ Q, (∀ a, P a → Q a) → Tb Q) (q : ∀ a, P a → Q a) : ifW b Ta Tb Q := ifW_ok (fun e => h1 e Q q) fun e => h2 e Q q
theorem andW_ok {Ta Tb : PT Bool} (a b : Bool) {Q : Bool → Prop} (ha : ∀ Q, Q a → Ta Q) (hb : a = true → ∀ Q, Q b → Tb Q) (q : Q (a && b)) : andW Ta Tb Q := by
  refine ha _ ?_
  cases a with
  | true => rw [if_pos rfl]; exact hb rfl Q (by simpa using q)
  | false => rw [if_neg (by decide)]; simpa using q
theorem orW_ok {Ta Tb : PT Bool} (a b : Bool) {Q : Bool → Prop} (ha : ∀ Q, Q a → Ta Q) (hb : a = false → ∀ Q, Q b → Tb Q) (q : Q (a || b)) : orW Ta Tb Q := by
  refine ha _ ?_
  cases a with
  | false => rw [if_neg (by decide)]; exact hb rfl Q (by simpa using q)
  | true => rw [if_pos rfl]; simpa using q
/-! comprehensions -/
theorem mapG_ok {f : δ → PT γ} (g : δ → γ) : ∀ {l : List δ} {Q : List γ → Prop}, (∀ x ∈ l, ∀ Q, Q (g x) → f x Q) → Q (l.map g) → mapG f l Q
  | [], Q, _, q => q
  | x :: xs, Q, h, q => h x (.head _) _ (mapG_ok g (fun y hy => h y (.tail _ hy)) q)
theorem mapW_ok {l : List δ} {f : δ → PT γ} {Q : List γ → Prop} (g : δ → γ) (hl : l.length ≤ 16777216) (h : ∀ x ∈ l, ∀ Q, Q (g x) → f x Q) (q : Q (l.map g)) : mapW l f Q := ⟨by rw [size_eq]; exact hl, mapG_ok g h q⟩
theorem compG_ok {t : δ → PT Bool} {f : δ → PT γ} (p : δ → Bool) (g : δ → γ) : ∀ {l : List δ} {Q : List γ → Prop}, (∀ x ∈ l, ∀ Q, Q (p x) → t x Q) → (∀ x ∈ l, p x = true → ∀ Q, Q (g x) → f x Q) → Q ((l.filter p).map g) → compG t f l Q
  | [], Q, _, _, q => q
  | x :: xs, Q, ht, hf, q => by
    refine ht x (.head _) _ ?_
    by_cases e : p x = true
    · rw [if_pos e]
      refine hf x (.head _) e _ (compG_ok p g (fun y hy => ht y (.tail _ hy)) (fun y hy => hf y (.tail _ hy)) ?_)
      simpa [e] using q
    · rw [if_neg e]
      refine compG_ok p g (fun y hy => ht y (.tail _ hy)) (fun y hy => hf y (.tail _ hy)) ?_
      simpa [e] using q
theorem compW_ok {l : List δ} {t : δ → PT Bool} {f : δ → PT γ} {Q : List γ → Prop} (p : δ → Bool) (g : δ → γ) (hl : l.length ≤ 16777216) (ht : ∀ x ∈ l, ∀ Q, Q (p x) → t x Q) (hf : ∀ x ∈ l, p x = true → ∀ Q, Q (g x) → f x Q) (q : Q ((l.filter p).map g)) : compW l t f Q := ⟨by rw [size_eq]; exact hl, compG_ok p g ht hf q⟩
theorem compW_f {l : List δ} {t : δ → PT Bool} {f : δ → PT δ} {Q : List δ → Prop} (p : δ → Bool) (hl : l.length ≤ 16777216) (ht : ∀ x ∈ l, ∀ Q, Q (p x) → t x Q) (hf : ∀ x ∈ l, ∀ Q, Q x → f x Q) (q : Q (l.filter p)) : compW l t f Q := compW_ok p id hl ht (fun x hx _ Q q => hf x hx Q q) (by simpa using q)
theorem compG_sub {t : δ → PT Bool} {f : δ → PT γ} (g : δ → γ) : ∀ {l : List δ} {Q : List γ → Prop}, (∀ x ∈ l, ∀ Q, (∀ b, Q b) → t x Q) → (∀ x ∈ l, ∀ Q, Q (g x) → f x Q) → (∀ m : List δ, m.Sublist l → Q (m.map g)) → compG t f l Q
  | [], Q, _, _, q => q [] .slnil
  | x :: xs, Q, ht, hf, q => by
    refine ht x (.head _) _ fun b => ?_
    cases b with
    | true =>
      rw [if_pos rfl]
      exact hf x (.head _) _ (compG_sub g (fun y hy => ht y (.tail _ hy)) (fun y hy => hf y (.tail _ hy)) fun m hm => q (x :: m) (.cons₂ x hm))
    | false =>
      rw [if_neg (by decide)]
      exact compG_sub g (fun y hy => ht y (.tail _ hy)) (fun y hy => hf y (.tail _ hy)) fun m hm => q m (.cons x hm)
theorem compW_sub {l : List δ} {t : δ → PT Bool} {f : δ → PT δ} {Q : List δ → Prop} (hl : l.length ≤ 16777216) (ht : ∀ x ∈ l, ∀ Q, (∀ b, Q b) → t x Q) (hf : ∀ x ∈ l, ∀ Q, Q x → f x Q) (q : ∀ m : List δ, m.Sublist l → Q m) : compW l t f Q := ⟨by rw [size_eq]; exact hl, compG_sub id ht hf fun m hm => by simpa using q m hm⟩
/-! loops -/
theorem forW_inv {f : δ → σ → PT σ} (I : Nat → σ → Prop) : ∀ {l : List δ} {s : σ} {Q : σ → Prop} (k : Nat), I k s → (∀ i x s, l[i]? = some x → I (k + i) s → ∀ Q, (∀ s', I (k + i + 1) s' → Q s') → f x s Q) → (∀ s, I (k + l.length) s → Q s) → forW f l s Q
  | [], s, Q, k, h0, _, q => q s h0
  | x :: xs, s, Q, k, h0, st, q => st 0 x s rfl h0 _ fun s' h' => forW_inv I (k + 1) h' (fun i y t e hi Q' q' => st (i + 1) y t (by simpa using e) (by rw [show k + (i + 1) = k + 1 + i by omega]; exact hi) Q' fun u hu => q' u (by rw [show k + 1 + i + 1 = k + (i + 1) + 1 by omega]; exact hu)) fun t ht => q t (by rw [show k + (x :: xs).length = k + 1 + xs.length by simp; omega]; exact ht)
theorem forR_inv {f : δ → σ → PT (Stp σ β)} (I : Nat → σ → Prop) : ∀ {l : List δ} {s : σ} {Q : Sum σ β → Prop} (k : Nat), I k s → (∀ i x s, l[i]? = some x → I (k + i) s → ∀ Q : Stp σ β → Prop, (∀ s', I (k + i + 1) s' → Q (.go s')) → f x s Q) → (∀ s, I (k + l.length) s → Q (.inl s)) → forR f l s Q
  | [], s, Q, k, h0, _, q => q s h0
  | x :: xs, s, Q, k, h0, st, q => st 0 x s rfl h0 _ fun s' h' => forR_inv I (k + 1) h' (fun i y t e hi Q' q' => st (i + 1) y t (by simpa using e) (by rw [show k + (i + 1) = k + 1 + i by omega]; exact hi) Q' fun u hu => q' u (by rw [show k + 1 + i + 1 = k + (i + 1) + 1 by omega]; exact hu)) fun t ht => q t (by rw [show k + (x :: xs).length = k + 1 + xs.length by simp; omega]; exact ht)
theorem forR_unit {f : δ → Unit → PT (Stp Unit β)} {l : List δ} {Q : Sum Unit β → Prop} (h : ∀ x ∈ l, ∀ Q : Stp Unit β → Prop, Q (.go ()) → f x () Q) (q : Q (.inl ())) : forR f l () Q :=
  forR_inv (fun _ _ => True) 0 trivial (fun i x s e _ Q q => h x (List.mem_of_getElem? e) Q (q () trivial)) fun _ _ => q
theorem forW_unit {f : δ → Unit → PT Unit} {l : List δ} {Q : Unit → Prop} (h : ∀ x ∈ l, ∀ Q, Q () → f x () Q) (q : Q ()) : forW f l () Q :=
  forW_inv (fun _ _ => True) 0 trivial (fun i x s e _ Q q => h x (List.mem_of_getElem? e) Q (q () trivial)) fun _ _ => q
/-! sorting -/
structure TotB (lt : α → α → Bool) : Prop where
  irr : ∀ a, lt a a = false
  trans : ∀ a b c, lt a b = true → lt b c = true → lt a c = true
  tri : ∀ a b, lt a b = false → lt b a = false → a = b
theorem ltI_tot : TotB ltI := ⟨fun a => by simp, fun a b c h1 h2 => by simp at *; omega, fun a b h1 h2 => by simp at *; omega⟩
theorem ltLex_tot [DecidableEq α] {lt : α → α → Bool} (h : TotB lt) : TotB (ltLex lt) where
  irr := by
    intro l
    induction l with
    | nil => rfl
    | cons x xs ih => simp [ltLex, ih]
  trans := by
    intro a
    induction a with
    | nil => intro b c h1 h2; cases b <;> cases c <;> simp_all [ltLex]
    | cons x xs ih =>
      intro b c h1 h2
      cases b with
      | nil => simp [ltLex] at h1
      | cons y ys =>
        cases c with
        | nil => simp [ltLex] at h2
        | cons z zs =>
          simp only [ltLex] at *
          by_cases e1 : x = y
          · subst e1
            rw [if_pos rfl] at h1
            by_cases e2 : x = z
            · subst e2; rw [if_pos rfl] at h2 ⊢; exact ih ys zs h1 h2
            · rw [if_neg e2] at h2 ⊢; exact h2
          · rw [if_neg e1] at h1
            by_cases e2 : y = z
            · subst e2; rw [if_neg e1]; exact h1
            · rw [if_neg e2] at h2
              have h3 := h.trans _ _ _ h1 h2
              have e3 : x ≠ z := fun e => by rw [e, h.irr] at h3; cases h3
              rw [if_neg e3]; exact h3
  tri := by
    intro a
    induction a with
    | nil => intro b h1 h2; cases b <;> simp_all [ltLex]
    | cons x xs ih =>
      intro b h1 h2
      cases b with
      | nil => simp [ltLex] at h2
      | cons y ys =>
        simp only [ltLex] at *
        by_cases e : x = y
        · subst e
          rw [if_pos rfl] at h1 h2
          rw [ih ys h1 h2]
        · rw [if_neg e] at h1
          rw [if_neg (Ne.symm e)] at h2
          exact absurd (h.tri _ _ h1 h2) e
theorem ltP_tot [DecidableEq α] [DecidableEq β] {lt : α → α → Bool} {lu : β → β → Bool} (h : TotB lt) (g : TotB lu) : TotB (ltP lt lu) where
  irr := fun a => by simp [ltP]
  trans := fun a b c h1 h2 => by
    simp only [ltP] at *
    by_cases e1 : a.1 = b.1
    · rw [if_pos e1] at h1
      by_cases e2 : b.1 = c.1
      · rw [if_pos e2] at h2
        rw [if_pos (e1.trans e2)]
        split at h1
        · cases h1
        · split at h2
          · cases h2
          · have h3 := g.trans _ _ _ h1 h2
            have e3 : a.2 ≠ c.2 := fun e => by rw [e, g.irr] at h3; cases h3
            rw [if_neg e3]; exact h3
      · rw [if_neg e2] at h2
        rw [e1, if_neg e2]; exact h2
    · rw [if_neg e1] at h1
      by_cases e2 : b.1 = c.1
      · rw [← e2, if_neg e1]; exact h1
      · rw [if_neg e2] at h2
        have h3 := h.trans _ _ _ h1 h2
        have e3 : a.1 ≠ c.1 := fun e => by rw [e, h.irr] at h3; cases h3
        rw [if_neg e3]; exact h3
  tri := fun a b h1 h2 => by
    simp only [ltP] at *
    by_cases e1 : a.1 = b.1
    · rw [if_pos e1] at h1
      rw [if_pos e1.symm] at h2
      by_cases e2 : a.2 = b.2
      · exact Prod.ext e1 e2
      · rw [if_neg e2] at h1
        rw [if_neg (Ne.symm e2)] at h2
        exact absurd (g.tri _ _ h1 h2) e2
    · rw [if_neg e1] at h1
      rw [if_neg (Ne.symm e1)] at h2
      exact absurd (h.tri _ _ h1 h2) e1
end
end Tv

/-! Tv7: rows of unlike things. -/
namespace Tv
open PySem Pv
section
variable {α β γ : Type}
def hN (_ : Unit) : List D := []
def hC (e : α → D) (fs : β → List D) (p : α × β) : List D := e p.1 :: fs p.2
def eR (fs : β → List D) (p : β) : D := .tuple (fs p)
def eH (fs : β → List D) (p : β) : D := .list (fs p)
class GoodL [DecidableEq β] (fs : β → List D) (n : outParam Nat) : Prop where
  plain : ∀ a, PyData.plainAll (fs a) = true
  depth : ∀ a, PyData.depthAll (fs a) ≤ n
  eqv : ∀ a b, PyData.eqvAll (fs a) (fs b) = decide (a = b)
instance : GoodL hN 0 := ⟨fun _ => rfl, fun _ => by simp [hN, PyData.depthAll], fun a b => by simp [hN, PyData.eqvAll]⟩
instance [DecidableEq α] [DecidableEq β] {e : α → D} {fs : β → List D} {n m : Nat} [g : Good e n] [h : GoodL fs m] : GoodL (hC e fs) (n + m) := ⟨fun a => by simp [hC, PyData.plainAll, g.plain, h.plain], fun a => by have := g.depth a.1; have := h.depth a.2; simp [hC, PyData.depthAll]; omega, fun a b => by
  obtain ⟨a1, a2⟩ := a
  obtain ⟨b1, b2⟩ := b
  simp only [hC, PyData.eqvAll, g.eqv, h.eqv, Prod.mk.injEq, Bool.decide_and]⟩
instance [DecidableEq β] {fs : β → List D} {m : Nat} [h : GoodL fs m] : Good (eR fs) (m + 1) := ⟨fun a => by simp [eR, PyData.plain, h.plain], fun a => by have := h.depth a; simp [eR, PyData.depth]; omega, fun a b => by simp only [eR, PyData.eqv, h.eqv]⟩
instance [DecidableEq β] {fs : β → List D} {m : Nat} [h : GoodL fs m] : Good (eH fs) (m + 1) := ⟨fun a => by simp [eH, PyData.plain, h.plain], fun a => by have := h.depth a; simp [eH, PyData.depth]; omega, fun a b => by simp only [eH, PyData.eqv, h.eqv]⟩
instance {fs : β → List D} : NN (eR fs) := ⟨fun _ => by simp [eR]⟩
instance {fs : β → List D} : NN (eH fs) := ⟨fun _ => by simp [eH]⟩
class NlL (fs : β → List D) : Prop where
  nl : ∀ a, nlAll (fs a) = true
instance : NlL hN := ⟨fun _ => rfl⟩
instance {e : α → D} {fs : β → List D} [g : Nl e] [h : NlL fs] : NlL (hC e fs) := ⟨fun a => by simp [hC, nlAll, g.nl, h.nl]⟩
instance {fs : β → List D} [h : NlL fs] : Nl (eR fs) := ⟨fun a => by simp [eR, Pv.nl, h.nl]⟩
end
section
variable {ω α γ : Type} {R R1 R2 : ω → Rho} {ms : AM} {rs : α → List Rv} {Ts : PT α}
end
end Tv

namespace Tv
open PySem L2 Pv
theorem opIntB (a : Bool) : OpN gInt [eB a] (vV eI) (fun Q => Q (if a = true then 1 else 0)) := fun Q q => ⟨_, q, by cases a <;> rfl⟩
theorem opMulA (a b : Int) : Op2 gMulA (eI a) (eI b) (vV eI) (mulW a b) := opMul a b
theorem map_rep {α : Type} (e : α → D) (l : List α) (n : Nat) : (List.replicate n (l.map e)).flatten = (List.replicate n l).flatten.map e := by
  rw [List.map_flatten, List.map_replicate]
def repLW {α : Type} (l : List α) (k : Int) : PT (List α) := fun Q => (0 ≤ k ∧ k ≤ 1000 ∧ l.length ≤ 1000) ∧ Q (List.replicate k.toNat l).flatten
theorem repOkL_of {α : Type} {e : α → D} {l : List α} {k : Int} (h : 0 ≤ k ∧ k ≤ 1000 ∧ l.length ≤ 1000) : repOkL (l.map e) k = true := by
  obtain ⟨h2, h3, h4⟩ := h
  simp only [repOkL, Bool.and_eq_true, decide_eq_true_eq, Nat.ble_eq, List.length_map]
  exact ⟨⟨h2, by omega⟩, h4⟩
theorem opRepL {α : Type} {e : α → D} (l : List α) (k : Int) : Op2 gMulA (eL e l) (eI k) (vL e) (repLW l k) := fun Q q => ⟨_, q.2, by
  show (if repOkL (l.map e) k = true then some (SV.own (.lst (List.replicate k.toNat (l.map e)).flatten)) else none) = _
  rw [if_pos (repOkL_of q.1), map_rep]; try rfl⟩
section
variable {ω α β γ δ σ τ : Type} {R R1 R2 R3 : ω → Rho} {m n : SM} {io esc : Bool} {ks : List Nat} {kp : List Nat × List Nat} {mi : IM} {mg : GM} {e : δ → D} {Ti : PT (List δ)} {K0 : σ → ω → Rho} {Kb : δ → σ → ω → Rho} {KL : τ → ω → Rho} {s : γ → SV} {out : γ → ω → SV} {fr : δ → σ → PT (Stp σ γ)}
def thenL (f : σ → PT (Stp τ γ)) : Sum σ γ → PT (Stp τ γ)
  | .inl s, Q => f s Q
  | .inr b, Q => Q (.ret b)
theorem lForR {Tr : σ → PT (Stp τ γ)} (s0 : σ) (hi : WI mi R1 e Ti R2) (hb : ∀ x s', WL io false [] m (Kb x s') K0 s out (fr x s')) (hr : ∀ s', WL io esc ks n (K0 s') KL s out (Tr s')) (h0 : ∀ w, R2 w = K0 s0 w := by intro _; rfl) (hg : ∀ w x s, mg (e x) (K0 s w) = some (Kb x s w) := by intro _ _ _; rfl) (hp : ∀ w, pre kp (R w) = R1 w := by intro _; rfl) :
    WL io esc ks (exSeq (exPre kp (exFor mi mg m)) n) R KL s out (fun Q => Ti fun l => forR fr l s0 fun r => thenL Tr r Q) := fun w Q q => by
  obtain ⟨l, w1, q1, e1⟩ := hi w _ q
  obtain ⟨r, w2, x, q2, e2, ok⟩ := forR_go hb hg l s0 w1 _ q1
  have e3 : exPre kp (exFor mi mg m) (R w) = some x := by simp only [exPre, hp, exFor, e1, h0, e2, Option.bind_some]
  cases r with
  | inl s' =>
    obtain rfl : x = _ := ok
    obtain ⟨a, w3, y, q3, e4, ok4⟩ := hr s' w2 _ q2
    exact ⟨a, w3, y, q3, by simp only [exSeq, e3, e4, Option.bind_some], ok4⟩
  | inr b =>
    obtain ⟨⟨r, ρ, rfl⟩, ok⟩ := ok
    exact ⟨.ret b, w2, _, q2, by simp only [exSeq, e3, Option.bind_some], ⟨r, ρ, rfl⟩, ok⟩
end
def eqB {α : Type} [DecidableEq α] (a b : α) : Bool := decide (a = b)
def insW {α : Type} (l : List α) (i : Int) (x : α) : PT (List α) := fun Q => (0 ≤ i ∧ i ≤ l.length ∧ l.length < sizeLine) ∧ Q (l.take i.toNat ++ x :: l.drop i.toNat)
theorem f_ins {α : Type} {e : α → D} {l : List α} (i : Int) (x : α) (Q : List α → Prop) (h : insW l i x Q) : ∃ l' d, Q l' ∧ fInsert (l.map e) [eI i, e x] = some (d, l'.map e) := by
  obtain ⟨⟨h1, h2, h3⟩, q⟩ := h
  refine ⟨_, .none, q, ?_⟩
  show (if (decide (0 ≤ i) && Nat.ble i.toNat (l.map e).length) = true then _ else none) = _
  rw [if_pos (by rw [List.length_map, decide_eq_true h1, Nat.ble_eq_true_of_le (by omega)]; rfl), if_pos (by rw [List.length_map]; exact h3)]
  simp [List.map_take, List.map_drop]
def eX {α β : Type} (e : α → D) (f : β → D) : Sum α β → D
  | .inl a => e a
  | .inr b => f b
def sumW {α β γ : Type} (v : Sum α β) (T1 : α → PT γ) (T2 : β → PT γ) : PT γ := fun Q => match v with
  | .inl a => T1 a Q
  | .inr b => T2 b Q
end Tv

/-! Tv9: dicts. -/
namespace Tv
open PySem Pv
structure KyE {κ : Type} (t : Bool) (kf : κ → List Int) (ek : κ → D) : Prop where
  key : ∀ k, keyOf t (ek k) = some (kf k)
  inj : ∀ a b, kf a = kf b → a = b
  one : t = true ∨ ∀ k, (kf k).length = 1
section
variable {κ β : Type} [DecidableEq κ] {t : Bool} {kf : κ → List Int} {ek : κ → D} {e : β → D}
def getM (m : List (κ × β)) (k : κ) : Option β := (m.find? fun q => decide (q.1 = k)).map (·.2)
def hasM (m : List (κ × β)) (k : κ) : Bool := m.any fun q => decide (q.1 = k)
theorem hasM_get (m : List (κ × β)) (k : κ) : (getM m k).isSome = hasM m k := by
  unfold getM hasM
  induction m with
  | nil => rfl
  | cons q m ih =>
    by_cases c : q.1 = k
    · simp [c]
    · simpa [List.find?_cons, c] using ih
end
end Tv

/-! TvA: dicts that are walked, asked, told as lists. -/
namespace Tv
open PySem Pv
section
variable {κ β : Type} [DecidableEq κ] {t : Bool} {kf : κ → List Int} {ek : κ → D} {e : β → D}
def keysM (m : List (κ × β)) : List κ := m.map (·.1)
variable {ω α γ δ : Type} {R R1 R2 R3 : ω → Rho} {ma mk mx : EM} {ra : α → Rv} {rk : γ → Rv} {Ta : PT α} {Tk : PT γ} {Tx : PT β}
end
/-! freezing ahead of a return -/
end Tv

/-! TvB: an option that is some one. -/
namespace Tv
open PySem Pv
def unO {α : Type} (o : Option α) (Q : α → Prop) : Prop := ∃ v, o = some v ∧ Q v
theorem wUnO {ω α : Type} {m : EM} {R R1 : ω → Rho} {e : α → D} {T : PT (Option α)} (h : WE m R (fun o => .sv (.val (eO e o))) T R1) : WE m R (fun a => .sv (.val (e a))) (fun Q => T fun o => unO o Q) R1 := fun w Q q => by
  obtain ⟨o, w1, ⟨v, q1, q2⟩, e1⟩ := h w _ q
  subst q1
  exact ⟨v, w1, q2, e1⟩
@[simp] theorem unO_some {α : Type} (v : α) (Q : α → Prop) : unO (some v) Q ↔ Q v := ⟨fun ⟨_, h, q⟩ => by cases h; exact q, fun q => ⟨v, rfl, q⟩⟩
end Tv

/-! TvC: comprehensions over lists that stay their owner's. -/
namespace Tv
open PySem Pv
variable {ω α δ γ : Type}
end Tv

/-! TvD: a list told from its end. -/
namespace Tv
open PySem Pv
end Tv

/-! TvE: xs[i] += e. -/
namespace Tv
open PySem Pv
end Tv

/-! TvF: l.index(x) of pairs of ints. -/
namespace Tv
open PySem Pv
def idxF {δ : Type} [DecidableEq δ] (k : δ) : List δ → Option Nat
  | [] => none
  | j :: r => if j = k then some 0 else (idxF k r).map (· + 1)
end Tv

/-! TvG: one of two kinds; what may raise. -/
namespace Tv
open PySem Pv
class Dj {α β : Type} (e : α → D) (f : β → D) : Prop where
  ne : ∀ a b, PyData.eqv (e a) (f b) = false
  en : ∀ a b, PyData.eqv (f b) (e a) = false
instance {α : Type} {e : α → D} : Dj (eT e) eS := ⟨fun a b => by simp [eT, PyData.eqv], fun a b => by simp [eT, PyData.eqv]⟩
instance {α β : Type} {e : α → D} {f : β → D} : Dj (eP e f) eS := ⟨fun a b => by simp [eP, PyData.eqv], fun a b => by simp [eP, PyData.eqv]⟩
instance {α β γ : Type} {e : α → D} {f : β → D} {g : γ → D} : Dj (eQ e f g) eS := ⟨fun a b => by simp [eQ, PyData.eqv], fun a b => by simp [eQ, PyData.eqv]⟩
instance {α : Type} {e : α → D} : Dj (eL e) eS := ⟨fun a b => by simp [eL, PyData.eqv], fun a b => by simp [eL, PyData.eqv]⟩
instance : Dj eI eS := ⟨fun a b => by simp [PyData.eqv], fun a b => by simp [PyData.eqv]⟩
instance {α β : Type} [DecidableEq α] [DecidableEq β] {e : α → D} {f : β → D} {n m : Nat} [g : Good e n] [h : Good f m] [d : Dj e f] : Good (eX e f) (n + m) := ⟨fun a => by cases a with
  | inl a => exact g.plain a
  | inr a => exact h.plain a, fun a => by cases a with
  | inl a => exact Nat.le_trans (g.depth a) (Nat.le_add_right _ _)
  | inr a => exact Nat.le_trans (h.depth a) (Nat.le_add_left _ _), fun a b => by cases a with
  | inl a => cases b with
    | inl b => simp only [eX, g.eqv]; by_cases h : a = b <;> simp [h]
    | inr b => simp only [eX, d.ne]; simp
  | inr a => cases b with
    | inl b => simp only [eX, d.en]; simp
    | inr b => simp only [eX, h.eqv]; by_cases h : a = b <;> simp [h]⟩
instance {α β : Type} {e : α → D} {f : β → D} [h : Nl e] [i : Nl f] : Nl (eX e f) := ⟨fun a => by cases a with
  | inl a => exact h.nl a
  | inr a => exact i.nl a⟩
section
variable {ω α β γ : Type} {m : EM} {R R1 R2 : ω → Rho} {e : α → D} {f : β → D}
end
section
variable {α : Type} {e : α → D}
end
/-! ### what may raise -/
abbrev Pay := Str → List (Str × D)
abbrev oN {γ ω : Type} : γ → ω → SV := fun _ _ => .val .none
section
variable {ω α β γ : Type} {me : EM} {R R1 R2 : ω → Rho} {s : α → SV} {sr : γ → SV} {T : PT (α ⊕ Str)} {io : Bool} {out : γ → ω → SV}
variable {pay : Pay}
variable {δ : Type} {K : δ → ω → Rho}
/-! l.index(x) of strings -/
/-! ### an if whose block may end the def, or goes on as before -/
section
variable {ω α γ σ : Type} {io : Bool} {esc : Bool} {ks : List Nat} {mt : TM} {m1 m2 n : SM} {R R1 : ω → Rho} {KL : σ → ω → Rho} {s : γ → SV} {out : γ → ω → SV} {Tt : PT Bool}
end
end
end Tv

/-! TvH: defs as values; try: x = f(..) except C as e: x = a if isinstance(e, D) else b. -/
namespace Tv
open PySem Pv
section
variable {ω α γ : Type} {ms : AM} {rs : α → List Rv} {Ts : PT α} {R R1 : ω → Rho} {i : Nat} {L : List (Str × Nat × CM)} {nm : Str}
end
section
variable {pay : Pay} {ω α δ : Type} {me : EM} {R R1 : ω → Rho} {s : α → SV} {T : PT (Sum α Str)} {K : δ → ω → Rho}
end
end Tv
/-! ### a loop over a few things of many kinds, turn by turn -/
namespace Tv
open PySem Pv
section
variable {ω α γ : Type} {io : Bool} {ks : List Nat} {mi : IM} {mg : GM} {m n : SM} {R R1 R2 Kb : ω → Rho} {K0 : Unit → ω → Rho} {s : γ → SV} {out : γ → ω → SV} {kp : List Nat × List Nat}
end
def unX {α β : Type} (r : Sum α β) (Q : α → Prop) : Prop := ∃ v, r = .inl v ∧ Q v
@[simp] theorem unX_inl {α β : Type} (v : α) (Q : α → Prop) : unX (.inl v : Sum α β) Q ↔ Q v := ⟨fun ⟨_, h, q⟩ => by cases h; exact q, fun q => ⟨v, rfl, q⟩⟩
end Tv
namespace Tv
open PySem Pv
section
variable {pay : Pay} {ω α γ : Type} {io : Bool} {me : EM} {R R1 : ω → Rho} {s : α → SV} {sr : γ → SV} {out : γ → ω → SV} {T : PT (Sum α Str)}
end
end Tv
namespace Tv
open PySem Pv
section
variable {pay : Pay} {ω α γ : Type} {io : Bool} {me : EM} {R R1 : ω → Rho} {s : α → SV} {sr : γ → SV} {out : γ → ω → SV} {T : PT (Sum α Str)}
end
end Tv
namespace Tv
open PySem Pv
def ltStr (a b : Str) : Bool := PySem.W.dataLt (.str a) (.str b)
instance : Ordd eS ltStr := ⟨fun a b => by simp [PySem.W.alike], fun _ _ => rfl, fun _ => by simp⟩
end Tv

/-! TvI: values of any kind. -/
namespace Tv
open PySem Pv
section
variable {ω α β : Type} {m : EM} {R R1 : ω → Rho} {e : α → D} {e' : β → D} {T : PT α}
end
end Tv

/-! TvJ: what may raise, within an expression; answers told otherwise. -/
namespace Tv
open PySem Pv
section
variable {pay : Pay} {ω α β γ : Type} {me : EM} {R R1 : ω → Rho} {s : α → SV} {s' : γ → SV} {T : PT (α ⊕ Str)}
end
end Tv

/-! TvK: walks of a list's last dict, two items set at once, answers of any kind from try, places of tuples. -/
namespace Tv
open PySem Pv
section
variable {κ β : Type} [DecidableEq κ] {t : Bool} {kf : κ → List Int} {ek : κ → D} {e : β → D}
end
section
variable {pay : Pay} {ω γ δ : Type} {me m1 m2 : EM} {R R1 : ω → Rho} {io : Bool} {out : D → ω → SV}
end
/-! places of tuples -/
end Tv

/-! TvL: a tuple that the program names, as a value. -/
namespace Tv
open PySem Pv
section
variable {ω α δ : Type} {ma : EM} {R R1 R2 : ω → Rho} {ra : α → Rv} {Ta : PT α} {x : Str} {ns : List Int}
end
end Tv

/-! TvM: values of any kind told apart from tuples. -/
namespace Tv
open PySem Pv
end Tv

/-! TvN: x = x + (l.pop(i),). -/
namespace Tv
open PySem Pv
end Tv

/-! TvO: l.remove(x). -/
namespace Tv
open PySem Pv
end Tv

/-! TvP: a loop over a list that stays its owner's. -/
namespace Tv
open PySem Pv
section
variable {ω δ σ : Type} {mg : GM} {m : SM} {kp : List Nat × List Nat} {R R1 : ω → Rho} {K0 K : σ → ω → Rho} {Kb : δ → σ → ω → Rho} {f : δ → σ → PT σ} {e : δ → D} {l : List δ} {j : Nat}
end
end Tv

/-! TvQ: exceptions with fields. -/
namespace Tv
open PySem Pv
section
variable {pay : Pay} {ω α β γ δ : Type} {me ma mb : EM} {R R1 : ω → Rho} {s : α → SV} {sr : γ → SV} {T : PT (α ⊕ Str)}
end
/-! an if whose block may end the def, whatever it holds: what follows is walked twice -/
section
variable {ω γ : Type} {io : Bool} {mt : TM} {a b m1 n : SM} {R : ω → Rho} {s : γ → SV} {out : γ → ω → SV} {Tt : PT Bool} {T T1 T2 : PT γ}
end
end Tv

/-! TvR: a or b of tuples; defs that change their last argument. -/
namespace Tv
open PySem Pv
section
variable {ω α : Type} {ma mb : EM} {R : ω → Rho} {e : α → D} {Ta Tb : PT (List α)}
end
section
variable {ω α γ : Type} {ms : AM} {R R1 : ω → Rho} {rs : α → List Rv} {Ts : PT α}
end
end Tv

/-! TvS: items of two lists set at once -/
namespace Tv
open PySem Pv
section
variable {ω γ δ : Type} {me m1 m2 : EM} {R R1 : ω → Rho}
end
end Tv

/-! TvT: sorted(set(pairs)), the front of a triple -/
namespace Tv
open PySem Pv
section
variable {α β γ : Type} {e : α → D} {f : β → D} {k : γ → D}
end
end Tv

/-! TvU: a turn goes on behind both ways of an if -/
namespace Tv
open PySem Pv
section
variable {ω β σ : Type} {io : Bool} {esc : Bool} {ks : List Nat} {mt : TM} {a b c d f m1 m2 n : SM} {R R1 : ω → Rho} {KL : σ → ω → Rho} {s : β → SV} {out : β → ω → SV} {Tt : PT Bool} {Tl Tr T : PT (Stp σ β)}
end
end Tv

/-! TvV: str(int) -/
namespace Tv
open PySem Pv
def strW (i : Int) : PT Str := fun Q => Nat.ble i.natAbs 4611686018427387904 = true ∧ Q (toString i)
theorem opStrI (i : Int) : OpN gStrI [eI i] (vV eS) (strW i) := fun Q q => ⟨_, q.2, by simp only [gStrI]; rw [if_pos q.1]⟩
theorem strW_ok {i : Int} {Q : Str → Prop} (h : i.natAbs ≤ 4611686018427387904) (q : Q (toString i)) : strW i Q := ⟨Nat.ble_eq_true_of_le h, q⟩
end Tv

/-! TvW: C(..) that may raise: the exception with its payload -/
namespace Pv
open PySem PySem.Spec PySem.SeqAt L2
section
variable {X : Cx} {CT : CTab} {W : WX} {x : Str} {p pos : Pos} {e : Expr} {es : List Expr} {f C : Addr} {j np : Nat} {cm : CM} {mr : AM}
end
end Pv
namespace Tv
open PySem Pv
abbrev Xp := Str × List (Str × D)
def vM {γ : Type} (s : γ → SV) : γ ⊕ Xp → SV
  | .inl a => s a
  | .inr p => .val (excD p.1 p.2)
section
variable {ω α β γ : Type} {R R1 : ω → Rho} {m : SM} {me : EM} {c : Int} {fs : γ → List D} {T : PT α} {Tf : PT γ}
end
section
variable {ω α γ δ : Type} {ms : AM} {R R1 : ω → Rho} {rs : α → List Rv} {Ts : PT α}
end
section
variable {ω α γ : Type} {io : Bool} {me : EM} {R R1 : ω → Rho} {s : α → SV} {sr : γ → SV} {out : γ → ω → SV} {T : PT (Sum α Xp)}
end
end Tv

/-! TvX: (..).index(x) of a list of ints that no name holds. -/
namespace Tv
open PySem Pv
/-! == of instances by their own __eq__ -/
section
variable {ω α β : Type} {R R1 R2 : ω → Rho} {ma mb : EM} {ra : α → Rv} {rb : β → Rv} {Ta : PT α} {Tb : PT β}
end
end Tv

/-! TvY: dict comprehensions. -/
namespace Tv
open PySem Pv
section
variable {ω α β γ δ κ : Type} {R R1 : ω → Rho} {mk mv : EM} {mi : IM} {mg : GM} {mt : TM} {vs : List Nat} {e : δ → D} {e' : γ → D} {Ti : PT (List δ)} {R0 : ω → Rho} {Rb Rc : δ → ω → Rho} {rk : δ → κ → Rv} {re : δ → β → Rv} {tt : δ → PT Bool} {tk : δ → PT κ} {tb : δ → PT β} {v : δ → β → γ} {kx : δ → κ → Int}
end
end Tv

/-! TvZ: (raising,) + raising. -/
namespace Tv
open PySem Pv
section
variable {pay : Pay} {ω α β γ : Type} {ma mb : EM} {R : ω → Rho}
end
section
variable {pay : Pay} {ω α δ : Type} {me : EM} {R R1 : ω → Rho} {s : α → SV} {T : PT (Sum α Str)} {K : δ → ω → Rho}
end
end Tv

/-! Ma1: grounds, lots, pits: plain facts. -/
namespace Ma
open Tv
abbrev Cv := List (List Int)
abbrev Lt := List Int
def atC (c : Cv) (b : Int) : Lt := c.getD b.toNat []
def Vcv (c : Cv) : Prop := ∀ (b : Nat) (l : Lt), c[b]? = some l → (∀ x ∈ l, 0 ≤ x ∧ x < b) ∧ l.Pairwise (· < ·)
def Lot (n : Nat) (l : Lt) : Prop := l.Pairwise (· < ·) ∧ ∀ x ∈ l, 0 ≤ x ∧ x < n
theorem atC_get {c : Cv} {b : Int} (h0 : 0 ≤ b) (h1 : b < c.length) : c[b.toNat]? = some (atC c b) := by
  have h : b.toNat < c.length := by omega
  simp [atC, h]
theorem Vcv.at {c : Cv} (h : Vcv c) {b : Int} (h0 : 0 ≤ b) {o : Int} (ho : o ∈ atC c b) : 0 ≤ o ∧ o < b := by
  by_cases h1 : b < c.length
  · have := (h b.toNat _ (atC_get h0 h1)).1 o ho
    omega
  · unfold atC at ho
    rw [List.getD_eq_getElem?_getD, List.getElem?_eq_none (by omega)] at ho
    simp at ho
theorem Vcv.asc {c : Cv} (h : Vcv c) {b : Int} (h0 : 0 ≤ b) : (atC c b).Pairwise (· < ·) := by
  by_cases h1 : b < c.length
  · exact (h b.toNat _ (atC_get h0 h1)).2
  · unfold atC
    rw [List.getD_eq_getElem?_getD, List.getElem?_eq_none (by omega)]
    simp
theorem Vcv.nil : Vcv [] := fun b l h => by simp at h
theorem Vcv.snoc {c : Cv} {l : Lt} (h : Vcv c) (h1 : ∀ x ∈ l, 0 ≤ x ∧ x < c.length) (h2 : l.Pairwise (· < ·)) : Vcv (c ++ [l]) := by
  intro b m e
  by_cases hb : b < c.length
  · rw [List.getElem?_append_left hb] at e; exact h b m e
  · rw [List.getElem?_append_right (by omega)] at e
    have hz : b - c.length = 0 := by
      have := (List.getElem?_eq_some_iff.mp e).1
      simp at this; omega
    rw [hz] at e
    simp at e
    subst e
    have : b = c.length := by omega
    subst this
    exact ⟨h1, h2⟩
theorem asc_len {n : Nat} {l : Lt} (h : Lot n l) : l.length ≤ n := by
  have h1 : (l.map Int.toNat).Nodup := by
    rw [List.nodup_iff_pairwise_ne, List.pairwise_map]
    refine List.Pairwise.imp_of_mem ?_ h.1
    intro a b ha hb hab
    have := h.2 a ha
    have := h.2 b hb
    omega
  have := List.Nodup.length_le_of_subset h1 (l₂ := List.range n) fun x hx => by
    obtain ⟨a, ha, rfl⟩ := List.mem_map.mp hx
    have := h.2 a ha
    exact List.mem_range.mpr (by omega)
  simpa using this
theorem Lot.nil {n : Nat} : Lot n [] := ⟨by simp, by simp⟩
theorem Lot.mono {n m : Nat} {l : Lt} (h : Lot n l) (hm : n ≤ m) : Lot m l := ⟨h.1, fun x hx => by have := h.2 x hx; omega⟩
theorem Lot.sub {n : Nat} {l m : Lt} (h : Lot n l) (s : m.Sublist l) : Lot n m := ⟨h.1.sublist s, fun x hx => h.2 x (s.subset hx)⟩
theorem Lot.range {n : Nat} : Lot n (rangeL 0 n) := ⟨rangeL_lt, fun x hx => by have := mem_rangeL.mp hx; omega⟩
theorem Lot.snoc {n : Nat} {l : Lt} (h : Lot n l) : Lot (n + 1) (l ++ [(n : Int)]) := by
  refine ⟨?_, fun x hx => ?_⟩
  · rw [List.pairwise_append]
    exact ⟨h.1, by simp, fun a ha b hb => by have := h.2 a ha; simp at hb; omega⟩
  · rcases List.mem_append.mp hx with hx | hx
    · have := h.2 x hx; omega
    · simp at hx; omega
theorem asc_ext : ∀ {l m : Lt}, l.Pairwise (· < ·) → m.Pairwise (· < ·) → (∀ x, x ∈ l ↔ x ∈ m) → l = m
  | [], m, _, _, h => by
    cases m with
    | nil => rfl
    | cons y ys => exact absurd ((h y).mpr (by simp)) (by simp)
  | x :: xs, [], _, _, h => absurd ((h x).mp (by simp)) (by simp)
  | x :: xs, y :: ys, hl, hm, h => by
    rw [List.pairwise_cons] at hl hm
    have e : x = y := by
      have h1 := (h x).mp (by simp)
      have h2 := (h y).mpr (by simp)
      rcases List.mem_cons.mp h1 with h1 | h1
      · exact h1
      · rcases List.mem_cons.mp h2 with h2 | h2
        · exact h2.symm
        · have := hm.1 x h1; have := hl.1 y h2; omega
    subst e
    have e2 : xs = ys := asc_ext hl.2 hm.2 fun z => by
      constructor
      · intro hz
        rcases List.mem_cons.mp ((h z).mp (List.mem_cons_of_mem _ hz)) with e | e
        · subst e; have := hl.1 z hz; omega
        · exact e
      · intro hz
        rcases List.mem_cons.mp ((h z).mpr (List.mem_cons_of_mem _ hz)) with e | e
        · subst e; have := hm.1 z hz; omega
        · exact e
    rw [e2]
/-! all lots -/
def rawL : Nat → List Lt
  | 0 => [[]]
  | n + 1 => rawL n ++ (rawL n).map (· ++ [(n : Int)])
/-! the order of lots -/
def szd (l : Lt) : Int × Lt := ((l.length : Int), l)
abbrev ltZ : Int × Lt → Int × Lt → Bool := ltP ltI (ltLex ltI)
abbrev ltS (a b : Lt) : Bool := ltZ (szd a) (szd b)
def srtS (l : List Lt) : List Lt := sortB ltS l
def lotsL (n : Nat) : List Lt := srtS (rawL n)
/-! pits -/
def isPitB (c : Cv) (l : Lt) : Bool := l.all fun b => (atC c b).all fun o => decide (o ∈ l)
def pitsL (c : Cv) : List Lt := (lotsL c.length).filter (isPitB c)
structure Pit (c : Cv) (l : Lt) : Prop where
  lot : Lot c.length l
  full : ∀ b ∈ l, ∀ o ∈ atC c b, o ∈ l
theorem pit_nil (c : Cv) : Pit c [] := ⟨Lot.nil, by simp⟩
end Ma

/-! Ma2: worths, best pits, meets and joins. -/
namespace Ma
open Tv Pv
def wAt (w : List Int) (b : Int) : Int := w.getD b.toNat 0
def sumW (w : List Int) (l : Lt) : Int := (l.map (wAt w)).sum
structure Wor (n : Nat) (w : List Int) : Prop where
  len : w.length = n
  bd : ∀ x ∈ w, -50 ≤ x ∧ x ≤ 50
/-! the greatest -/
def maxL : List Int → Int
  | [] => 0
  | x :: xs => maxB ltI x xs
/-! best pits -/
def most (c : Cv) (w : List Int) : Int := maxL ((pitsL c).map (sumW w))
/-! meets and joins -/
def meet (l m : Lt) : Lt := l.filter fun x => decide (x ∈ m)
def join (l m : Lt) : Lt := ssrt (l ++ m)
theorem mem_meet {l m : Lt} {x : Int} : x ∈ meet l m ↔ x ∈ l ∧ x ∈ m := by simp [meet]
theorem mem_join {l m : Lt} {x : Int} : x ∈ join l m ↔ x ∈ l ∨ x ∈ m := by rw [join, ssrt_mem, List.mem_append]
theorem ssrt_lt (ns : List Int) : (ssrt ns).Pairwise (· < ·) := by
  have h1 := ssrt_le ns
  have h2 : (ssrt ns).Nodup := (ssrt_perm ns).nodup_iff.mpr (dd_nodup ns)
  have h3 := List.nodup_iff_pairwise_ne.mp h2
  exact (h1.and h3).imp fun h => by have := h.1; have := h.2; omega
theorem Lot.meet {n : Nat} {l m : Lt} (h : Lot n l) : Lot n (meet l m) := h.sub List.filter_sublist
theorem Lot.join {n : Nat} {l m : Lt} (h : Lot n l) (g : Lot n m) : Lot n (join l m) := ⟨ssrt_lt _, fun x hx => (mem_join.mp hx).elim (h.2 x) (g.2 x)⟩
theorem Pit.meet {c : Cv} {l m : Lt} (h : Pit c l) (g : Pit c m) : Pit c (meet l m) := ⟨h.lot.meet, fun b hb o ho => by
  rw [mem_meet] at hb ⊢
  exact ⟨h.full b hb.1 o ho, g.full b hb.2 o ho⟩⟩
theorem Pit.join {c : Cv} {l m : Lt} (h : Pit c l) (g : Pit c m) : Pit c (join l m) := ⟨h.lot.join g.lot, fun b hb o ho => by
  rw [mem_join] at hb ⊢
  exact hb.elim (fun z => .inl (h.full b z o ho)) fun z => .inr (g.full b z o ho)⟩
def minus (l m : Lt) : Lt := l.filter fun x => !decide (x ∈ m)
theorem Lot.minus {n : Nat} {l m : Lt} (h : Lot n l) : Lot n (minus l m) := h.sub List.filter_sublist
theorem asc_sub_eq {l m : Lt} (hl : l.Pairwise (· < ·)) (hm : m.Pairwise (· < ·)) (hs : ∀ x ∈ l, x ∈ m) (hn : m.length ≤ l.length) : l = m := by
  refine asc_ext hl hm fun x => ⟨hs x, fun hx => ?_⟩
  have nl : l.Nodup := List.nodup_iff_pairwise_ne.mpr (hl.imp fun h => by omega)
  have nm : m.Nodup := List.nodup_iff_pairwise_ne.mpr (hm.imp fun h => by omega)
  exact Classical.byContradiction fun hx' => by
    have h1 : (x :: l).Nodup := List.nodup_cons.mpr ⟨hx', nl⟩
    have := List.Nodup.length_le_of_subset h1 (l₂ := m) fun y hy => by
      rcases List.mem_cons.mp hy with rfl | hy
      · exact hx
      · exact hs y hy
    simp at this
    omega
end Ma

/-! Ma6: tables, rules, profiles -/
namespace Ma
open PySem Pv Tv
abbrev Rl := List (List Int)
def r0 (rs : Rl) (i : Nat) : Int := (rs.getD i []).getD 0 0
def r1 (rs : Rl) (i : Nat) : Int := (rs.getD i []).getD 1 0
def pt (p : List Int) (i : Nat) : Int := p.getD i 0
theorem pt_get {p : List Int} {i : Nat} (h : i < p.length) : p[i]? = some (pt p i) := by simp [pt, h]
theorem pt_of {p : List Int} {i : Nat} {x : Int} (h : p[i]? = some x) : pt p i = x := by simp [pt, h]
theorem pt_mem {p : List Int} {i : Nat} (h : i < p.length) : pt p i ∈ p := List.mem_of_getElem? (pt_get h)
structure Rul (n : Nat) (rs : Rl) : Prop where
  len : rs.length + 1 = n
  ok : ∀ r ∈ rs, ∃ a b, r = [a, b] ∧ 1 ≤ a ∧ a ≤ 9 ∧ 1 ≤ b ∧ b ≤ 9
theorem Rul.at {n : Nat} {rs : Rl} (h : Rul n rs) {i : Nat} (hi : i < rs.length) : rs[i]? = some [r0 rs i, r1 rs i] ∧ 1 ≤ r0 rs i ∧ r0 rs i ≤ 9 ∧ 1 ≤ r1 rs i ∧ r1 rs i ≤ 9 := by
  obtain ⟨a, b, e, h1, h2, h3, h4⟩ := h.ok rs[i] (List.getElem_mem hi)
  have e2 : rs[i]? = some [a, b] := by rw [List.getElem?_eq_getElem hi, e]
  have ea : r0 rs i = a := by simp [r0, e2]
  have eb : r1 rs i = b := by simp [r1, e2]
  rw [ea, eb]
  exact ⟨e2, h1, h2, h3, h4⟩
theorem Rul.nn {n : Nat} {rs : Rl} (h : Rul n rs) (i : Nat) : 0 ≤ r0 rs i ∧ 0 ≤ r1 rs i := by
  by_cases hi : i < rs.length
  · have := h.at hi; omega
  · simp [r0, r1, List.getElem?_eq_none (Nat.le_of_not_lt hi)]
def Stp1 (rs : Rl) (p : List Int) (i : Nat) : Prop := pt p i - pt p (i + 1) ≤ r0 rs i ∧ pt p (i + 1) - pt p i ≤ r1 rs i
def Lets (rs : Rl) (p : List Int) : Prop := ∀ i, i + 1 < p.length → Stp1 rs p i
structure Tab (cs : List Int) (rs : Rl) : Prop where
  rul : Rul cs.length rs
  len : cs.length ≤ 5
  bd : ∀ c ∈ cs, 1 ≤ c ∧ c ≤ 10
  sum : cs.sum ≤ 10
  lets : Lets rs cs
theorem Tab.pos {cs : List Int} {rs : Rl} (h : Tab cs rs) : 1 ≤ cs.length := by have := h.rul.len; omega
theorem Tab.rl {cs : List Int} {rs : Rl} (h : Tab cs rs) : rs.length ≤ 4 := by have := h.rul.len; have := h.len; omega
/-! slacks -/
def up (rs : Rl) (i : Nat) : Nat → Int
  | 0 => 0
  | n + 1 => up rs i n + r0 rs (i + n)
def dn (rs : Rl) (j : Nat) : Nat → Int
  | 0 => 0
  | n + 1 => dn rs j n + r1 rs (j + n)
def sl (rs : Rl) (i j : Nat) : Int := if i < j then up rs i (j - i) else dn rs j (i - j)
theorem Lets.le {rs : Rl} {p : List Int} (h : Lets rs p) {i j : Nat} (hi : i < p.length) (hj : j < p.length) : pt p i ≤ pt p j + sl rs i j := by
  have u : ∀ (n i : Nat), i + n < p.length → pt p i ≤ pt p (i + n) + up rs i n := by
    intro n
    induction n with
    | zero => intro i _; simp [up]
    | succ n ih =>
      intro i hn
      have h1 := ih i (by omega)
      have h2 := (h (i + n) (by omega)).1
      rw [up, ← Nat.add_assoc]; omega
  have d : ∀ (n j : Nat), j + n < p.length → pt p (j + n) ≤ pt p j + dn rs j n := by
    intro n
    induction n with
    | zero => intro i _; simp [dn]
    | succ n ih =>
      intro i hn
      have h1 := ih i (by omega)
      have h2 := (h (i + n) (by omega)).2
      rw [dn, ← Nat.add_assoc]; omega
  unfold sl; split
  · have := u (j - i) i (by omega); rwa [show i + (j - i) = j by omega] at this
  · have := d (i - j) j (by omega); rwa [show j + (i - j) = i by omega] at this
/-! the deepest and the shallowest -/
/-! all rows of depths -/
def ext1 (s : Int) (row : List Int) : List (List Int) := (rangeL 0 (s + 1).toNat).map fun d => row ++ [d]
def ext (acc : List (List Int)) (s : Int) : List (List Int) := acc.flatMap (ext1 s)
theorem snoc_ind {α : Type} {P : List α → Prop} (h0 : P []) (h1 : ∀ l x, P l → P (l ++ [x])) (l : List α) : P l := by
  have : ∀ n (l : List α), l.length = n → P l := by
    intro n
    induction n with
    | zero => intro l hl; rw [List.length_eq_zero_iff.mp hl]; exact h0
    | succ n ih =>
      intro l hl
      have hne : l ≠ [] := by intro e; subst e; simp at hl
      rw [← List.dropLast_concat_getLast hne]
      exact h1 _ _ (ih _ (by simp; omega))
  exact this _ l rfl
/-! profiles -/
/-! slices of rules -/
/-! ways of answering -/
end Ma

/-! Ma7: depths that were seen -/
namespace Ma
open PySem Pv Tv
abbrev Sn := List (Option Int)
def sAt (s : Sn) (i : Nat) : Option Int := s.getD i none
def Agr (s : Sn) (p : List Int) : Prop := ∀ i, i < s.length → ∀ d, sAt s i = some d → pt p i = d
structure Seen (cs : List Int) (s : Sn) : Prop where
  len : s.length = cs.length
  ok : ∀ i, i < cs.length → ∀ d, sAt s i = some d → 0 ≤ d ∧ d ≤ pt cs i
section
variable {cs : List Int} {rs : Rl} {s : Sn}
end
end Ma

/-! Ma4: all that a block needs; least and greatest pits of a lot. -/
namespace Ma
open PySem Pv Tv
inductive Rch (c : Cv) : Int → Int → Prop
  | one {b o : Int} : o ∈ atC c b → Rch c b o
  | step {b o x : Int} : o ∈ atC c b → Rch c o x → Rch c b x
theorem Rch.lt {c : Cv} (h : Vcv c) {b x : Int} (r : Rch c b x) : 0 ≤ b → 0 ≤ x ∧ x < b := by
  induction r with
  | one ho => exact fun h0 => h.at h0 ho
  | step ho _ ih =>
    intro h0
    have := h.at h0 ho
    have := ih this.1
    omega
theorem Rch.trans {c : Cv} {b o x : Int} (r : Rch c b o) (q : Rch c o x) : Rch c b x := by
  induction r with
  | one ho => exact .step ho q
  | step ho _ ih => exact .step ho (ih q)
theorem Rch.pit {c : Cv} {p : Lt} (h : Pit c p) {b x : Int} (r : Rch c b x) : b ∈ p → x ∈ p := by
  induction r with
  | one ho => exact fun hb => h.full _ hb _ ho
  | step ho _ ih => exact fun hb => ih (h.full _ hb _ ho)
structure Clo (c : Cv) (n : Nat) (r : Cv) : Prop where
  len : r.length = n
  mem : ∀ b : Int, 0 ≤ b → b < n → ∀ x, x ∈ atC r b ↔ Rch c b x
  asc : ∀ b : Int, 0 ≤ b → b < n → (atC r b).Pairwise (· < ·)
theorem Clo.lot {c : Cv} {n : Nat} {r : Cv} (h : Clo c n r) (hv : Vcv c) {b : Int} (h0 : 0 ≤ b) (h1 : b < n) : Lot b.toNat (atC r b) := ⟨h.asc b h0 h1, fun x hx => by
  have := ((h.mem b h0 h1 x).mp hx).lt hv h0
  omega⟩
theorem Clo.nil {c : Cv} : Clo c 0 [] := ⟨rfl, fun b h0 h1 => by omega, fun b h0 h1 => by omega⟩
theorem atC_snoc_l {r : Cv} {l : Lt} {b : Int} (h0 : 0 ≤ b) (h1 : b < r.length) : atC (r ++ [l]) b = atC r b := by
  unfold atC
  rw [List.getD_eq_getElem?_getD, List.getD_eq_getElem?_getD, List.getElem?_append_left (by omega)]
theorem atC_snoc_r {r : Cv} {l : Lt} : atC (r ++ [l]) (r.length : Int) = l := by
  unfold atC
  rw [List.getD_eq_getElem?_getD]; simp
theorem Clo.snoc {c : Cv} {n : Nat} {r : Cv} {l : Lt} (h : Clo c n r) (h1 : l.Pairwise (· < ·)) (h2 : ∀ x, x ∈ l ↔ Rch c (n : Int) x) : Clo c (n + 1) (r ++ [l]) := by
  have hl := h.len
  refine ⟨by simp [hl], fun b b0 b1 x => ?_, fun b b0 b1 => ?_⟩
  · by_cases e : b < n
    · rw [atC_snoc_l b0 (by omega)]; exact h.mem b b0 e x
    · obtain rfl : b = (n : Int) := by omega
      rw [← hl, atC_snoc_r, hl]; exact h2 x
  · by_cases e : b < n
    · rw [atC_snoc_l b0 (by omega)]; exact h.asc b b0 e
    · obtain rfl : b = (n : Int) := by omega
      rw [← hl, atC_snoc_r]; exact h1
/-! parts of all pits -/
/-! of a lot -/
structure IsLeast (c : Cv) (l a : Lt) : Prop where
  asc : a.Pairwise (· < ·)
  mem : ∀ x, x ∈ a ↔ x ∈ l ∨ ∃ b ∈ l, Rch c b x
theorem IsLeast.pit {c : Cv} {l a : Lt} (h : IsLeast c l a) (hv : Vcv c) (hl : Lot c.length l) : Pit c a := by
  refine ⟨⟨h.asc, fun x hx => ?_⟩, fun b hb o ho => ?_⟩
  · rcases (h.mem x).mp hx with hx | ⟨b, hb, r⟩
    · exact hl.2 x hx
    · have := hl.2 b hb
      have := r.lt hv this.1
      omega
  · rw [h.mem]
    rcases (h.mem b).mp hb with hb | ⟨d, hd, r⟩
    · exact .inr ⟨b, hb, .one ho⟩
    · exact .inr ⟨d, hd, r.trans (.one ho)⟩
theorem IsLeast.sub {c : Cv} {l a p : Lt} (h : IsLeast c l a) (hp : Pit c p) (hs : ∀ x ∈ l, x ∈ p) : ∀ x ∈ a, x ∈ p := fun x hx => by
  rcases (h.mem x).mp hx with hx | ⟨b, hb, r⟩
  · exact hs x hx
  · exact r.pit hp (hs b hb)
structure IsGreat (c : Cv) (l a : Lt) : Prop where
  asc : a.Pairwise (· < ·)
  mem : ∀ x, x ∈ a ↔ (0 ≤ x ∧ x < c.length) ∧ x ∉ l ∧ ∀ o, Rch c x o → o ∉ l
theorem IsGreat.pit {c : Cv} {l a : Lt} (h : IsGreat c l a) (hv : Vcv c) : Pit c a := by
  refine ⟨⟨h.asc, fun x hx => ((h.mem x).mp hx).1⟩, fun b hb o ho => ?_⟩
  obtain ⟨h1, h2, h3⟩ := (h.mem b).mp hb
  have := hv.at h1.1 ho
  exact (h.mem o).mpr ⟨by omega, h3 o (.one ho), fun x r => h3 x (.step ho r)⟩
theorem IsGreat.sub {c : Cv} {l a p : Lt} (h : IsGreat c l a) (hp : Pit c p) (hs : ∀ x ∈ l, x ∉ p) : ∀ x ∈ p, x ∈ a := fun x hx =>
  (h.mem x).mpr ⟨hp.lot.2 x hx, fun z => hs x z hx, fun o r z => hs o z (r.pit hp hx)⟩
end Ma

/-! MaA: choices, rows of probes -/
namespace Ma
open PySem Pv Tv
abbrev Chl := List (List Int)
abbrev Ety := Str × Int × Int
structure Nums (l : List Int) : Prop where
  pos : 1 ≤ l.length
  len : l.length ≤ 3
  asc : l.Pairwise (· < ·)
  bd : ∀ x ∈ l, -50 ≤ x ∧ x ≤ 50
structure Chs (n : Nat) (ch : Chl) : Prop where
  len : ch.length = n
  ok : ∀ l ∈ ch, Nums l
theorem Chs.set {n : Nat} {ch : Chl} (h : Chs n ch) {b : Nat} {l : List Int} (hl : Nums l) : Chs n (ch.set b l) := ⟨by simp [h.len], fun x hx => (List.mem_or_eq_of_mem_set hx).elim (h.ok x) fun e => e ▸ hl⟩
def atL (ch : Chl) (b : Int) : List Int := ch.getD b.toNat []
theorem Chs.at {n : Nat} {ch : Chl} (h : Chs n ch) {b : Int} (h0 : 0 ≤ b) (h1 : b < n) : Nums (atL ch b) := by
  have : b.toNat < ch.length := by have := h.len; omega
  refine h.ok _ ?_
  simp [atL, this]
structure Ent1 (n : Nat) (e : Ety) : Prop where
  w : e.1 = "told" ∨ e.1 = "changed"
  b0 : 0 ≤ e.2.1
  b1 : e.2.1 < n
  n0 : -50 ≤ e.2.2
  n1 : e.2.2 ≤ 50
end Ma

/-! MaB: cases of worths, sure pits -/
namespace Ma
open PySem Pv Tv
structure NumL (l : List Int) : Prop where
  pos : 1 ≤ l.length
  asc : l.Pairwise (· < ·)
  bd : ∀ x ∈ l, -50 ≤ x ∧ x ≤ 50
def cext1 (l row : List Int) : List (List Int) := l.map fun d => row ++ [d]
def cext (acc : List (List Int)) (l : List Int) : List (List Int) := acc.flatMap (cext1 l)
def casL (nums : List (List Int)) : List (List Int) := nums.foldl cext [[]]
theorem casL_snoc (nums : List (List Int)) (l : List Int) : casL (nums ++ [l]) = cext (casL nums) l := by simp [casL, List.foldl_append]
theorem cext_len {acc : List (List Int)} {l : List Int} : (cext acc l).length = acc.length * l.length := by
  unfold cext
  induction acc with
  | nil => simp
  | cons a acc ih => rw [List.flatMap_cons, List.length_append, ih]; simp [cext1, Nat.add_mul]; omega
structure NumsL (n : Nat) (nums : List (List Int)) : Prop where
  len : nums.length = n
  ok : ∀ l ∈ nums, NumL l
theorem NumL.ends {l : List Int} (h : NumL l) {x : Int} (hx : x ∈ l) : pt l 0 ≤ x ∧ x ≤ pt l (l.length - 1) := by
  obtain ⟨i, hi, rfl⟩ := List.getElem_of_mem hx
  have pw := List.pairwise_iff_getElem.mp h.asc
  have p0 : pt l 0 = l[0]'(by omega) := pt_of (List.getElem?_eq_getElem _)
  have p1 : pt l (l.length - 1) = l[l.length - 1]'(by omega) := pt_of (List.getElem?_eq_getElem _)
  rw [p0, p1]
  constructor
  · by_cases e : i = 0
    · subst e; exact Int.le_refl _
    · have := pw 0 i (by omega) hi (by omega); omega
  · by_cases e : i = l.length - 1
    · subst e; exact Int.le_refl _
    · have := pw i (l.length - 1) hi (by omega) (by omega); omega
end Ma

/-! Ma3: fates of blocks. -/
namespace Ma
open PySem Pv Tv
end Ma

/-! MaC: regrets -/
namespace Ma
open PySem Pv Tv
theorem cas_pow {ch : List (List Int)} : (∀ l ∈ ch, l.length ≤ 3) → (casL ch).length ≤ 3 ^ ch.length := by
  refine snoc_ind (P := fun ch => (∀ l ∈ ch, l.length ≤ 3) → (casL ch).length ≤ 3 ^ ch.length) (fun _ => by simp [casL]) (fun l x ih h => ?_) ch
  rw [casL_snoc, cext_len, List.length_append, List.length_singleton, Nat.pow_succ]
  exact Nat.mul_le_mul (ih fun y hy => h y (by simp [hy])) (h x (by simp))
theorem Chs.nums {n : Nat} {ch : Chl} (h : Chs n ch) : NumsL n ch := ⟨h.len, fun l hl => ⟨(h.ok l hl).pos, (h.ok l hl).asc, (h.ok l hl).bd⟩⟩
theorem Chs.few {n : Nat} {ch : Chl} (h : Chs n ch) (hn : n ≤ 6) : (casL ch).length ≤ 729 := by
  have h1 := cas_pow (ch := ch) fun l hl => (h.ok l hl).len
  have h2 : 3 ^ ch.length ≤ 3 ^ 6 := Nat.pow_le_pow_right (by decide) (by rw [h.len]; exact hn)
  exact Nat.le_trans h1 h2
end Ma

/-! MaE: possible pits -/
namespace Ma
open PySem Pv Tv
end Ma

/-! MaF: dicts as sets; columns that hold others. -/
namespace Ma
open PySem Pv Tv
/-! keys -/
theorem mem_keysM {κ β : Type} [DecidableEq κ] {m : List (κ × β)} {x : κ} : x ∈ keysM m ↔ hasM m x = true := by
  simp only [keysM, hasM, List.mem_map, List.any_eq_true, decide_eq_true_eq]
/-! columns that hold -/
end Ma

/-! Ma5: from a pit that is dug. -/
namespace Ma
open PySem Pv Tv
end Ma

/-! MaG: what all and what some of the best have; pits within pits; plans with refills. -/
namespace Ma
open PySem Pv Tv
theorem hasM_of {κ β : Type} [DecidableEq κ] {m : List (κ × β)} {x : κ} : (∃ v, getM m x = some v) ↔ x ∈ keysM m := by
  rw [mem_keysM, ← hasM_get, Option.isSome_iff_exists]
section
variable {π : Type} {F G : π → Prop} {f : π → Int} {g : π → Lt} {b b' : Int} {l m l' m' : Lt}
structure Opt (F : π → Prop) (f : π → Int) (g : π → Lt) (b : Int) (l m : Lt) : Prop where
  at_ : ∃ q, F q ∧ f q = b
  ge : ∀ q, F q → f q ≤ b
  la : l.Pairwise (· < ·)
  ma : m.Pairwise (· < ·)
  li : ∀ x, x ∈ l ↔ ∀ q, F q → f q = b → x ∈ g q
  mi : ∀ x, x ∈ m ↔ ∃ q, F q ∧ f q = b ∧ x ∈ g q
theorem Opt.congr (h : Opt F f g b l m) (e : ∀ q, F q ↔ G q) : Opt G f g b l m := by
  have : F = G := funext fun q => propext (e q)
  subst this; exact h
theorem Opt.up (h : Opt F f g b l m) (k : Opt G f g b' l' m') (hb : b < b') : Opt (fun q => F q ∨ G q) f g b' l' m' where
  at_ := let ⟨q, h1, h2⟩ := k.at_; ⟨q, .inr h1, h2⟩
  ge q := fun z => z.elim (fun z => by have := h.ge q z; omega) (k.ge q)
  la := k.la
  ma := k.ma
  li x := by
    rw [k.li]
    exact ⟨fun a q z e => z.elim (fun z => by have := h.ge q z; omega) fun z => a q z e, fun a q z e => a q (.inr z) e⟩
  mi x := by
    rw [k.mi]
    exact ⟨fun ⟨q, z, e, i⟩ => ⟨q, .inr z, e, i⟩, fun ⟨q, z, e, i⟩ => z.elim (fun z => by have := h.ge q z; omega) fun z => ⟨q, z, e, i⟩⟩
theorem Opt.same (h : Opt F f g b l m) (k : Opt G f g b l' m') : Opt (fun q => F q ∨ G q) f g b (meet l l') (join m m') where
  at_ := let ⟨q, h1, h2⟩ := k.at_; ⟨q, .inr h1, h2⟩
  ge q := fun z => z.elim (h.ge q) (k.ge q)
  la := h.la.sublist List.filter_sublist
  ma := ssrt_lt _
  li x := by
    rw [mem_meet, h.li, k.li]
    exact ⟨fun a q z e => z.elim (fun z => a.1 q z e) fun z => a.2 q z e, fun a => ⟨fun q z e => a q (.inl z) e, fun q z e => a q (.inr z) e⟩⟩
  mi x := by
    rw [mem_join, h.mi, k.mi]
    constructor
    · rintro (⟨q, z, e, i⟩ | ⟨q, z, e, i⟩)
      · exact ⟨q, .inl z, e, i⟩
      · exact ⟨q, .inr z, e, i⟩
    · rintro ⟨q, z | z, e, i⟩
      · exact .inl ⟨q, z, e, i⟩
      · exact .inr ⟨q, z, e, i⟩
theorem Opt.one {p : π} (h : (g p).Pairwise (· < ·)) : Opt (fun q => q = p) f g (f p) (g p) (g p) where
  at_ := ⟨p, rfl, rfl⟩
  ge q := fun z => by subst z; omega
  la := h
  ma := h
  li x := ⟨fun a q z _ => by subst z; exact a, fun a => a p rfl rfl⟩
  mi x := ⟨fun a => ⟨p, rfl, rfl, a⟩, fun ⟨q, z, _, i⟩ => by subst z; exact i⟩
theorem Opt.lot {n : Nat} (h : Opt F f g b l m) (hl : ∀ q, F q → Lot n (g q)) : Lot n l ∧ Lot n m := by
  refine ⟨⟨h.la, fun x hx => ?_⟩, ⟨h.ma, fun x hx => ?_⟩⟩
  · obtain ⟨q, h1, h2⟩ := h.at_
    exact (hl q h1).2 x ((h.li x).mp hx q h1 h2)
  · obtain ⟨q, h1, h2, h3⟩ := (h.mi x).mp hx
    exact (hl q h1).2 x h3
/-! told by lists -/
end
/-! pits within a pit -/
def SubP (c : Cv) (p o : Lt) : Prop := Pit c o ∧ ∀ x ∈ o, x ∈ p
/-! plans -/
def Plan (c : Cv) (q : Lt × Lt) : Prop := Pit c q.1 ∧ SubP c q.1 q.2
def pw (w r : List Int) (q : Lt × Lt) : Int := sumW w q.1 + sumW r q.1 - sumW r q.2
structure PO (c : Cv) (w r : List Int) (b : Int) (l1 l2 m1 m2 : Lt) : Prop where
  o1 : Opt (Plan c) (pw w r) (·.1) b l1 m1
  o2 : Opt (Plan c) (pw w r) (·.2) b l2 m2
/-! by lists -/
/-! two best plans meet and join in best ones -/
theorem sub_len {l m : Lt} (hl : l.Pairwise (· < ·)) (hm : m.Pairwise (· < ·)) (hs : ∀ x ∈ l, x ∈ m) : l.length ≤ m.length := by
  have nl : l.Nodup := List.nodup_iff_pairwise_ne.mpr (hl.imp fun h => by omega)
  exact List.Nodup.length_le_of_subset nl fun y hy => hs y hy
end Ma

/-! MaQ: rows in which a pit is dug, and what a purse must hold. -/
namespace Ma
open PySem Pv Tv
def exts (c : Cv) (p one : Lt) : Lt := p.filter fun b => !decide (b ∈ one) && (atC c b).all fun o => decide (o ∈ one)
theorem exts_mem {c : Cv} {p one : Lt} {b : Int} : b ∈ exts c p one ↔ b ∈ p ∧ b ∉ one ∧ ∀ o ∈ atC c b, o ∈ one := by
  simp [exts, List.mem_filter]
theorem sub_join {c : Cv} {p D : Lt} {b : Int} (hp : Pit c p) (h : SubP c p D) (hb : b ∈ exts c p D) : SubP c p (join D [b]) ∧ (join D [b]).length = D.length + 1 := by
  obtain ⟨b1, b2, b3⟩ := exts_mem.mp hb
  have lb : Lot c.length [b] := ⟨by simp, fun x hx => by rw [List.mem_singleton.mp hx]; exact hp.lot.2 b b1⟩
  have lj := h.1.lot.join lb
  refine ⟨⟨⟨lj, fun x hx o ho => ?_⟩, fun x hx => ?_⟩, ?_⟩
  · rcases mem_join.mp hx with hx | hx
    · exact mem_join.mpr (.inl (h.1.full x hx o ho))
    · rw [List.mem_singleton.mp hx] at ho; exact mem_join.mpr (.inl (b3 o ho))
  · rcases mem_join.mp hx with hx | hx
    · exact h.2 x hx
    · rw [List.mem_singleton.mp hx]; exact b1
  · have nd : (D ++ [b]).Nodup := by
      rw [List.nodup_append]
      exact ⟨List.nodup_iff_pairwise_ne.mpr (h.1.lot.1.imp fun h => by omega), by simp, fun x hx y hy e => by
        rw [List.mem_singleton.mp hy] at e; exact b2 (e ▸ hx)⟩
    have nj : (join D [b]).Nodup := List.nodup_iff_pairwise_ne.mpr (lj.1.imp fun h => by omega)
    have l1 := List.Nodup.length_le_of_subset nd (l₂ := join D [b]) fun x hx => mem_join.mpr (List.mem_append.mp hx)
    have l2 := List.Nodup.length_le_of_subset nj (l₂ := D ++ [b]) fun x hx => List.mem_append.mpr (mem_join.mp hx)
    rw [List.length_append, List.length_singleton] at l1 l2
    omega
structure Dug (c : Cv) (w : List Int) (p one D : Lt) : Prop where
  sub : SubP c p D
  mem : ∀ x, x ∈ one ↔ x ∈ D
  sum : sumW w one = sumW w D
/-! the least of pairs -/
end Ma
namespace Ma
open Tv
end Ma

/-! Mb4: rows of a pit, counted and told by number -/
namespace Ma
open Tv
theorem keys_len {κ β : Type} (m : List (κ × β)) : (keysM m).length = m.length := List.length_map ..
def Rcd (c : Cv) (p : Lt) : Nat → Lt → Prop
  | 0, D => D = []
  | t + 1, D => ∃ E b, Rcd c p t E ∧ b ∈ exts c p E ∧ D = join E [b]
theorem Rcd.sub {c : Cv} {p : Lt} (hp : Pit c p) : ∀ {t : Nat} {D : Lt}, Rcd c p t D → SubP c p D ∧ D.length = t
  | 0, D, h => by rw [show D = [] from h]; exact ⟨⟨pit_nil c, by simp⟩, rfl⟩
  | t + 1, D, ⟨E, b, h, hb, e⟩ => by
    obtain ⟨h1, h2⟩ := Rcd.sub hp h
    obtain ⟨h3, h4⟩ := sub_join hp h1 hb
    rw [e]; exact ⟨h3, by omega⟩
theorem Rcd.le {c : Cv} {p : Lt} (hp : Pit c p) {t : Nat} {D : Lt} (h : Rcd c p t D) : t ≤ p.length := by
  obtain ⟨h1, h2⟩ := h.sub hp
  have := sub_len h1.1.lot.1 hp.lot.1 h1.2
  omega
theorem Rcd.full {c : Cv} {p : Lt} (hp : Pit c p) {D : Lt} (h : Rcd c p p.length D) : D = p := by
  obtain ⟨h1, h2⟩ := h.sub hp
  exact asc_sub_eq h1.1.lot.1 hp.lot.1 h1.2 (by omega)
/-! rows -/
end Ma

/-! MaR: the cells of a table, its ground; pits are profiles -/
namespace Ma
open PySem Pv Tv
/-! sums -/
/-! cells -/
def layR (cs : List Int) (d : Int) : List (Int × Int) := ((rangeL 0 cs.length).filter fun j => decide (d ≤ pt cs j.toNat)).map fun j => (j, d)
def cellsL (cs : List Int) : List (Int × Int) := (rangeL 1 10).flatMap (layR cs)
def Bd (cs : List Int) : Prop := ∀ c ∈ cs, 1 ≤ c ∧ c ≤ 10
theorem Bd.at {cs : List Int} (h : Bd cs) {j : Nat} (hj : j < cs.length) : 1 ≤ pt cs j ∧ pt cs j ≤ 10 := h _ (pt_mem hj)
/-! places -/
def pl (cs : List Int) (c : Int × Int) : Nat := (idxF c (cellsL cs)).getD 0
def cl (cs : List Int) (i : Int) : Int × Int := (cellsL cs).getD i.toNat (0, 0)
/-! the ground -/
section
variable {cs : List Int} {rs : Rl}
/-! pits and profiles -/
end
end Ma

/-! MaS: profiles worth most are the best pits of the table's ground -/
namespace Ma
open PySem Pv Tv
section
variable {cs : List Int} {rs : Rl} {w : List Int}
/-! worths -/
end
end Ma

/-! MaX: deeds from pit to pit, the least of the shortest rows -/
namespace Ma
open PySem Pv Tv
theorem ltStr_tot : TotB ltStr where
  irr := fun a => PyProof.Rows.lex_irrefl (O := PyProof.Rows.itemOrd) _
  trans := fun a b c h1 h2 => PyProof.Rows.lex_trans (O := PyProof.Rows.itemOrd) _ _ _ h1 h2
  tri := fun a b h1 h2 => by
    have h := PyProof.Rows.lex_total (O := PyProof.Rows.itemOrd) _ _ h1 h2
    simp only [PySem.W.keyToks, List.cons.injEq, Sum.inr.injEq, and_true] at h
    exact PySem.W.str_of_cps h
abbrev Deed := Str × Int
abbrev ltD : Deed → Deed → Bool := ltP ltStr ltI
theorem ltD_tot : TotB ltD := ltP_tot ltStr_tot ltI_tot
theorem sDF : ¬ ("fill" : Str) = "dig" := by decide
def ins (p : Lt) (b : Int) : Lt := join p [b]
def del (p : Lt) (b : Int) : Lt := p.filter fun x => !decide (x = b)
inductive Dd (c : Cv) (p : Lt) : Deed → Lt → Prop
  | dig {b : Int} : 0 ≤ b → b < c.length → b ∉ p → Pit c (ins p b) → Dd c p ("dig", b) (ins p b)
  | fill {b : Int} : b ∈ p → Pit c (del p b) → Dd c p ("fill", b) (del p b)
theorem Dd.pit {c : Cv} {p q : Lt} {d : Deed} (h : Dd c p d q) : Pit c q := by
  cases h with
  | dig _ _ _ h => exact h
  | fill _ h => exact h
def dist (c : Cv) (p g : Lt) : Nat := ((rangeL 0 c.length).filter fun x => decide (x ∈ p) != decide (x ∈ g)).length
section
variable {c : Cv} {p q g h : Lt} {d : Deed}
def Wk (c : Cv) : Lt → List Deed → Lt → Prop
  | p, [], g => p = g
  | p, d :: r, g => ∃ q, Dd c p d q ∧ Wk c q r g
def gdL (c : Cv) (p g : Lt) : List Deed := ((minus g p).filter fun b => isPitB c (ins p b)).map (fun b => (("dig" : Str), b)) ++ ((minus p g).filter fun b => isPitB c (del p b)).map (fun b => (("fill" : Str), b))
def stepD (p : Lt) (d : Deed) : Lt := if d.1 = "dig" then ins p d.2 else del p d.2
theorem Dd.step (h : Dd c p d q) : q = stepD p d := by
  cases h with
  | dig _ _ _ _ => simp [stepD]
  | fill _ _ => simp [stepD, sDF]
def grow (c : Cv) (g : Lt) : Nat → Lt → List Deed
  | 0, _ => []
  | n + 1, p => match gdL c p g with
    | [] => []
    | d :: _ => d :: grow c g n (stepD p d)
def rowR (c : Cv) (p g : Lt) : List Deed := grow c g (dist c p g) p
end
end Ma

/-! MaY: rows of deeds, layer by layer -/
namespace Ma
open PySem Pv Tv
theorem ltLD_tot : TotB (ltLex ltD) := ltLex_tot ltD_tot
abbrev Mp := List (Lt × List Deed)
section
variable {c : Cv} {p : Lt} {k : Nat}
structure Lay (c : Cv) (p : Lt) (k : Nat) (T : List (List Deed × Lt)) : Prop where
  srt : T.Pairwise (fun a b => ltLex ltD a.1 b.1 = true)
  wk : ∀ x ∈ T, Pit c x.2 ∧ Wk c p x.1 x.2 ∧ x.1.length = k + 1
  all : ∀ g, Pit c g → dist c p g = k + 1 → (rowR c p g, g) ∈ T
def good (c : Cv) (p : Lt) (k : Nat) (x : List Deed × Lt) : Bool := decide (dist c p x.2 = k + 1) && decide (x.1 = rowR c p x.2)
structure Jn (c : Cv) (p : Lt) (k : Nat) (done : List (List Deed × Lt)) (s : Mp × List Lt) : Prop where
  later : s.2 = (done.filter (good c p k)).map (·.2)
  old : ∀ g, Pit c g → dist c p g ≤ k → getM s.1 g = some (rowR c p g)
  new : ∀ g, g ∈ s.2 → getM s.1 g = some (rowR c p g)
  non : ∀ g, ¬ (Pit c g ∧ dist c p g ≤ k) → g ∉ s.2 → getM s.1 g = none
  nd : (keysM s.1).Nodup
structure Line (c : Cv) (p : Lt) (k : Nat) (l : List Lt) : Prop where
  mem : ∀ g, g ∈ l ↔ Pit c g ∧ dist c p g = k
  srt : l.Pairwise (fun a b => ltLex ltD (rowR c p a) (rowR c p b) = true)
theorem Line.nd {l : List Lt} (h : Line c p k l) : l.Nodup := by
  rw [List.nodup_iff_pairwise_ne]
  exact h.srt.imp fun {a b} z e => by rw [e, ltLD_tot.irr] at z; cases z
structure DsOk (c : Cv) (h : Lt) (l : List (Deed × Lt)) : Prop where
  mem : ∀ x, x ∈ l ↔ Dd c h x.1 x.2
  srt : l.Pairwise (fun a b => ltD a.1 b.1 = true)
end
end Ma
namespace Ma
open PySem Pv Tv
end Ma

/-! Mc1: payments along ways: what the program does, as plain functions -/
namespace Ma
open Tv
abbrev Gv := List ((Int × Int) × Int)
abbrev Cam := List (Int × Option Int)
def gAt (g : Gv) (p : Int × Int) : Int := (getM g p).getD 0
def joinS (here : Int) : List Int → List Int × Cam → List Int × Cam
  | [], s => s
  | o :: os, s => joinS here os (if hasM s.2 o = true then s else (s.1 ++ [o], s.2 ++ [(o, some here)]))
def backP (cm : Cam) : Nat → Int → List Int
  | 0, _ => []
  | t + 1, x => match getM cm x with
    | some (some v) => v :: backP cm t v
    | _ => []
def srcs (left : List Int) : List Int := (rangeL 0 left.length).filter fun b => decide (0 < wAt left b)
def cam0 (l : List Int) : Cam := l.map fun b => (b, none)
/-! ### searching -/
theorem has_keys {κ β : Type} [DecidableEq κ] {m : List (κ × β)} {x : κ} : hasM m x = true ↔ x ∈ keysM m := by
  rw [← hasM_get, Option.isSome_iff_exists]; exact hasM_of
theorem keys_app {κ β : Type} (m l : List (κ × β)) : keysM (m ++ l) = keysM m ++ keysM l := List.map_append
theorem get_at {κ β : Type} [DecidableEq κ] : ∀ {m : List (κ × β)} {i : Nat} {x : κ} {v : β}, (keysM m).Nodup → m[i]? = some (x, v) → getM m x = some v
  | [], _, _, _, _, h => by simp at h
  | q :: m, 0, x, v, _, h => by
    simp at h; subst h
    simp [getM]
  | q :: m, i + 1, x, v, nd, h => by
    have nd' := List.nodup_cons.mp (show (q.1 :: keysM m).Nodup from nd)
    have h' : m[i]? = some (x, v) := by simpa using h
    have ne : ¬ q.1 = x := fun e => nd'.1 (by rw [e]; exact List.mem_map_of_mem (f := (·.1)) (List.mem_of_getElem? h'))
    have ih := get_at nd'.2 h'
    unfold getM at ih ⊢
    rw [List.find?_cons_of_neg (by simpa using ne)]; exact ih
theorem nd_uniq {α : Type} {l : List α} (h : l.Nodup) {i j : Nat} {v : α} (hi : l[i]? = some v) (hj : l[j]? = some v) : i = j := by
  obtain ⟨i1, i2⟩ := List.getElem?_eq_some_iff.mp hi
  obtain ⟨j1, j2⟩ := List.getElem?_eq_some_iff.mp hj
  rw [List.nodup_iff_pairwise_ne] at h
  rcases Nat.lt_trichotomy i j with lt | e | gt
  · exact absurd (i2.trans j2.symm) ((List.pairwise_iff_getElem.mp h) i j i1 j1 lt)
  · exact e
  · exact absurd (j2.trans i2.symm) ((List.pairwise_iff_getElem.mp h) j i j1 i1 gt)
structure Bfs (n : Nat) (B : Int → List Int) (left : List Int) (done line : List Int) (cm : Cam) : Prop where
  ks : keysM cm = done ++ line
  nd : (keysM cm).Nodup
  rg : ∀ x ∈ keysM cm, 0 ≤ x ∧ x < n
  src : ∀ (i : Nat) (x : Int), cm[i]? = some (x, none) → 0 < wAt left x
  par : ∀ (i : Nat) (x v : Int), cm[i]? = some (x, some v) → ∃ j, j < i ∧ (keysM cm)[j]? = some v ∧ x ∈ B v
  all : ∀ x ∈ done, ¬ wAt left x < 0 ∧ ∀ y ∈ B x, y ∈ keysM cm
  str : ∀ x : Int, 0 ≤ x → x < n → 0 < wAt left x → x ∈ keysM cm
section
variable {n : Nat} {B : Int → List Int} {left done line : List Int} {cm : Cam}
theorem Bfs.start (hl : left.length = n) : Bfs n B left [] (srcs left) (cam0 (srcs left)) := by
  have k : keysM (cam0 (srcs left)) = srcs left := by
    unfold keysM cam0
    rw [List.map_map]
    exact List.map_id _
  have at_ : ∀ {i : Nat} {q : Int × Option Int}, (cam0 (srcs left))[i]? = some q → q.1 ∈ srcs left ∧ q.2 = none := fun {i q} h => by
    have := List.mem_of_getElem? h
    obtain ⟨b, hb, rfl⟩ := List.mem_map.mp this
    exact ⟨hb, rfl⟩
  have ms : ∀ x, x ∈ srcs left ↔ (0 ≤ x ∧ x < n) ∧ 0 < wAt left x := fun x => by
    unfold srcs
    rw [List.mem_filter, mem_rangeL, decide_eq_true_eq, hl]; constructor <;> intro h <;> exact ⟨by omega, h.2⟩
  refine ⟨by rw [k]; rfl, ?_, fun x hx => ?_, fun i x h => ?_, fun i x v h => ?_, fun x hx => by simp at hx, fun x h0 h1 h2 => ?_⟩
  · rw [k]
    exact List.nodup_iff_pairwise_ne.mpr ((rangeL_lt.filter _).imp fun h => by omega)
  · rw [k] at hx; exact ((ms x).mp hx).1
  · exact ((ms x).mp (at_ h).1).2
  · have := (at_ h).2; cases this
  · rw [k]; exact (ms x).mpr ⟨⟨h0, h1⟩, h2⟩
theorem Bfs.len (h : Bfs n B left done line cm) : cm.length = done.length + line.length := by
  have := congrArg List.length h.ks
  rwa [keys_len, List.length_append] at this
theorem Bfs.le (h : Bfs n B left done line cm) : cm.length ≤ n := by
  have := List.Nodup.length_le_of_subset h.nd (l₂ := rangeL 0 n) fun x hx => mem_rangeL.mpr (by have := h.rg x hx; omega)
  rwa [keys_len, rangeL_len] at this
structure Mid (n : Nat) (B : Int → List Int) (left : List Int) (done : List Int) (here : Int) (got line : List Int) (cm : Cam) : Prop where
  ks : keysM cm = done ++ here :: line
  nd : (keysM cm).Nodup
  rg : ∀ x ∈ keysM cm, 0 ≤ x ∧ x < n
  src : ∀ (i : Nat) (x : Int), cm[i]? = some (x, none) → 0 < wAt left x
  par : ∀ (i : Nat) (x v : Int), cm[i]? = some (x, some v) → ∃ j, j < i ∧ (keysM cm)[j]? = some v ∧ x ∈ B v
  all : ∀ x ∈ done, ¬ wAt left x < 0 ∧ ∀ y ∈ B x, y ∈ keysM cm
  str : ∀ x : Int, 0 ≤ x → x < n → 0 < wAt left x → x ∈ keysM cm
  got : ∀ y ∈ got, y ∈ keysM cm
theorem Bfs.mid {here : Int} (h : Bfs n B left done (here :: line) cm) : Mid n B left done here [] line cm := ⟨h.ks, h.nd, h.rg, h.src, h.par, h.all, h.str, by simp⟩
theorem Mid.step {here : Int} {got : List Int} (h : Mid n B left done here got line cm) {o : Int} (ho : o ∈ B here) (h0 : 0 ≤ o ∧ o < n) :
    Mid n B left done here (got ++ [o]) (if hasM cm o = true then (line, cm) else (line ++ [o], cm ++ [(o, some here)])).1 (if hasM cm o = true then (line, cm) else (line ++ [o], cm ++ [(o, some here)])).2 := by
  by_cases e : hasM cm o = true
  · rw [if_pos e]
    exact ⟨h.ks, h.nd, h.rg, h.src, h.par, h.all, h.str, fun y hy => by
      rcases List.mem_append.mp hy with hy | hy
      · exact h.got y hy
      · rw [List.mem_singleton.mp hy]; exact has_keys.mp e⟩
  · rw [if_neg e]
    have nk : o ∉ keysM cm := fun z => e (has_keys.mpr z)
    have kk : keysM (cm ++ [(o, some here)]) = keysM cm ++ [o] := keys_app _ _
    refine ⟨?_, ?_, fun x hx => ?_, fun i x hi => ?_, fun i x v hi => ?_, fun x hx => ⟨(h.all x hx).1, fun y hy => ?_⟩, fun x a b c => ?_, fun y hy => ?_⟩
    · rw [kk, h.ks]; simp
    · rw [kk, List.nodup_append]
      exact ⟨h.nd, by simp, fun a ha b hb z => nk (by rw [List.mem_singleton.mp hb] at z; exact z ▸ ha)⟩
    · rw [kk] at hx
      rcases List.mem_append.mp hx with hx | hx
      · exact h.rg x hx
      · rw [List.mem_singleton.mp hx]; exact h0
    · show 0 < wAt left x
      have hi : (cm ++ [(o, some here)])[i]? = some (x, none) := hi
      by_cases lt : i < cm.length
      · rw [List.getElem?_append_left lt] at hi; exact h.src i x hi
      · rw [List.getElem?_append_right (by omega)] at hi
        have := List.mem_of_getElem? hi
        simp at this
    · have hi : (cm ++ [(o, some here)])[i]? = some (x, some v) := hi
      by_cases lt : i < cm.length
      · rw [List.getElem?_append_left lt] at hi
        obtain ⟨j, j1, j2, j3⟩ := h.par i x v hi
        exact ⟨j, j1, by rw [kk, List.getElem?_append_left (by rw [keys_len]; omega)]; exact j2, j3⟩
      · rw [List.getElem?_append_right (by omega)] at hi
        have m := List.mem_of_getElem? hi
        have ii : i - cm.length = 0 := by
          have := (List.getElem?_eq_some_iff.mp hi).1
          simp at this; omega
        simp at m
        obtain ⟨rfl, rfl⟩ := m
        have hk : v ∈ keysM cm := by rw [h.ks]; simp
        obtain ⟨j, hj⟩ := List.getElem?_of_mem hk
        have jl := (List.getElem?_eq_some_iff.mp hj).1
        rw [keys_len] at jl
        exact ⟨j, by omega, by rw [kk, List.getElem?_append_left (by rw [keys_len]; omega)]; exact hj, ho⟩
    · rw [kk]; exact List.mem_append_left _ ((h.all x hx).2 y hy)
    · rw [kk]; exact List.mem_append_left _ (h.str x a b c)
    · rw [kk]
      rcases List.mem_append.mp hy with hy | hy
      · exact List.mem_append_left _ (h.got y hy)
      · exact List.mem_append_right _ hy
theorem Mid.join {here : Int} : ∀ {os got line : List Int} {cm : Cam}, Mid n B left done here got line cm → (∀ o ∈ os, o ∈ B here ∧ 0 ≤ o ∧ o < n) → Mid n B left done here (got ++ os) (joinS here os (line, cm)).1 (joinS here os (line, cm)).2
  | [], got, line, cm, h, _ => by rw [List.append_nil]; exact h
  | o :: os, got, line, cm, h, ho => by
    have s := h.step (ho o (by simp)).1 (ho o (by simp)).2
    have := s.join (os := os) fun x hx => ho x (by simp [hx])
    rw [List.append_assoc] at this
    exact this
theorem Mid.fin {here : Int} (h : Mid n B left done here (B here) line cm) (hz : ¬ wAt left here < 0) : Bfs n B left (done ++ [here]) line cm :=
  ⟨by rw [h.ks]; simp, h.nd, h.rg, h.src, h.par, fun x hx => by
    rcases List.mem_append.mp hx with hx | hx
    · exact h.all x hx
    · rw [List.mem_singleton.mp hx]; exact ⟨hz, h.got⟩, h.str⟩
def Wy (B : Int → List Int) (left : List Int) : List Int → Prop
  | [] => False
  | [x] => 0 < wAt left x
  | x :: y :: l => x ∈ B y ∧ Wy B left (y :: l)
theorem Bfs.back (h : Bfs n B left done line cm) : ∀ (t i : Nat) (x : Int) (p : Option Int), cm[i]? = some (x, p) → i < t → Wy B left (x :: backP cm t x) ∧ (x :: backP cm t x).Nodup ∧ ∀ y ∈ backP cm t x, ∃ j, j < i ∧ (keysM cm)[j]? = some y
  | 0, i, x, p, hi, ht => by omega
  | t + 1, i, x, p, hi, ht => by
    have g := get_at h.nd hi
    cases p with
    | none =>
      have e : backP cm (t + 1) x = [] := by
        show (match getM cm x with | some (some v) => v :: backP cm t v | _ => []) = _
        rw [g]
      rw [e]
      exact ⟨h.src i x hi, by simp, by simp⟩
    | some v =>
      obtain ⟨j, j1, j2, j3⟩ := h.par i x v hi
      have jl := (List.getElem?_eq_some_iff.mp j2).1
      rw [keys_len] at jl
      obtain ⟨q, hq⟩ : ∃ q, cm[j]? = some (v, q) := by
        have e1 := List.getElem?_eq_getElem jl
        have j2 : (cm.map (·.1))[j]? = some v := j2
        rw [List.getElem?_map, e1] at j2
        exact ⟨cm[j].2, by rw [e1]; cases j2; rfl⟩
      obtain ⟨w1, w2, w3⟩ := h.back t j v q hq (by omega)
      have e : backP cm (t + 1) x = v :: backP cm t v := by
        show (match getM cm x with | some (some v) => v :: backP cm t v | _ => []) = _
        rw [g]
      rw [e]
      have w4 : ∀ y ∈ v :: backP cm t v, ∃ j', j' < i ∧ (keysM cm)[j']? = some y := fun y hy => by
        rcases List.mem_cons.mp hy with rfl | hy
        · exact ⟨j, j1, j2⟩
        · obtain ⟨a, b, c⟩ := w3 y hy; exact ⟨a, by omega, c⟩
      refine ⟨⟨j3, w1⟩, List.nodup_cons.mpr ⟨fun hx => ?_, w2⟩, w4⟩
      obtain ⟨j', a, b⟩ := w4 x hx
      have xi : (keysM cm)[i]? = some x := by
        show (cm.map (·.1))[i]? = some x
        rw [List.getElem?_map, hi]; rfl
      have := nd_uniq h.nd b xi
      omega
end
end Ma
namespace Ma
open Tv
end Ma
namespace Ma
open Tv
end Ma
namespace Ma
open Tv
end Ma

/-! Mc2: payments along ways: what is kept, the end -/
namespace Ma
open Tv
def outG (n : Nat) (g : Gv) (a : Int) : Int := ((rangeL 0 n).map fun b => gAt g (a, b)).sum
def inG (n : Nat) (g : Gv) (b : Int) : Int := ((rangeL 0 n).map fun a => gAt g (a, b)).sum
def vl (n : Nat) (w : List Int) (g : Gv) (x : Int) : Int := if 0 < wAt w x then wAt w x - outG n g x else if wAt w x < 0 then wAt w x + inG n g x else 0
structure Pre (told : Cv) (w : List Int) : Prop where
  tl : told.length = w.length
  wl : w.length ≤ 10
  wb : ∀ x ∈ w, -50 ≤ x ∧ x ≤ 50
  tr : ∀ (b : Int), 0 ≤ b → b < w.length → ∀ x ∈ atC told b, 0 ≤ x ∧ x < w.length
  tz : ∀ (b : Int), 0 ≤ b → b < w.length → (atC told b).length ≤ 1000
structure KeyOk (told : Cv) (w : List Int) (p : Int × Int) : Prop where
  r1 : 0 ≤ p.1 ∧ p.1 < w.length
  r2 : 0 ≤ p.2 ∧ p.2 < w.length
  pos : 0 < wAt w p.1
  neg : wAt w p.2 < 0
  nd : p.2 ∈ atC told p.1
structure Gok (told : Cv) (w : List Int) (g : Gv) : Prop where
  kn : (keysM g).Nodup
  ke : ∀ p ∈ keysM g, KeyOk told w p
  nn : ∀ p, 0 ≤ gAt g p
structure Fl (told : Cv) (w : List Int) (s : List Int × Gv) : Prop extends Gok told w s.2 where
  len : s.1.length = w.length
  lv : ∀ x : Int, 0 ≤ x → x < w.length → wAt s.1 x = vl w.length w s.2 x
  lp : ∀ x : Int, 0 ≤ x → x < w.length → 0 < wAt w x → 0 ≤ wAt s.1 x
  ln : ∀ x : Int, 0 ≤ x → x < w.length → wAt w x < 0 → wAt s.1 x ≤ 0
section
variable {told : Cv} {w : List Int} {g : Gv} {m : Int}
theorem Wy.last {B : Int → List Int} {left : List Int} : ∀ {l : List Int}, Wy B left l → 0 < wAt left (l.getLastD 0) ∧ l.getLastD 0 ∈ l ∧ l.headD 0 ∈ l
  | [x], h => ⟨h, by simp, by simp⟩
  | x :: y :: l, h => by
    have := h.2.last
    have el : (x :: y :: l).getLastD 0 = (y :: l).getLastD 0 := rfl
    rw [el]
    exact ⟨this.1, List.mem_cons_of_mem _ this.2.1, by simp⟩
end
end Ma

/-! Mc3: purses in memory -/
namespace Pv
open PySem PySem.Spec PySem.SeqAt L2 Tv
abbrev key2 (p : Int × Int) : List Key := [.inl p.1, .inl p.2]
def encG (g : Ma.Gv) : List (List Key × V) := g.map fun q => (key2 q.1, V.int q.2)
def optV : Option Int → V
  | none => .non
  | some v => .int v
def encC (cm : Ma.Cam) : List (Key × V) := cm.map fun q => (.inl q.1, optV q.2)
theorem Same.sub {H H' : Hp} (h : Same H H') : Sub H H' := fun a o e => ⟨o, h a o e, rfl⟩
theorem Same.sqT {K : PySem.W.Frag} {H H' : Hp} {a : Addr} {xs : List V} (s : Same H H') (h : SqT K H a xs) : SqT K H' a xs := (Same.sub s).sqT h
theorem Same.upd {H : Hp} {p : Addr} {o : HO} (h : H p = none) : Same H (upd H p o) := fun b u e => by rw [upd_ne (ne_of_none e h)]; exact e
section
variable {X : Cx} {K : PySem.W.Frag}
end
def pfl (tl l f d : Addr) : List (Str × V) := putF "given" (.ref d) (putF "first" (.ref f) (putF "left" (.ref l) (putF "told" (.ref tl) [])))
structure PCl (K : PySem.W.Frag) (C : Addr) : Prop where
  cl : Cls K C
  nT : NoAttr K C "told"
  nL : NoAttr K C "left"
  nF : NoAttr K C "first"
  nG : NoAttr K C "given"
structure PObj (K : PySem.W.Frag) (C : Addr) (told : Ma.Cv) (w : List Int) (B H : Hp) (p l d : Addr) (left : List Int) (g : Ma.Gv) : Prop where
  same : Same B H
  bp : B p = none
  bl : B l = none
  bd : B d = none
  ob : ∃ dx tl f tvs, H p = some (.ins C dx (pfl tl l f d)) ∧ B tl = some (.lst (tvs.map V.ref)) ∧ Paired (fun (r : List Int) t => SqT K B t (r.map V.int)) told tvs ∧ SqT K B f (w.map V.int)
  hl : H l = some (.lst (left.map V.int))
  hd : H d = some (.dT (encG g))
section
variable {K : PySem.W.Frag} {C : Addr} {told : Ma.Cv} {w : List Int} {B H H' : Hp} {p l d : Addr} {left : List Int} {g : Ma.Gv}
theorem PObj.to (h : PObj K C told w B H p l d left g) (s : Same H H') : PObj K C told w B H' p l d left g := by
  obtain ⟨dx, tl, f, tvs, h1, h2, h3, h4⟩ := h.ob
  exact ⟨h.same.trans s, h.bp, h.bl, h.bd, ⟨dx, tl, f, tvs, s _ _ h1, h2, h3, h4⟩, s _ _ h.hl, s _ _ h.hd⟩
end
end Pv
namespace Pv
open PySem PySem.Spec PySem.SeqAt L2 Tv
/-! ### ways -/
structure LAt (H0 H : Hp) (a1 a2 : Addr) (line : List Int) (cm : Ma.Cam) : Prop where
  same : Same H0 H
  n1 : H0 a1 = none
  n2 : H0 a2 = none
  h1 : H a1 = some (.lst (line.map V.int))
  h2 : H a2 = some (.dK (encC cm))
theorem LAt.ne {H0 H : Hp} {a1 a2 : Addr} {line : List Int} {cm : Ma.Cam} (h : LAt H0 H a1 a2 line cm) : a1 ≠ a2 := ne_of h.h1 h.h2 (by intro z; cases z)
theorem LAt.to {H0 H H' : Hp} {a1 a2 : Addr} {line : List Int} {cm : Ma.Cam} (h : LAt H0 H a1 a2 line cm) (s : Same H H') : LAt H0 H' a1 a2 line cm := ⟨h.same.trans s, h.n1, h.n2, s _ _ h.h1, s _ _ h.h2⟩
end Pv
namespace Pv
open PySem PySem.Spec PySem.SeqAt L2 Tv
end Pv
namespace Ma
open Tv
end Ma
namespace Pv
open PySem PySem.Spec PySem.SeqAt L2 Tv
def PrR (H : Hp) (q : Int × Int) (v : V) : Prop := ∃ t : Addr, v = .ref t ∧ H t = some (.tup [.int q.1, .int q.2])
theorem PrR.to {H H' : Hp} (s : Same H H') : ∀ {l : List (Int × Int)} {zs : List V}, Paired (PrR H) l zs → Paired (PrR H') l zs
  | _, _, .nil => .nil
  | _, _, .cons ⟨t, e, h⟩ b => .cons ⟨t, e, s _ _ h⟩ (PrR.to s b)
end Pv
namespace Pv
open PySem PySem.Spec PySem.SeqAt L2 Tv
theorem PrR.upd {H : Hp} {b : Addr} {xs : List V} {o : HO} (h : H b = some (.lst xs)) : ∀ {l : List (Int × Int)} {zs : List V}, Paired (PrR H) l zs → Paired (PrR (L2.upd H b o)) l zs
  | _, _, .nil => .nil
  | _, _, .cons ⟨t, e, z⟩ r => .cons ⟨t, e, by rw [upd_ne (ne_of z h (by intro y; cases y))]; exact z⟩ (PrR.upd h r)
end Pv
namespace Pv
open PySem PySem.Spec PySem.SeqAt L2 Tv
end Pv

/-! PxL: sorted(d), d a dict whose keys are pairs of ints -/
namespace Pv
open PySem PySem.Spec PySem.SeqAt PyProof.Rows L2 Tv
/-! // by great divisors -/
section
variable {X : Cx} {CT : CTab} {a b : Expr} {ma mb : EM} {pos : Pos}
end
end Pv

/-! PxM: a pair and one more -/
namespace Pv
open PySem PySem.Spec L2 Tv
/-! * and // of great ints -/
section
variable {X : Cx} {CT : CTab} {a b : Expr} {ma mb : EM} {pos : Pos}
end
end Pv

/-! PxN: except C as e: x = [e.f] if isinstance(e, D) and isinstance(e, ValueError) else []. -/
namespace Pv
open PySem PySem.Spec PySem.SeqAt L2 PyProof.Rows
section
variable {X : Cx} {CT : CTab} {P : List Nat} {Wx : Option WX} {W : WX}
end
end Pv

/-! PxO: comparisons with a global tuple of texts; == and != of an instance and anything by its class's own __eq__. -/
namespace Pv
open PySem PySem.Spec PySem.SeqAt L2
section
variable {X : Cx} {CT : CTab} {a : Expr} {ma : EM} {p pos : Pos} {n : Nat}
end
/-! == and != of an instance -/
section
variable {prog : Program} {w : World} {A : Around} {E : Value → Shared → Prop} {s : Shared} {K : PySem.W.Frag} {x C L f : Addr} {h₀ : Heap} {m : Str → Option Value} {ox : Obj} {od : Option Obj} {b tb : Value}
end
section
variable {X : Cx} {CT : CTab} {a b : Expr} {ma mb : EM} {j : Nat} {em : Int → Option (Nat × CM)} {pos : Pos}
end
end Pv

/-! TwA: answers that are a value or a list; == and != of instances with anything; comparisons with a global tuple of texts. -/
namespace Tv
open PySem Pv
section
variable {ω α β γ : Type} {R R1 R2 : ω → Rho} {me ma mb : EM} {ra : α → Rv} {rb : β → Rv} {Ta : PT α} {Tb : PT β}
/-! exceptions with their fields, from a class's maker -/
end
end Tv

/-! PxP: for k, v in d.items(), keys of any kind. -/
namespace Pv
open PySem PySem.Spec PySem.SeqAt L2 PyProof.Rows
section
variable {X : Cx} {pins : List (Addr × Obj)} {σ : L2.St} {H : Hp} {s : Shared} {d : Addr} {o : Obj}
end
section
variable {P : Program} {w : World} {K : PySem.W.Frag} {tg : Expr} {d : Addr} {o : Obj} {es : Array DictEntry} {ep : Nat}
end
section
variable {X : Cx} {tg e : Expr} {td : TE} {apos cpos : Pos}
end
/-! ### the pairs of a dict -/
section
variable {X : Cx} {CT : CTab} {P ts : List Nat} {elts : List Expr} {kk : Nat} {tpos : Pos} {body : List Stmt} {mg : GM} {mb : SM} {x : Str}
end
end Pv

/-! PxQ: sorted(d, key=f), sum(d.values()), d a dict whose keys are tuples. -/
namespace Pv
open PySem PySem.Spec PySem.SeqAt L2 PySem.W PyProof.Rows
section
variable {prog : Program} {w : World} {A : Around} {E : Value → Shared → Prop} {s : Shared} {T : String} {r d : Addr} {n : Nat} {P : Nat → Value → Prop} {OK : Heap → Prop}
end
/-! the node -/
end Pv

/-! PxR: sum(d.values()), d a dict whose keys are tuples; d == {}. -/
namespace Pv
open PySem PySem.Spec PySem.SeqAt L2 PyProof.Rows
open PySem.Calls
section
variable {prog : Program} {w : World} {A : Around} {E : Value → Shared → Prop} {s : Shared} {T : String} {r d : Addr} {n : Nat} {P : Nat → Value → Prop} {OK : Heap → Prop} {Q : Value → Shared → Prop}
end
section
variable {X : Cx} {CT : CTab} {e : Expr} {td : TE} {me : EM} {p pos apos cpos : Pos}
end
/-! d == {} -/
section
variable {prog : Program} {w : World} {A : Around} {E : Value → Shared → Prop} {s : Shared}
end
section
variable {X : Cx} {CT : CTab} {e : Expr} {td : TE} {me : EM} {pos p2 : Pos}
end
end Pv

/-! PxS: x += e, x -= e of ints. -/
namespace Pv
open PySem PySem.Spec PySem.SeqAt L2
section
variable {X : Cx} {CT : CTab} {P : List Nat} {Wx : Option WX} {e : Expr} {me : EM} {pos pos' : Pos}
end
end Pv

/-! TwB: the pairs of a dict, its values' sum, its keys sorted by a def, whether it is empty; x += e; comparisons with a global tuple of texts. -/
namespace Tv
open PySem Pv
section
variable {κ β : Type} [DecidableEq κ] {t : Bool} {kf : κ → List Int} {ek : κ → D} {e : β → D}
end
/-! comparisons with a global tuple of texts -/
end Tv

/-! PxT: sorted(list of tuples), none of them empty or the first one empty. -/
namespace Pv
open PySem PySem.Spec PySem.SeqAt L2
end Pv

/-! TwC: sorted(list of tuples), none of them empty or the first one empty. -/
namespace Tv
open PySem Pv
end Tv

/-! PxU: except C as e: x = (e.f,). -/
namespace Pv
open PySem PySem.Spec PySem.SeqAt L2 PyProof.Rows
section
variable {X : Cx} {CT : CTab} {P : List Nat} {Wx : Option WX} {W : WX}
end
end Pv

/-! PxV: l.count(x), items of any kind. -/
namespace Pv
open PySem PySem.Spec PySem.SeqAt L2 PyProof.Rows
section
variable {X : Cx} {CT : CTab} {e : Expr} {mr : AM} {p pos : Pos}
end
end Pv

/-! TwD: except C as e: x = (e.f,); l.count(x). -/
namespace Tv
open PySem Pv
section
variable {pay : Pay} {ω α β γ δ : Type} {me ma mb : EM} {R R1 : ω → Rho} {s : α → SV} {sr : γ → SV} {T : PT (α ⊕ Str)}
end
end Tv

/-! PxW: for v in d.values(), keys of any kind. -/
namespace Pv
open PySem PySem.Spec PySem.SeqAt L2 PyProof.Rows
section
variable {P : Program} {w : World} {K : PySem.W.Frag} {tg : Expr} {d : Addr} {o : Obj} {es : Array DictEntry} {ep : Nat}
end
section
variable {X : Cx} {tg e : Expr} {td : TE} {apos cpos : Pos}
end
section
variable {X : Cx} {CT : CTab} {P ts : List Nat} {tg : Expr} {body : List Stmt} {mg : GM} {mb : SM} {x : Str}
end
end Pv

/-! TwE: the values of a dict, walked; (*pair, x). -/
namespace Tv
open PySem Pv
end Tv

/-! PxX: xs[i] -= e; x, xs[i] = e. -/
namespace Pv
open PySem PySem.Spec PySem.SeqAt L2
section
variable {X : Cx} {CT : CTab} {P : List Nat} {Wx : Option WX} {a e : Expr} {ma me : EM} {p tpos pos : Pos}
end
section
variable {X : Cx} {CT : CTab} {P : List Nat} {Wx : Option WX} {b e : Expr} {m2 me : EM}
end
end Pv

/-! TwF: xs[i] -= e; x, xs[i] = e. -/
namespace Tv
open PySem Pv
section
variable {ω γ δ : Type} {me m1 m2 : EM} {R R1 : ω → Rho}
end
end Tv

/-! PxY: text.split(sep), sep.join(texts). -/
namespace Pv
open PySem PySem.Spec PySem.SeqAt L2 PyProof.Rows
def strsD : List D → Option (List Str)
  | [] => some []
  | .str x :: r => (strsD r).map (x :: ·)
  | _ => none
theorem strsD_map : ∀ l : List Str, strsD (l.map PyData.str) = some l
  | [] => rfl
  | x :: r => by simp only [List.map_cons, strsD, strsD_map r, Option.map_some]
theorem RepL.strs {k : Kx} {F : Hp} : ∀ {vs : List V} {ds : List D} {ns : List Str}, RepL k F vs ds → strsD ds = some ns → vs = ns.map V.str
  | _, _, _, .nil, e => by cases e; rfl
  | _, d :: ds, _, .cons r t, e => by
    cases d with
    | str x =>
      obtain ⟨l, h1, rfl⟩ := Option.map_eq_some_iff.mp e
      have := RepL.strs t h1
      subst this
      cases r
      rfl
    | _ => cases e
theorem repL_strs {k : Kx} {F : Hp} : ∀ l : List Str, RepL k F (l.map V.str) (l.map PyData.str)
  | [] => .nil
  | x :: r => .cons (.str x) (repL_strs r)
def evSplit (mo : EM) (ma : AM) : EM := fun ρ => (mo ρ).bind fun o => (frz1 o.2 o.1).bind fun d => match d.1 with
  | .str x => (ma d.2).bind fun a => (frzs a.2 a.1).bind fun b => match b.1 with
    | [.str y] => if (y.length == 0) = false ∧ x.length + 2 ≤ sizeLine then some (.sv (.own (.lst ((Txt.split x y).map PyData.str))), b.2) else none
    | _ => none
  | _ => none
theorem simSplit {k : Kx} {to : TE} {ta : TA} {mo : EM} {ma : AM} (ho : SimE k to mo) (ha : SimA k ta ma) : SimE k (tBM k.K "str" (fun x xs H Q => ∃ a b, x = V.str a ∧ xs = [V.str b] ∧ (b.length == 0) = false ∧ a.length + 2 ≤ sizeLine ∧ rNewStrs (Txt.split a b) H Q) to ta) (evSplit mo ma) := by
  intro F ρ σ H Q f h
  unfold evSplit at h
  refine ho F ρ σ H _ f ((wpo_bind.mp h).mono fun o _ h => ?_)
  intro x F0 H0 A0 R0
  have h := wpo_bind.mp h
  cases e0 : frz1 o.2 o.1 with
  | none => rw [e0] at h; exact h.elim
  | some d =>
    rw [e0] at h
    obtain ⟨d0, ρ0⟩ := d
    obtain ⟨F0', A0', s0, rv, _⟩ := frz1_ok f A0 R0 e0
    cases d0 with
    | str z =>
      cases rv
      refine ⟨rfl, ?_⟩
      replace h : wpo ((ma ρ0).bind _) _ := h
      refine ha F0' ρ0 σ H0 _ A0'.fr ((wpo_bind.mp h).mono fun a _ h => ?_)
      intro vs F1 H1 A1 R1
      have h := wpo_bind.mp h
      cases e1 : frzs a.2 a.1 with
      | none => rw [e1] at h; exact h.elim
      | some b =>
        rw [e1] at h
        obtain ⟨F2, A2, s2, r2⟩ := frzs_ok A0'.fr A1 (fun _ h => h) R1 e1
        obtain ⟨b1, b2⟩ := b
        match b1, r2 with
        | [.str y], .cons (.str _) .nil =>
          replace h : wpo (if (y.length == 0) = false ∧ z.length + 2 ≤ sizeLine then some (Rv.sv (.own (.lst ((Txt.split z y).map PyData.str))), b2) else none) _ := h
          split at h
          · rename_i hc
            refine ⟨z, y, rfl, rfl, hc.1, hc.2, fun p hp => ?_⟩
            have A3 := A0'.trans A2
            exact h _ F2 _ (A3.newOw hp) ⟨p, _, rfl, A3.none_of hp, upd_same, A3.fr.sub.none_of hp, _, rfl, repL_strs _⟩
          · exact h.elim
    | _ => exact h.elim
section
variable {X : Cx} {CT : CTab} {e o : Expr} {mo : EM} {mr : AM} {p pos : Pos}
theorem nSplit {apos : Pos} (ho : NE X CT o mo) (ha : NA X CT [e] mr) (hbase : attributeBase o "split" X.env (eval o X.env) = eval o X.env := by rfl)
    (hfew : ((backTo pos (starEach [e] X.env)).all (fun x => !x.1) && (backToKw pos (keywordEach [] X.env)).all (fun x => x.1.isSome) && decide ([e].length + ([] : List Keyword).length + (if ([] : List Keyword).isEmpty then 0 else 1) < 30)) = true := by rfl)
    (hline : (apos.endLine == pos.line) = true := by rfl) (hs : starEach [e] X.env = (false, eval e X.env) :: starEach [] X.env := by rfl) : NE X CT (.Call (.Attribute o "split" apos) [e] [] pos) (evSplit mo mr) := by
  obtain ⟨_, po, so⟩ := ho
  obtain ⟨_, pa, sa⟩ := ha
  exact ⟨_, pe_bm PySem.F.plainAttrs_str PySem.F.slot_str_split PySem.F.type_str_split mt_split po pa hbase hfew hline hs, simSplit (k := kx X CT) so sa⟩
end
def evJoin (mo : EM) (ma : AM) : EM := fun ρ => (mo ρ).bind fun o => (frz1 o.2 o.1).bind fun d => match d.1 with
  | .str x => (ma d.2).bind fun a => (rdAll a.2 a.1).bind fun ds => match ds with
    | [.list xs] => (strsD xs).bind fun ys => if (ys.map (·.length)).sum + ys.length * x.length ≤ 16777216 then some (.sv (.val (.str (Txt.join x ys))), a.2) else none
    | _ => none
  | _ => none
theorem simJoin {k : Kx} {to : TE} {ta : TA} {mo : EM} {ma : AM} (ho : SimE k to mo) (ha : SimA k ta ma) : SimE k (tBM k.K "str" (fun x xs H Q => ∃ a p, ∃ ys : List Str, x = V.str a ∧ xs = [V.ref p] ∧ (SqL k.K H p (ys.map V.str) ∨ SqT k.K H p (ys.map V.str)) ∧ (ys.map (·.length)).sum + ys.length * a.length ≤ 16777216 ∧ Q (V.str (Txt.join a ys)) H) to ta) (evJoin mo ma) := by
  intro F ρ σ H Q f h
  unfold evJoin at h
  refine ho F ρ σ H _ f ((wpo_bind.mp h).mono fun o _ h => ?_)
  intro x F0 H0 A0 R0
  have h := wpo_bind.mp h
  cases e0 : frz1 o.2 o.1 with
  | none => rw [e0] at h; exact h.elim
  | some d =>
    rw [e0] at h
    obtain ⟨d0, ρ0⟩ := d
    obtain ⟨F0', A0', s0, rv, _⟩ := frz1_ok f A0 R0 e0
    cases d0 with
    | str z =>
      cases rv
      refine ⟨rfl, ?_⟩
      replace h : wpo ((ma ρ0).bind _) _ := h
      refine ha F0' ρ0 σ H0 _ A0'.fr ((wpo_bind.mp h).mono fun a _ h => ?_)
      intro vs F1 H1 A1 R1
      have h := wpo_bind.mp h
      cases e1 : rdAll a.2 a.1 with
      | none => rw [e1] at h; exact h.elim
      | some ds =>
        rw [e1] at h
        have rd := RRs.rd A1.fr R1 e1
        replace h : wpo (match ds with
          | [.list xs] => (strsD xs).bind fun ys => if (ys.map (·.length)).sum + ys.length * z.length ≤ 16777216 then some (Rv.sv (.val (.str (Txt.join z ys))), a.2) else none
          | _ => none) _ := h
        split at h
        · rename_i xs
          have h := wpo_bind.mp h
          cases e2 : strsD xs with
          | none => rw [e2] at h; exact h.elim
          | some ys =>
            rw [e2] at h
            obtain ⟨v, rfl, r⟩ := rd.one
            obtain ⟨p, ws, rfl, hp, rl⟩ := r.lst A1.fr.sub
            have := RepL.strs rl e2
            subst this
            replace h : wpo (if _ then _ else none) _ := h
            split at h
            · rename_i hc
              exact ⟨z, p, ys, rfl, rfl, .inl (.inl (.inl hp)), hc, h _ F1 H1 (A0'.trans A1) (.str _)⟩
            · exact h.elim
        · exact h.elim
    | _ => exact h.elim
section
variable {X : Cx} {CT : CTab} {e o : Expr} {mo : EM} {mr : AM} {p pos : Pos}
theorem nJoin {apos : Pos} (ho : NE X CT o mo) (ha : NA X CT [e] mr) (hbase : attributeBase o "join" X.env (eval o X.env) = eval o X.env := by rfl)
    (hfew : ((backTo pos (starEach [e] X.env)).all (fun x => !x.1) && (backToKw pos (keywordEach [] X.env)).all (fun x => x.1.isSome) && decide ([e].length + ([] : List Keyword).length + (if ([] : List Keyword).isEmpty then 0 else 1) < 30)) = true := by rfl)
    (hline : (apos.endLine == pos.line) = true := by rfl) (hs : starEach [e] X.env = (false, eval e X.env) :: starEach [] X.env := by rfl) : NE X CT (.Call (.Attribute o "join" apos) [e] [] pos) (evJoin mo mr) := by
  obtain ⟨_, po, so⟩ := ho
  obtain ⟨_, pa, sa⟩ := ha
  exact ⟨_, pe_bm PySem.F.plainAttrs_str PySem.F.slot_str_join PySem.F.type_str_join mt_join po pa hbase hfew hline hs, simJoin (k := kx X CT) so sa⟩
end
end Pv

/-! TwG: text.split(sep), sep.join(texts). -/
namespace Tv
open PySem Pv
def splitW (x y : Str) : PT (List Str) := fun Q => ((y.length == 0) = false ∧ x.length + 2 ≤ sizeLine) ∧ Q (Txt.split x y)
def joinW (x : Str) (ys : List Str) : PT Str := fun Q => (ys.map (·.length)).sum + ys.length * x.length ≤ 16777216 ∧ Q (Txt.join x ys)
theorem wSplit {ω α : Type} {mo : EM} {ms : AM} {R R0 R1 : ω → Rho} {To : PT Str} {rs : α → List Rv} {T : PT α} {v : α → Str} (ho : WE mo R (fun x : Str => .sv (.val (eS x))) To R0) (h : W ms R0 rs T R1) (h1 : ∀ w a, frzs (R1 w) (rs a) = some ([eS (v a)], R1 w) := by intro _ _; rfl) :
    WE (evSplit mo ms) R (fun l : List Str => .sv (vL eS l)) (fun Q => To fun x => T fun a => splitW x (v a) Q) R1 := fun w Q q => by
  obtain ⟨x, w0, q0, e0⟩ := ho w _ q
  obtain ⟨a, w1, q1, e1⟩ := h w0 _ q0
  refine ⟨_, w1, q1.2, ?_⟩
  have f1 : frz1 (R0 w0) (.sv (.val (eS x))) = some (PyData.str x, R0 w0) := rfl
  have h1' : frzs (R1 w1) (rs a) = some ([PyData.str (v a)], R1 w1) := h1 w1 a
  simp only [evSplit, e0, Option.bind_some, f1, e1, h1', if_pos q1.1]
theorem wJoin {ω α : Type} {mo : EM} {ms : AM} {R R0 R1 : ω → Rho} {To : PT Str} {rs : α → List Rv} {T : PT α} {l : α → List Str} (ho : WE mo R (fun x : Str => .sv (.val (eS x))) To R0) (h : W ms R0 rs T R1) (h1 : ∀ w a, rdAll (R1 w) (rs a) = some [eL eS (l a)] := by intro _ _; rfl) :
    WE (evJoin mo ms) R (fun x : Str => .sv (.val (eS x))) (fun Q => To fun x => T fun a => joinW x (l a) Q) R1 := fun w Q q => by
  obtain ⟨x, w0, q0, e0⟩ := ho w _ q
  obtain ⟨a, w1, q1, e1⟩ := h w0 _ q0
  refine ⟨_, w1, q1.2, ?_⟩
  have f1 : frz1 (R0 w0) (.sv (.val (eS x))) = some (PyData.str x, R0 w0) := rfl
  have h1' : rdAll (R1 w1) (rs a) = some [PyData.list ((l a).map PyData.str)] := h1 w1 a
  simp only [evJoin, e0, Option.bind_some, f1, e1, h1', strsD_map, if_pos q1.1]
end Tv

/-! PxZ: text * int, text + text. -/
namespace Pv
open PySem PySem.Spec PySem.SeqAt L2 PyProof.Rows
section
variable {X : Cx} {CT : CTab} {a b : Expr} {ma mb : EM} {pos : Pos}
end
end Pv

/-! TwH: text * int, text + text. -/
namespace Tv
open PySem Pv
end Tv

/-! PyA: B.__init__(self, ..), B an own class over ValueError that has no __init__ of its own. -/
namespace L2
open PySem PySem.Spec PyProof.Rows
section
variable {X : Cx} {e : Expr} {es : List Expr} {ta : TA} {p1 p2 pos : Pos} {x : Str} {B : Addr}
def pinB (K : PySem.W.Frag) (B : Addr) : Bool := decide (PySem.W.specialIn K (.ref B) "__getattribute__" = some (some (.builtin "type.__getattribute__"))) && PySem.W.readsIn K B (.type "type")
theorem pe_pinit {pl : Sem Bool} (hg : Gl X x) (hm : X.mg x = some (.ref B)) (hB : pinB X.K B = true) (vV : PySem.W.findCls X.K (.ref B) (.type "type") "__init__" = some (.val (.builtin "ValueError.__init__"))) (ha : PA X (e :: es) ta) (hdb : (x == ("__debug__" : Str)) = false := by decide)
    (hc : eval (.Call (.Attribute (.Name x p1) "__init__" p2) (e :: es) [] pos) X.env = (do
      let ov ← eval (.Name x p1) X.env
      standAt p2.atName
      let (f, first) ← holding [ov] (getMethod ov "__init__" pl)
      callWith pos f first (backTo pos (starEach (e :: es) X.env)) (backToKw pos (keywordEach [] X.env))) := by rfl)
    (he : starEach (e :: es) X.env = (false, eval e X.env) :: starEach es X.env := by rfl) (hpl : (backTo pos (starEach es X.env)).any (·.1) = false := by rfl) :
    PE X (.Call (.Attribute (.Name x p1) "__init__" p2) (e :: es) [] pos) (tVeI X.K ta) := by
  refine ⟨fun pins s σ H Q I h => ?_⟩
  obtain ⟨h1, h2⟩ := Bool.and_eq_true_iff.mp hB
  have h1 := of_decide_eq_true h1
  refine PySem.W.methodCall_KW (ld_glob I hg hm ?_ hdb) hc
  refine PySem.W.method_cls I.kIn h1 (PySem.W.cls_value I.kIn h2 vV (by decide +kernel) ?_)
  show wpAny _ _ (callWith pos (Value.builtin "ValueError.__init__") [] (backTo pos (starEach (e :: es) X.env)) []) _ _ _
  refine PyProof.Rows.callWith_method1 (thn (ha.run pos pins _ σ H _ (I.tok _) h) fun us s1 ⟨vs, H1, I1, r1, a, C, ws, ev, hl, T, ea, q⟩ => ?_) he hpl
  subst ev
  cases r1 with
  | @cons _ u0 _ ur ra rw' =>
    obtain rfl : u0 = Value.ref a := ra
    have hlen : ur.length ≤ sizeLine := by
      rw [← Paired.length rw', sizeLine_eq]
      omega
    exact oinit_ok T I1 ea hlen fun s' J => ⟨.non, H1, J, rfl, q⟩
end
end L2

/-! PyB: an own exception class whose __init__ says B.__init__(self, 'text'); self.f = a; self.g = b. -/
namespace Pv
open PySem PySem.Spec PySem.SeqAt L2 PyProof.Rows
def spJ (C : Addr) (f1 f2 : Str) : Sp := fun vs H Q _ => ∃ a y z, vs = [.ref a, y, z] ∧ H a = some (exo a C none) ∧ ∀ dx, H dx = none → dx ≠ a → Q .non (upd (upd (upd H dx (exd dx [(f1, y)])) a (exo a C (some dx))) dx (exd dx [(f2, z), (f1, y)]))
abbrev bodyJ (B a0 f1 f2 x1 x2 tx : Str) (u : Nat) (p1 p2 p3 q0 p4 p5 p6 p7 p8 p9 p10 p11 p12 p13 : Pos) : List Stmt :=
  [.Expr (.Call (.Attribute (.Name B p1) "__init__" p2) [.Name a0 p3, .Constant (.str tx) u q0] [] p4) p5, .Assign [.Attribute (.Name a0 p6) f1 p7] (.Name x1 p8) p9, .Assign [.Attribute (.Name a0 p10) f2 p11] (.Name x2 p12) p13]
structure JC (K : PySem.W.Frag) (C BA : Addr) (f1 f2 : Str) : Prop where
  T : OexC K C
  f1 : PySem.W.findIn K (.ref C) f1 = some none
  f2 : PySem.W.findIn K (.ref C) f2 = some none
  b : pinB K BA = true
  v : PySem.W.findCls K (.ref BA) (.type "type") "__init__" = some (.val (.builtin "ValueError.__init__"))
theorem fn_pinit {P : Program} {w : World} {K : PySem.W.Frag} {mg : Str → Option Value} {base : Heap} {k : Nat} {C BA fI : Addr} {name qual B a0 x1 x2 f1 f2 tx : Str} {u : Nat} {params : Arguments} {scope : Scope} {dV kV doc pm cdv ct oc : Value} {an od : Option Addr}
    {osl : Array (Option Value)} {p1 p2 p3 q0 p4 p5 p6 p7 p8 p9 p10 p11 p12 p13 : Pos}
    (lk : K.lookup fI = some ⟨oc, od, .func (PySem.W.fnOf name qual params (bodyJ B a0 f1 f2 x1 x2 tx u p1 p2 p3 q0 p4 p5 p6 p7 p8 p9 p10 p11 p12 p13) scope dV kV doc pm an cdv ct), osl⟩) (hcd : PySem.W.codeIn K cdv qual = true)
    (S : FnScope [a0, x1, x2] [a0, x1, x2] scope) (h0 : scope.names.lookup a0 = some .local) (h1 : scope.names.lookup x1 = some .local) (h2 : scope.names.lookup x2 = some .local) (hB : scope.names.lookup B = some .globalImplicit) (hm : mg B = some (.ref BA)) (J : JC K C BA f1 f2)
    (d0 : (a0 == ("__debug__" : Str)) = false) (c0 : (a0 == ("__classdict__" : Str)) = false) (d1 : (x1 == ("__debug__" : Str)) = false) (c1 : (x1 == ("__classdict__" : Str)) = false) (d2 : (x2 == ("__debug__" : Str)) = false) (c2 : (x2 == ("__classdict__" : Str)) = false) (dB : (B == ("__debug__" : Str)) = false) (hp : p4.line = p2.endLine) (hsc : scope.kind = .function) :
    FnOk P w K mg base CX0 (k + 1) fI (PySem.W.fnOf name qual params (bodyJ B a0 f1 f2 x1 x2 tx u p1 p2 p3 q0 p4 p5 p6 p7 p8 p9 p10 p11 p12 p13) scope dV kV doc pm an cdv ct) [a0, x1, x2] (spJ C f1 f2) := by
  refine fn_of lk hcd S (fun vs H Q E ⟨a, y, z, e, _⟩ => by rw [e]; rfl) fun A outer s H vs Q E hr hsp => ?_
  obtain ⟨a, y, z, rfl, ea, q⟩ := hsp
  let X := cxOf CX0 P w K mg base [a0, x1, x2] qual scope fI cdv A outer s H E
  have v0 : Vis X.env.scope a0 := .inl h0
  have v1 : Vis X.env.scope x1 := .inl h1
  have v2 : Vis X.env.scope x2 := .inl h2
  have e0 : X.N[0]? = some a0 := rfl
  have e1 : X.N[1]? = some x1 := rfl
  have e2 : X.N[2]? = some x2 := rfl
  have gB : Gl X B := hB
  have ev : eval (.Call (.Attribute (.Name B p1) "__init__" p2) [.Name a0 p3, .Constant (.str tx) u q0] [] p4) X.env = (do
      let ov ← eval (.Name B p1) X.env
      standAt p2.atName
      let (f, first) ← holding [ov] (getMethod ov "__init__" (do return (← importBound (.Name B p1) X.env).getD true))
      callWith p4 f first (backTo p4 (starEach [.Name a0 p3, .Constant (.str tx) u q0] X.env)) (backToKw p4 (keywordEach [] X.env))) := by
    have e : eval (.Call (.Attribute (.Name B p1) "__init__" p2) [.Name a0 p3, .Constant (.str tx) u q0] [] p4) X.env = (do
      let ov ← attributeBase (.Name B p1) "__init__" X.env (eval (.Name B p1) X.env)
      standAt p2.atName
      methodCall (.Name B p1) "__init__" p2 p4 X.env ov 2 (backTo p4 (starEach [.Name a0 p3, .Constant (.str tx) u q0] X.env)) []) := rfl
    rw [e]
    unfold methodCall
    have e2 : methodCallPos (methodCallForm 2 (backTo p4 (starEach [.Name a0 p3, .Constant (.str tx) u q0] X.env)) []) (.Name B p1) X.env p2 p4 = pure p4 := by
      unfold methodCallPos
      rw [if_pos]
      rw [hp]; simp
    rw [e2]
    rfl
  have r1 := pe_pinit (X := X) (pl := do return (← importBound (.Name B p1) X.env).getD true) gB hm J.b J.v (pa_cons (pe_var (X := X) (pos := p3) e0 v0 d0 c0) (pa_cons (pe_str (X := X) (x := tx) (j := u) (pos := q0)) pa_nil rfl) rfl) dB ev rfl rfl
  have r2 := ps_ost (X := X) (f := f1) (p' := p7) (pos := p9) (pe_var (X := X) (pos := p6) e0 v0 d0 c0) (pe_var (X := X) (pos := p8) e1 v1 d1 c1) rfl
  have r3 := ps_ost (X := X) (f := f2) (p' := p11) (pos := p13) (pe_var (X := X) (pos := p10) e0 v0 d0 c0) (pe_var (X := X) (pos := p12) e2 v2 d2 c2) rfl
  refine ⟨_, pss_cons (ps_expr (pos := p5) r1 rfl) (pss_cons r2 (pss_one r3)), ?_⟩
  refine ⟨.ref a, rfl, a, C, [.str tx], rfl, by simp, J.T, ea, ?_⟩
  refine ⟨y, rfl, .ref a, rfl, a, C, rfl, J.T, J.f1, .inl ⟨ea, fun dx hd ne => ?_⟩⟩
  refine ⟨z, rfl, .ref a, rfl, a, C, rfl, J.T, J.f2, .inr ⟨dx, [(f1, y)], upd_same, by rw [upd_ne ne, upd_same], by simp, ?_⟩⟩
  exact q dx hd ne
def pinFB (K : PySem.W.Frag) (B x1 x2 f1 f2 : Str) : FuncData → Bool
  | ⟨_, qn, ⟨[], [⟨a0, _, _⟩, ⟨a1, _, _⟩, ⟨a2, _, _⟩], none, [], [], none, []⟩, .stmts [.Expr (.Call (.Attribute (.Name bn p1) ini p2) [.Name s0 p3, .Constant (.str tx) u q0] [] p4) p5, .Assign [.Attribute (.Name s1 p6) g1 p7] (.Name y1 p8) p9, .Assign [.Attribute (.Name s2 p10) g2 p11] (.Name y2 p12) p13], sc, gl, [], .none, _, _, _, _, cda, _, bi⟩ =>
    decide (a0 = "self") && (decide (a1 = x1) && (decide (a2 = x2) && (decide (bn = B) && (decide (ini = "__init__") && (decide (s0 = "self") && (decide (s1 = "self") && (decide (s2 = "self") && (decide (g1 = f1) && (decide (g2 = f2) && (decide (y1 = x1) && (decide (y2 = x2) &&
    (decide (gl = mainGlobals) && (decide (bi = builtinsNs) && (PySem.W.codeIn K cda qn && (decide (p4.line = p2.endLine) && (decide (sc.kind = .function) && (decide (sc.isCoroutine = false) && (decide (sc.isGenerator = false) && (decide (sc.names.lookup B = some .globalImplicit) &&
    (decide (sc.names.lookup ("self" : Str) = some .local) && (decide (sc.names.lookup x1 = some .local) && (decide (sc.names.lookup x2 = some .local) && (sc.names.all fun y => decide (y.2 ≠ .free))))))))))))))))))))))))
  | _ => false
theorem pinFB_ok {P : Program} {w : World} {K : PySem.W.Frag} {mg : Str → Option Value} {base : Heap} {k : Nat} {C BA fI : Addr} {f1 f2 : Str} {fd : FuncData} {oc : Value} {od : Option Addr} {osl : Array (Option Value)}
    (J : JC K C BA f1 f2) (lk : K.lookup fI = some ⟨oc, od, .func fd, osl⟩) (h : pinFB K "PitError" "line" "word" f1 f2 fd = true) (hm : mg "PitError" = some (.ref BA)) : ∃ ps, FnOk P w K mg base CX0 (k + 1) fI fd ps (spJ C f1 f2) ∧ Binds K fd ps [] := by
  unfold pinFB at h
  split at h
  · rename_i name qn a0 t1 t2 a1 t3 t4 a2 t5 t6 bn p1 ini p2 s0 p3 tx u q0 p4 p5 s1 p6 g1 p7 y1 p8 p9 s2 p10 g2 p11 y2 p12 p13 sc gl kV doc pm an cda ct bi
    simp only [Bool.and_eq_true, decide_eq_true_eq] at h
    obtain ⟨rfl, rfl, rfl, rfl, rfl, rfl, rfl, rfl, rfl, rfl, rfl, rfl, rfl, rfl, hcd, hp, hk, hco, hge, hB, h0, h1, h2, hfr⟩ := h
    refine ⟨_, fn_pinit (name := name) (qual := qn) (params := ⟨[], [⟨"self", t1, t2⟩, ⟨"line", t3, t4⟩, ⟨"word", t5, t6⟩], none, [], [], none, []⟩) (scope := sc) (p1 := p1) (p2 := p2) (p3 := p3) (p4 := p4) (p5 := p5) (p6 := p6) (p7 := p7) (p8 := p8) (p9 := p9) (p10 := p10) (p11 := p11) (p12 := p12) (p13 := p13)
      lk hcd ⟨hk, hco, hge, by decide, rfl, fun x hx => ?_, fun y hy => of_decide_eq_true (List.all_eq_true.mp hfr y hy)⟩ h0 h1 h2 hB hm J (by decide) (by decide) (by decide) (by decide) (by decide) (by decide) (by decide) hp hk, Binds.all fun us hl => ?_⟩
    · rcases List.mem_cons.mp hx with rfl | hx
      · exact .inl h0
      · rcases List.mem_cons.mp hx with rfl | hx
        · exact .inl h1
        · rcases List.mem_cons.mp hx with rfl | hx
          · exact .inl h2
          · cases hx
    · match us, hl with
      | [_, _, _], _ => rfl
  · cases h
def valB : Option PySem.W.CFound → Bool
  | some (.val (.builtin n)) => decide (n = "ValueError.__init__")
  | _ => false
theorem valB_ok {x : Option PySem.W.CFound} (h : valB x = true) : x = some (.val (.builtin "ValueError.__init__")) := by
  unfold valB at h
  split at h
  · rw [of_decide_eq_true h]
  · cases h
def jcB (K : PySem.W.Frag) (C BA : Addr) (f1 f2 : Str) : Bool :=
  oexB K C && (He.eqO (PySem.W.findIn K (.ref C) "__setattr__") (some (some (.builtin "object.__setattr__"))) && (decide (PySem.W.subIn K (.ref C) (.type "BaseException") = some true) && (decide (PySem.W.typeIn K (.ref C) = some (.type "type")) && (PySem.W.keepIn K (.ref C) &&
  (He.eqO (PySem.W.findIn K (.ref C) f1) (some none) && (He.eqO (PySem.W.findIn K (.ref C) f2) (some none) && (pinB K BA && valB (PySem.W.findCls K (.ref BA) (.type "type") "__init__"))))))))
theorem jcB_ok {K : PySem.W.Frag} {C BA : Addr} {f1 f2 : Str} (h : jcB K C BA f1 f2 = true) : JC K C BA f1 f2 := by
  unfold jcB at h
  obtain ⟨h1, h⟩ := He.ba h
  obtain ⟨h2, h⟩ := He.ba h
  obtain ⟨h3, h⟩ := He.ba h
  obtain ⟨h4, h⟩ := He.ba h
  obtain ⟨h5, h⟩ := He.ba h
  obtain ⟨h6, h⟩ := He.ba h
  obtain ⟨h7, h⟩ := He.ba h
  obtain ⟨h8, h9⟩ := He.ba h
  exact ⟨⟨oexB_ok h1, He.eqO_ok h2, of_decide_eq_true h3, of_decide_eq_true h4, h5⟩, He.eqO_ok h6, He.eqO_ok h7, h8, valB_ok h9⟩
def pjB (K : PySem.W.Frag) (x f1 f2 : Str) : Bool := (jcB K (He.ga K x) (He.ga K "PitError") f1 f2 && xfB K (He.ga K x)) && (match PySem.W.findIn K (.ref (He.ga K x)) "__init__" with
  | some (some (.ref fI)) => decide (PySem.W.typeIn K (.ref fI) = some (.type "function")) && (match K.lookup fI with
    | some ⟨_, _, .func fd, _⟩ => pinFB K "PitError" "line" "word" f1 f2 fd
    | _ => false)
  | _ => false)
theorem pjB_ok {P : Program} {w : World} {K : PySem.W.Frag} {mg : Str → Option Value} {base : Heap} {k : Nat} {x f1 f2 : Str} (h : pjB K x f1 f2 = true) (hm : mg "PitError" = some (.ref (He.ga K "PitError"))) : JC K (He.ga K x) (He.ga K "PitError") f1 f2 ∧ XfC K (He.ga K x) ∧ ∃ fI fd ps, PySem.W.findIn K (.ref (He.ga K x)) "__init__" = some (some (.ref fI)) ∧ PySem.W.typeIn K (.ref fI) = some (.type "function") ∧
    FnOk P w K mg base CX0 (k + 1) fI fd ps (spJ (He.ga K x) f1 f2) ∧ Binds K fd ps [] := by
  unfold pjB at h
  obtain ⟨h1, h⟩ := He.ba h
  obtain ⟨h1, h0⟩ := He.ba h1
  have hc := jcB_ok h1
  refine ⟨hc, xfB_ok h0, ?_⟩
  split at h
  · rename_i fI e
    obtain ⟨h2, h⟩ := He.ba h
    split at h
    · rename_i oc od fd osl lk
      obtain ⟨ps, g1, g2⟩ := pinFB_ok (P := P) (w := w) (mg := mg) (base := base) (k := k) hc lk h hm
      exact ⟨fI, fd, ps, e, of_decide_eq_true h2, g1, g2⟩
    · cases h
  · cases h
def exRaiseJ (x f1 f2 : Str) (m1 m2 : EM) : SM := fun ρ => (m1 ρ).bind fun a => match a.1 with
  | .sv (.val d) => (m2 a.2).bind fun b => match b.1 with
    | .sv (.val d2) => some (.ret (.sv (.val (excD x [(f2, d2), (f1, d)]))), b.2)
    | _ => none
  | _ => none
theorem upd_delJ {H1 : Hp} {a dx : Addr} {o1 o2 o3 o4 o5 : HO} (na : H1 a = none) (ne : dx ≠ a) : upd (del (upd (upd (upd (upd H1 a o1) dx o2) a o3) dx o5) a) dx o4 = upd H1 dx o4 := by
  funext b
  by_cases hb : b = dx
  · rw [hb, upd_same, upd_same]
  · rw [upd_ne hb, upd_ne hb]
    by_cases ha : b = a
    · rw [ha, del_same, na]
    · rw [del_ne ha, upd_ne hb, upd_ne ha, upd_ne hb, upd_ne ha]
theorem simRaiseJ {k : Kx} {P : List Nat} {W : WX} {x f1 f2 : Str} {t1 t2 : TE} {m1 m2 : EM} (h1 : SimE k t1 m1) (h2 : SimE k t2 m2) :
    SimS k P (some W) (fun _ σ H => tMkO (He.ga k.K x) (spJ (He.ga k.K x) f1 f2) [] (tCons t1 (tCons t2 tNil)) σ H fun cls d H' => W cls d σ H') (exRaiseJ x f1 f2 m1 m2) := by
  intro e ρ σ F H D hP s h
  unfold exRaiseJ at h
  refine h1 F ρ σ H _ s.fr ((wpo_bind.mp h).mono fun a _ h => ?_)
  intro v F1 H1 A1 R1
  cases hr : a.1 with
  | plc i => rw [hr] at h; exact h.elim
  | sv sv =>
    cases sv with
    | own o => rw [hr] at h; exact h.elim
    | val d =>
      rw [hr] at h R1
      have R1 : Rep k F1 v d := R1
      refine h2 F1 a.2 σ H1 _ A1.fr ((wpo_bind.mp h).mono fun b _ h => ?_)
      intro v2 F2 H2 A2 R2
      cases hr2 : b.1 with
      | plc i => rw [hr2] at h; exact h.elim
      | sv sv2 =>
        cases sv2 with
        | own o => rw [hr2] at h; exact h.elim
        | val d2 =>
          rw [hr2] at h R2
          have R2 : Rep k F2 v2 d2 := R2
          refine ⟨by simp, fun a0 na => ⟨a0, v, v2, rfl, upd_same, fun dx hdx ne => ⟨rfl, dx, [(f2, v2), (f1, v)], ?_, upd_same, ?_, ?_⟩⟩⟩
          · rw [upd_ne (Ne.symm ne), upd_same]
          · rw [upd_ne ne] at hdx; exact hdx
          · rw [upd_ne ne] at hdx
            rw [upd_delJ na ne]
            have A3 := A1.trans A2
            exact h.2 W rfl x [(f2, d2), (f1, d)] rfl _ _ σ F2 _ (s.aft (A3.newOw hdx)) ⟨[v2, v], rfl, .cons R2 (.cons (R1.mono A2.tr.sub) .nil), .inr ⟨dx, by simp, rfl, A3.fr.sub.none_of hdx, upd_same⟩⟩
section
variable {X : Cx} {CT : CTab} {P : List Nat} {Wx : Option WX} {W : WX}
theorem nRaiseJ {x f1 f2 : Str} {e1 e2 : Expr} {m1 m2 : EM} {p pos pos' : Pos} (hs : pjB X.K x f1 f2 = true) (gP : X.mg "PitError" = some (.ref (He.ga X.K "PitError"))) (tk : Takes X W) (gC : X.mg x = some (.ref (He.ga X.K x))) (hr : Room 2 X.A) (ha : NE X CT e1 m1) (hb : NE X CT e2 m2) (hc : X.calm = true := by rfl) (hg : Gl X x := by rfl) (hdb : (x == ("__debug__" : Str)) = false := by decide)
    (he : starEach [e1, e2] X.env = (false, eval e1 X.env) :: starEach [e2] X.env := by rfl) (he2 : starEach [e2] X.env = (false, eval e2 X.env) :: starEach [] X.env := by rfl) (hpl : (backTo pos (starEach [e2] X.env)).any (·.1) = false := by rfl) :
    NS X CT P (some W) (.Raise (some (.Call (.Name x p) [e1, e2] [] pos)) none pos') (exRaiseJ x f1 f2 m1 m2) := by
  obtain ⟨hc', _, fI, fd, ps, h1, h2, h3, h4⟩ := pjB_ok (P := X.prog) (w := X.w) (mg := X.mg) (base := X.base) (k := 0) hs gP
  obtain ⟨t1, pa, sa⟩ := ha
  obtain ⟨t2, pb, sb⟩ := hb
  exact ⟨_, ps_raise hc tk (pmk_oex hc'.T h1 h2 h3 hr h4 .nil pass0 hg gC (pa_cons pa (pa_cons pb pa_nil he2) he) hdb he hpl), simRaiseJ (k := kx X CT) sa sb⟩
end
end Pv

/-! PyC: except C as e: x = (e.f1, e.f2) if isinstance(e, D) else 's'. -/
namespace Pv
open PySem PySem.Spec PySem.SeqAt L2 PyProof.Rows
theorem map_two {fs : List (Str × D)} {a b : Str} {d e : D} (h : fs.map (fun p => ((.str p.1, p.2) : D × D)) = [(.str a, d), (.str b, e)]) : fs = [(a, d), (b, e)] := by
  match fs, h with
  | [(x, u), (y, v)], h => simp at h; obtain ⟨⟨rfl, rfl⟩, rfl, rfl⟩ := h; rfl
def exAsJ (P : List Nat) (i j : Nat) (c f1 f2 : Str) : Str → List (D × D) → SM := fun y l ρ => match l with
  | [(.str g2, d2), (.str g1, d1)] => if (y = c ∧ g1 = f1 ∧ g2 = f2) ∧ ¬ (j ∈ P ∨ i = j ∨ ¬ i < ρ.length) then some (.nx, (kill [i] ρ).set j (some (.val (.tuple [d1, d2])))) else none
  | _ => none
section
variable {X : Cx} {CT : CTab} {P : List Nat} {Wx : Option WX} {W : WX}
theorem hfPairJ (i j : Nat) {n fnd s2 c f1 f2 cc : Str} {L : List Str} {p1 p2 q1 q2 q3 q4 q5 q6 q7 q8 r1 r2 lp : Pos} {x1 u2} (hne : f1 ≠ f2) (hN : X.N.Nodup) (hi : X.N[i]? = some n) (hj : X.N[j]? = some fnd) (hlj : Loc X.env.scope fnd) (hiP : i ∈ P → False)
    (hvn : Vis X.env.scope n) (hfj : X.fn fnd = true ∨ X.env.scope.names.lookup fnd = some .local) (hsp : pjB X.K c f1 f2 = true) (hie : ieB X.K c cc = true) (gI : X.mg "isinstance" = none) (gC : X.mg cc = some (.ref (He.ga X.K cc)))
    (hgI : Gl X "isinstance" := by rfl) (hgC : Gl X cc := by rfl)
    (hd : (n == ("__debug__" : Str)) = false := by decide) (hcd : (n == ("__classdict__" : Str)) = false := by decide) (hdc : (cc == ("__debug__" : Str)) = false := by decide) (hcv : cc ≠ "ValueError" := by decide)
    (he : starEach [.Name n q2, .Name cc q3] X.env = (false, eval (.Name n q2) X.env) :: starEach [.Name cc q3] X.env := by rfl) (he2 : starEach [.Name cc q3] X.env = (false, eval (.Name cc q3) X.env) :: starEach [] X.env := by rfl) (hpl : (backTo q4 (starEach [.Name cc q3] X.env)).any (·.1) = false := by rfl)
    (hb : attributeBase (.Name n q5) f1 X.env (eval (.Name n q5) X.env) = eval (.Name n q5) X.env := by rfl) (hb2 : attributeBase (.Name n q7) f2 X.env (eval (.Name n q7) X.env) = eval (.Name n q7) X.env := by rfl)
    (hs1 : starEach [.Attribute (.Name n q5) f1 q6, .Attribute (.Name n q7) f2 q8] X.env = (false, eval (.Attribute (.Name n q5) f1 q6) X.env) :: starEach [.Attribute (.Name n q7) f2 q8] X.env := by rfl)
    (hs2 : starEach [.Attribute (.Name n q7) f2 q8] X.env = (false, eval (.Attribute (.Name n q7) f2 q8) X.env) :: starEach [] X.env := by rfl)
    (hsw : swapsWith (.IfExp (.Call (.Name "isinstance" q1) [.Name n q2, .Name cc q3] [] q4) (.Tuple [.Attribute (.Name n q5) f1 q6, .Attribute (.Name n q7) f2 q8] x1 r1) (.Constant (.str s2) u2 r2) lp) (some (.Name fnd p1)) p2.line X.env = pure false := by rfl) :
    HdF X CT P Wx i L [.Assign [.Name fnd p1] (.IfExp (.Call (.Name "isinstance" q1) [.Name n q2, .Name cc q3] [] q4) (.Tuple [.Attribute (.Name n q5) f1 q6, .Attribute (.Name n q7) f2 q8] x1 r1) (.Constant (.str s2) u2 r2) lp) p2] (exAsJ P i j c f1 f2) := by
  intro y fs hy a oe pn cls d ecls hz hoe e N ρ σ F H hP s ex na h
  unfold exAsJ at h
  split at h
  · rename_i g2 d2 g1 d1 hl
    split at h
    · rename_i hc
      obtain ⟨⟨rfl, rfl, rfl⟩, hij⟩ := hc
      cases map_two hl
      obtain ⟨vs, _, rep, hdf⟩ := id ex
      have hc := He.ba hsp
      have hc1 := He.ba hc.1
      have T := xfB_ok hc1.2
      have C := jcB_ok hc1.1
      obtain ⟨hE, hk⟩ := ieB_ok hie hcv
      subst ecls
      have li : i < σ.length := by
        have := s.fr.len
        have := Classical.byContradiction fun z => hij (.inr (.inr z))
        omega
      have ij : i ≠ j := fun z => hij (.inr (.inl z))
      have hjP : j ∉ P := fun z => hij (.inl z)
      match vs, rep with
      | [v2, v1], .cons r2 (.cons r1 .nil) =>
        rcases hdf with ⟨_, z⟩ | ⟨dd, _, hd2, hF, hH2⟩
        · cases z
        · subst hd2
          refine ⟨_, pss_one (ps_set (X := X.suite a ((a, oe) :: pn)) hN hj hlj (pe_ifExp (pt_val (pe_callB (X := X.suite a ((a, oe) :: pn)) (call_isF hE hz hoe) hgI gI PyProof.Rows.boot_isinstance (pa_cons (pe_var (X := X.suite a ((a, oe) :: pn)) hi hvn hd hcd) (pa_cons (pe_glob (X := X.suite a ((a, oe) :: pn)) (v := .ref (He.ga X.K cc)) hgC gC rfl hdc) pa_nil he2) he) (he := he) (hpl := hpl)))
            (pe_tup (pa_cons (pe_xf T C.f1 hz hoe (pe_var (X := X.suite a ((a, oe) :: pn)) hi hvn hd hcd) hb) (pa_cons (pe_xf T C.f2 hz hoe (pe_var (X := X.suite a ((a, oe) :: pn)) hi hvn hd hcd) hb2) pa_nil hs2) hs1)) pe_str) hsw hfj), ?_⟩
          refine ⟨.ref a, by rw [List.getElem?_set_self li], ?_⟩
          refine ⟨⟨_, hH2⟩, .ref (He.ga X.K cc), _, true, rfl, fun u r => by cases r; rfl, hk, ⟨true, rfl, ?_⟩⟩
          dsimp only
          rw [if_pos rfl]
          have lk1 : List.lookup g1 [(g2, v2), (g1, v1)] = some v1 := by
            rw [List.lookup_cons, beq_false_of_ne hne, List.lookup_cons, beq_self_eq_true]
          have lk2 : List.lookup g2 [(g2, v2), (g1, v1)] = some v2 := by
            rw [List.lookup_cons, beq_self_eq_true]
          refine ⟨.ref a, by rw [List.getElem?_set_self li], rfl, rfl, dd, _, v1, rfl, hH2, lk1, ?_⟩
          refine ⟨.ref a, by rw [List.getElem?_set_self li], rfl, rfl, dd, _, v2, rfl, hH2, lk2, ?_⟩
          show (_ : Prop)
          refine ⟨by show 2 ≤ sizeLine; decide, fun p hp => ?_⟩
          show N.nx (((σ.set i (some (.ref a))).set j (some (.ref p))).set i none) (upd H p (.tup [v1, v2]))
          rw [set_over ij]
          have s2 := s.gone i none (fun q hq z => hiP (z ▸ hP q hq))
          have s3 := s2.aft (Aft.newF (o := .tup [v1, v2]) s2.fr hp)
          have R : RR (kx X CT) e.H (upd F p (.tup [v1, v2])) (kill [i] ρ) (σ.set i none) (upd H p (.tup [v1, v2])) (.sv (.val (.tuple [d1, d2]))) (.ref p) := Rep.tup upd_same (.cons (r1.mono (Sub.upd (s2.fr.sub.none_of hp))) (.cons (r2.mono (Sub.upd (s2.fr.sub.none_of hp))) .nil))
          obtain ⟨F2, s4, _⟩ := sto_ok (P := P) hP s3 (i := j) R (fun o hq => nomatch hq) (show stoS P j (kill [i] ρ) (.sv (.val (.tuple [d1, d2]))) = some ((kill [i] ρ).set j (some (.val (.tuple [d1, d2])))) by simp only [stoS, if_neg hjP])
          exact h _ F2 _ s4
    · exact h.elim
  · exact h.elim
end
structure FxJ (l : List (Str × Str × Str)) (fa : List He.Fa) (fn : List He.DefD) (cs : ClsT) (K : PySem.W.Frag) (mg : Str → Option Value) : Prop extends Fx fa fn cs K mg where
  pj : (l.all fun z => pjB K z.1 z.2.1 z.2.2) = true
theorem pj_at {l : List (Str × Str × Str)} {K : PySem.W.Frag} (h : (l.all fun z => pjB K z.1 z.2.1 z.2.2) = true) (i : Nat) {x f g : Str} (e : l[i]? = some (x, f, g)) : pjB K x f g = true := List.all_eq_true.mp h _ (List.mem_of_getElem? e)
abbrev exJ (cs : ClsT) (l : List (Str × Str × Str)) (K : PySem.W.Frag) : Bool := exK cs K && l.all fun z => pjB K z.1 z.2.1 z.2.2
theorem FxJ.of {l : List (Str × Str × Str)} {fa : List He.Fa} {fn : List He.DefD} {cs : ClsT} {K : PySem.W.Frag} {mg : Str → Option Value} {w : World} {h : Heap} (X : K.In h) (G : h.Ns mainGlobals mg) (c : He.SaysX fa fn [] [] (exJ cs l) w h K) : FxJ l fa fn cs K mg :=
  ⟨Fx.of X G ⟨c.t, (He.ba c.more).1, c.hd, c.out, c.empty⟩, (He.ba c.more).2⟩
end Pv

/-! PyD: x.append(what may raise). -/
namespace Pv
open PySem PySem.Spec PySem.SeqAt L2 PyProof.Rows
def evMutX (f : List D → List D → Option (D × List D)) (i : Nat) (me : EM) : EM := fun ρ => (lstAt ρ i).bind fun _ => (me ρ).bind fun a => if isX a.1 = true then some a else match a.1 with
  | .sv (.val d) => (lstAt a.2 i).bind fun xs => (f xs [d]).bind fun y => some (.sv (.val y.1), a.2.set i (some (.own (.lst y.2))))
  | _ => none
theorem simMutX {k : Kx} {W : WX} {r : V → List V → Hp → VK → Prop} {g : List D → List D → Option (D × List D)} {i : Nat} {te : TE} {me : EM} (hr : MutSim k r g) (he : SimEX k W te me) : SimEX k W (tBM k.K "list" r (tVar i) (tCons te tNil)) (evMutX g i me) := by
  intro F ρ σ H Q f h
  unfold evMutX at h
  have h := wpo_bind.mp h
  cases e0 : lstAt ρ i with
  | none => rw [e0] at h; exact h.elim
  | some xs0 =>
    rw [e0] at h
    obtain ⟨p, vs0, s0, h0, n0, r0⟩ := f.lst e0
    refine ⟨.ref p, s0, .inl ⟨rfl, vs0, .inl (.inl h0)⟩, ?_⟩
    refine he F ρ σ H _ f ((wpo_bind.mp h).mono fun a _ h => ⟨fun v F1 H1 A1 R1 => ?_, fun y fs ex cls d F1 H1 A1 er => ?_⟩)
    · rw [if_neg (by rw [rr_noX R1]; exact Bool.false_ne_true)] at h
      cases hq : a.1 with
      | plc j => rw [hq] at h; exact h.elim
      | sv sv =>
        cases sv with
        | own o => rw [hq] at h; exact h.elim
        | val d =>
          rw [hq] at h R1
          have R1 : Rep k F1 v d := R1
          have h := wpo_bind.mp h
          cases e2 : lstAt a.2 i with
          | none => rw [e2] at h; exact h.elim
          | some xs =>
            rw [e2] at h
            obtain ⟨p', ws, s1, h1, n1, r1⟩ := A1.fr.lst e2
            rw [s0] at s1; cases s1
            refine hr F1 H1 p ws xs [v] [d] Q A1.fr.sub h1 r1 (.cons R1 .nil) ((wpo_bind.mp h).mono fun y _ h => ?_)
            intro v zs rv rz
            exact h.1 v F1 _ (A1.mutate (lstAt_eq e2) s0 ⟨zs, rfl, rz⟩) rv
    · rw [if_pos (by rw [ex]; rfl)] at h
      exact h.2 y fs ex cls d F1 H1 A1 er
section
variable {X : Cx} {CT : CTab} {W : WX} {e : Expr} {me : EM} {pos p : Pos}
theorem nAppendX (i : Nat) {x : Str} {apos : Pos} (ho : PE X (.Name x p) (tVar i)) (ha : NX X CT W e me) (hbase : attributeBase (.Name x p) "append" X.env (eval (.Name x p) X.env) = eval (.Name x p) X.env := by rfl)
    (hfew : ((backTo pos (starEach [e] X.env)).all (fun x => !x.1) && (backToKw pos (keywordEach [] X.env)).all (fun x => x.1.isSome) && decide ([e].length + ([] : List Keyword).length + (if ([] : List Keyword).isEmpty then 0 else 1) < 30)) = true := by rfl)
    (hline : (apos.endLine == pos.line) = true := by rfl) (hs : starEach [e] X.env = (false, eval e X.env) :: starEach [] X.env := by rfl) : NX X CT W (.Call (.Attribute (.Name x p) "append" apos) [e] [] pos) (evMutX fAppend i me) := by
  obtain ⟨_, pa, sa⟩ := ha
  exact ⟨_, pe_bm PySem.F.plainAttrs_list PySem.F.slot_list_append PySem.F.type_list_append mt_append ho (pa_cons pa pa_nil hs) hbase hfew hline hs, simMutX (k := kx X CT) simAppend sa⟩
end
end Pv

/-! TwI: what may raise, the fields told by the run (twi.py printed most of it). -/
namespace Tv
open PySem Pv
section
variable {ω α β γ δ : Type} {me : EM} {R R1 R2 : ω → Rho} {s : α → SV} {s' : γ → SV} {sr : γ → SV} {T : PT (α ⊕ Xp)} {io : Bool} {out : γ → ω → SV} {K : δ → ω → Rho}
theorem fInlJ {m : SM} {T : PT γ} (h : WF false m R sr oN T) : WF false m R (vM sr) oN (fun Q => T fun a => Q (Sum.inl a)) := fun w Q q => by
  obtain ⟨a, w1, r, ρ, q1, e1, ok⟩ := h w _ q
  exact ⟨.inl a, w1, r, ρ, q1, e1, ok⟩
theorem fRaiseP {y f1 f2 : Str} {m1 m2 : EM} {e1 : α → D} {e2 : β → D} {T1 : PT α} {T2 : α → PT β} (h1 : WE m1 R (fun a => .sv (.val (e1 a))) T1 R1) (h2 : ∀ a, WE m2 R1 (fun b => .sv (.val (e2 b))) (T2 a) R2) :
    WF false (exRaiseJ y f1 f2 m1 m2) R (vM sr) oN (fun Q => T1 fun a => T2 a fun b => Q (Sum.inr ((y, [(f2, e2 b), (f1, e1 a)]) : Xp))) := fun w Q q => by
  obtain ⟨a, w1, q1, x1⟩ := h1 w _ q
  obtain ⟨b, w2, q2, x2⟩ := h2 a w1 _ q1
  exact ⟨_, w2, .sv (.val (excD y [(f2, e2 b), (f1, e1 a)])), R2 w2, q2, by simp only [exRaiseJ, x1, x2, Option.bind_some], rfl⟩
def appM {α : Type} (r : α ⊕ Xp) (l : List α) (g : List α → Prop) (k : Xp → Prop) : Prop := match r with
  | .inl a => appW l a g
  | .inr y => k y
theorem lAppJ {σ δ : Type} {e : δ → D} {l : List δ} {i : Nat} {ks : List Nat} {KL : σ → ω → Rho} {T : PT (δ ⊕ Xp)} (f : List δ → σ) (h : WE me R (fun r => .sv (vM (vV e) r)) T R1) (h0 : ∀ w, lstAt (R w) i = some (l.map e) := by intro _; rfl) (h1 : ∀ w, lstAt (R1 w) i = some (l.map e) := by intro _; rfl)
    (hx : ∀ a, isX (.sv (.val (e a))) = false := by intro _; rfl) (hK : ∀ w l', kill ks ((R1 w).set i (some (.own (.lst (l'.map e))))) = KL (f l') w := by intro _ _; rfl) :
    WL false false ks (exExprX (evMutX fAppend i me)) R KL (vM sr) oN (fun Q => T fun r => appM r l (fun l' => Q (.go (f l'))) (fun y => Q (.ret (Sum.inr y)))) := fun w Q q => by
  obtain ⟨r, w1, q1, e1⟩ := h w _ q
  cases r with
  | inl a =>
    have q1 : appW l a (fun l' => Q (.go (f l'))) := q1
    have z : isX (.sv (vM (vV e) (.inl a))) = false := hx a
    have ef : fAppend (l.map e) [e a] = some (.none, (l ++ [a]).map e) := by
      simp only [fAppend, List.length_map, if_pos q1.1, List.map_append, List.map_cons, List.map_nil]
    have z1 : evMutX fAppend i me (R w) = some (.sv (.val .none), (R1 w1).set i (some (.own (.lst ((l ++ [a]).map e))))) := by
      simp only [evMutX, h0, e1, Option.bind_some, z, Bool.false_eq_true, if_false]
      show ((lstAt (R1 w1) i).bind fun xs => (fAppend xs [e a]).bind fun y => some (Rv.sv (.val y.1), (R1 w1).set i (some (.own (.lst y.2))))) = _
      rw [h1, Option.bind_some, ef, Option.bind_some]
    refine ⟨.go (f (l ++ [a])), w1, (.nx, (R1 w1).set i (some (.own (.lst ((l ++ [a]).map e))))), q1.2, ?_, .inr ⟨rfl, rfl⟩, hK w1 _⟩
    simp only [exExprX, z1, Option.bind_some]
    rfl
  | inr y =>
    refine ⟨.ret (.inr y), w1, (.ret (.sv (vM (vV e) (.inr y))), R1 w1), q1, ?_, ⟨_, _, rfl⟩, rfl⟩
    have z1 : evMutX fAppend i me (R w) = some (.sv (vM (vV e) (.inr y)), R1 w1) := by
      simp only [evMutX, h0, e1, Option.bind_some]
      rfl
    simp only [exExprX, z1, Option.bind_some]
    rfl
theorem lPreW {σ γ : Type} {io esc : Bool} {ks : List Nat} {m : SM} {R R1 : ω → Rho} {KL : σ → ω → Rho} {s : γ → SV} {out : γ → ω → SV} {T : PT (Stp σ γ)} {kp : List Nat × List Nat} (h : WL io esc ks m R1 KL s out T) (hK : ∀ w, pre kp (R w) = R1 w := by intro _; rfl) : WL io esc ks (exPre kp m) R KL s out T := fun w Q q => by
  obtain ⟨st, w', x, q1, e1, ok⟩ := h w Q q
  exact ⟨st, w', x, q1, by simp only [exPre, hK]; exact e1, ok⟩
def pairM {α : Type} (r : α ⊕ Xp) (kn L : List Str) (c f1 f2 : Str) (q : Prop) (k : Int → Int → Prop) : Prop := match r with
  | .inl _ => q
  | .inr p => p.1 ∈ kn ∧ p.1 ∈ L ∧ p.1 = c ∧ ∃ a b, p.2 = [(f2, .int b), (f1, .int a)] ∧ k a b
theorem sTryPJ {up : Bool} {kn L : List Str} {P : List Nat} {i j : Nat} {c f1 f2 : Str} {u : δ} {v : Int → Int → δ} (h : WE me R (fun r => .sv (vM s r)) T R1) (hj : j ∉ P := by decide) (hij : i ≠ j := by decide) (hl : ∀ w, i < (R1 w).length := by intro _; exact Nat.lt_of_lt_of_le (Nat.lt_succ_self _) (Nat.le_of_ble_eq_true rfl))
    (hx : ∀ a, isX (.sv (s a)) = false := by intro _; rfl) (hK : ∀ w, R1 w = K u w := by intro _; rfl) (hK2 : ∀ w a b, (kill [i] (R1 w)).set j (some (.val (.tuple [.int a, .int b]))) = K (v a b) w := by intro _ _ _; rfl) :
    WS (exTryF up kn L (exExprX me) (exAsJ P i j c f1 f2)) R K (fun Q => T fun r => pairM r kn L c f1 f2 (Q u) (fun a b => Q (v a b))) := fun w Q q => by
  obtain ⟨r, w1, q1, e1⟩ := h w _ q
  cases r with
  | inl a =>
    refine ⟨u, w1, q1, ?_⟩
    have z : isX (.sv (vM s (.inl a))) = false := hx a
    have z2 : exExprX me (R w) = some (.nx, K u w1) := by
      simp only [exExprX, e1, Option.bind_some, z, Bool.false_eq_true, if_false]
      rw [hK]
    simp only [exTryF, z2, Option.bind_some]
  | inr p =>
    obtain ⟨y, l⟩ := p
    obtain ⟨hy, hL, hc, a, b, hd, q2⟩ := q1
    dsimp only at hd hy hL
    subst hd
    refine ⟨v a b, w1, q2, ?_⟩
    have z2 : exExprX me (R w) = some (.ret (.sv (.val (excD y [(f2, .int b), (f1, .int a)]))), R1 w1) := by
      simp only [exExprX, e1, Option.bind_some]; rfl
    simp only [exTryF, z2, Option.bind_some, if_pos hy, if_pos hL, exAsJ, List.map_cons, List.map_nil]
    rw [if_pos ⟨⟨hc, trivial, trivial⟩, fun z => z.elim hj fun z => z.elim hij fun z => z (hl w1)⟩, ← hK2 w1 a b]
end
end Tv

/-! Mk1: numbers told by words (k83). -/
namespace Ma
open PySem Pv Tv
def txtK (i : Int) : Str := toString i
def numK (w : Str) (lo hi : Int) : Option Int := ((rangeL lo (hi + 1 - lo).toNat).filter fun n => decide (txtK n = w)).head?
theorem mem_rangeK {a n : Int} {k : Nat} : n ∈ rangeL a k ↔ a ≤ n ∧ n < a + k := by
  unfold rangeL
  simp only [List.mem_map, List.mem_range]
  constructor
  · rintro ⟨i, hi, rfl⟩; omega
  · intro h; exact ⟨(n - a).toNat, by omega, by omega⟩
theorem numK_some {w : Str} {lo hi n : Int} (h : numK w lo hi = some n) : lo ≤ n ∧ n ≤ hi ∧ txtK n = w := by
  have hm := List.mem_of_head? h
  rw [List.mem_filter, mem_rangeK] at hm
  obtain ⟨⟨h1, h2⟩, h3⟩ := hm
  exact ⟨h1, by omega, of_decide_eq_true h3⟩
theorem numK_ex {w : Str} {lo hi n : Int} (h1 : lo ≤ n) (h2 : n ≤ hi) (h3 : txtK n = w) : ∃ m, numK w lo hi = some m := by
  cases e : numK w lo hi with
  | some m => exact ⟨m, rfl⟩
  | none =>
    unfold numK at e
    rw [List.head?_eq_none_iff] at e
    have hm : n ∈ (rangeL lo (hi + 1 - lo).toNat).filter fun n => decide (txtK n = w) := by
      rw [List.mem_filter, mem_rangeK]
      exact ⟨⟨h1, by omega⟩, decide_eq_true h3⟩
    rw [e] at hm
    cases hm
theorem txtK_inj : ∀ a ∈ List.range 12, ∀ b ∈ List.range 12, txtK (a : Int) = txtK (b : Int) → a = b := by decide +kernel
theorem txtK_inj' {a b : Int} (h0 : 0 ≤ a) (h1 : a ≤ 10) (h2 : 0 ≤ b) (h3 : b ≤ 10) (e : txtK a = txtK b) : a = b := by
  have := txtK_inj a.toNat (by rw [List.mem_range]; omega) b.toNat (by rw [List.mem_range]; omega) (by rw [Int.toNat_of_nonneg h0, Int.toNat_of_nonneg h2]; exact e)
  omega
theorem numK_same {w : Str} {lo hi lo' hi' n m : Int} (h : numK w lo hi = some n) (h' : numK w lo' hi' = some m) (a : 0 ≤ lo) (b : hi ≤ 10) (a' : 0 ≤ lo') (b' : hi' ≤ 10) : n = m := by
  obtain ⟨h1, h2, h3⟩ := numK_some h
  obtain ⟨g1, g2, g3⟩ := numK_some h'
  exact txtK_inj' (by omega) (by omega) (by omega) (by omega) (h3.trans g3.symm)
theorem numK_wide {w : Str} {lo hi lo' hi' n : Int} (h : numK w lo hi = some n) (a : 0 ≤ lo) (b : hi ≤ 10) (a' : 0 ≤ lo') (b' : hi' ≤ 10) (l : lo' ≤ lo) (r : hi ≤ hi') : numK w lo' hi' = some n := by
  obtain ⟨h1, h2, h3⟩ := numK_some h
  obtain ⟨m, e⟩ := numK_ex (lo := lo') (hi := hi') (n := n) (by omega) (by omega) h3
  rw [e, numK_same h e a b a' b']
end Ma

/-! Mk2: loops that are left with an answer; which word of a line cannot stand (k83). -/
namespace Ma
open PySem Pv Tv
def runG {δ σ β : Type} (g : δ → σ → Sum σ β) : List δ → σ → Sum σ β
  | [], s => .inl s
  | x :: l, s => match g x s with
    | .inl s' => runG g l s'
    | .inr b => .inr b
def stpK {σ β : Type} : Sum σ β → Stp σ β
  | .inl s => .go s
  | .inr b => .ret b
theorem forR_run {δ σ β : Type} {f : δ → σ → PT (Stp σ β)} (g : δ → σ → Sum σ β) (I : Nat → σ → Prop) : ∀ {l : List δ} {s : σ} {Q : Sum σ β → Prop} (k : Nat), I k s →
    (∀ i x s, l[i]? = some x → I (k + i) s → (∀ Q : Stp σ β → Prop, Q (stpK (g x s)) → f x s Q) ∧ ∀ s', g x s = .inl s' → I (k + i + 1) s') → Q (runG g l s) → forR f l s Q
  | [], s, Q, k, h0, _, q => q
  | x :: xs, s, Q, k, h0, st, q => by
    obtain ⟨h1, h2⟩ := st 0 x s rfl h0
    refine h1 _ ?_
    unfold runG at q
    cases e : g x s with
    | inl s' =>
      rw [e] at q
      exact forR_run g I (k + 1) (h2 s' e) (fun i y t ey hi => by
        have := st (i + 1) y t (by simpa using ey) (by rw [show k + (i + 1) = k + 1 + i by omega]; exact hi)
        rw [show k + (i + 1) + 1 = k + 1 + i + 1 by omega] at this
        exact this) q
    | inr b => rw [e] at q; exact q
def goodK (b : Int) (i : Nat) (least : Int) (w : Str) : Bool :=
  if i = 0 then decide (w = "block") else if i = 1 then decide (w = txtK b) else if i = 2 then decide (w = "worth") else if i = 3 then (numK w (-50) 50).isSome else if i = 4 then decide (w = "needs") && decide (0 < b) else (numK w least (b - 1)).isSome
def nextK (b : Int) (i : Nat) (least : Int) (w : Str) : Int := if 5 ≤ i then (match numK w least (b - 1) with
  | some n => n + 1
  | none => least) else least
def runK (b : Int) : Nat → Int → List Str → Option Nat
  | _, _, [] => none
  | i, least, w :: r => if goodK b i least w = true then runK b (i + 1) (nextK b i least w) r else some i
def lineK (b : Int) (ws : List Str) : Option Nat :=
  if 10 ≤ b then some 1 else match runK b 0 0 ws with
    | some i => some (i + 1)
    | none => if ws.length < 4 ∨ ws.length = 5 then some (ws.length + 1) else none
def badK : Int → List (List Str) → Option (Int × Int)
  | _, [] => none
  | b, ws :: r => match lineK b ws with
    | some j => some (b + 1, (j : Int))
    | none => badK (b + 1) r
def numsK (b : Int) : Nat → Int → List Str → List Int
  | _, _, [] => []
  | i, least, w :: r => if 5 ≤ i then (match numK w least (b - 1) with
    | some n => n :: numsK b (i + 1) (n + 1) r
    | none => []) else numsK b (i + 1) least r
theorem numsK_asc {b : Int} : ∀ {ws : List Str} {i : Nat} {least : Int}, runK b i least ws = none → (∀ x ∈ numsK b i least ws, least ≤ x ∧ x < b) ∧ (numsK b i least ws).Pairwise (· < ·)
  | [], _, _, _ => ⟨fun _ h => (by cases h), List.Pairwise.nil⟩
  | w :: r, i, least, h => by
    unfold runK at h
    split at h
    · rename_i hg
      unfold numsK
      by_cases h5 : 5 ≤ i
      · rw [if_pos h5]
        unfold nextK at h
        rw [if_pos h5] at h
        cases e : numK w least (b - 1) with
        | none => exact ⟨fun _ h => (by cases h), List.Pairwise.nil⟩
        | some n =>
          rw [e] at h
          dsimp only at h
          obtain ⟨h1, h2⟩ := numsK_asc h
          obtain ⟨g1, g2, g3⟩ := numK_some e
          dsimp only
          refine ⟨fun x hx => ?_, List.pairwise_cons.mpr ⟨fun x hx => ?_, h2⟩⟩
          · rcases List.mem_cons.mp hx with rfl | hx
            · exact ⟨g1, by omega⟩
            · have := h1 x hx; omega
          · have := h1 x hx; omega
      · rw [if_neg h5]
        unfold nextK at h
        rw [if_neg h5] at h
        exact numsK_asc h
    · cases h
end Ma

/-! Mk3: how great the parts of a text are (k83). -/
namespace Ma
open PySem Pv Tv
theorem spl_lenK (S : List Nat) : ∀ (l : List Nat) (k : Nat) (acc : List Nat), (TL.spl S k acc l).length ≤ l.length + 1 ∧ ∀ p ∈ TL.spl S k acc l, p.length ≤ acc.length + l.length
  | [], k, acc => by
    rw [TL.spl_nil]
    exact ⟨by simp, fun p hp => by rw [List.mem_singleton] at hp; subst hp; simp⟩
  | c :: r, 0, acc => by
    cases e : TL.pre S (c :: r) with
    | true =>
      rw [TL.spl_hit e]
      obtain ⟨h1, h2⟩ := spl_lenK S r (S.length - 1) []
      refine ⟨by simp only [List.length_cons]; omega, fun p hp => ?_⟩
      rcases List.mem_cons.mp hp with rfl | hp
      · omega
      · have := h2 p hp
        simp only [List.length_nil, List.length_cons] at this ⊢
        omega
    | false =>
      rw [TL.spl_miss e]
      obtain ⟨h1, h2⟩ := spl_lenK S r 0 (acc ++ [c])
      refine ⟨by simp only [List.length_cons]; omega, fun p hp => ?_⟩
      have := h2 p hp
      simp only [List.length_append, List.length_cons, List.length_nil] at this ⊢
      omega
  | c :: r, k + 1, acc => by
    obtain ⟨h1, h2⟩ := spl_lenK S r k acc
    refine ⟨?_, fun p hp => ?_⟩
    · show (TL.spl S k acc r).length ≤ _
      simp only [List.length_cons]; omega
    · have := h2 p hp
      simp only [List.length_cons]; omega
theorem split_lenK {x y : Str} (hy : TL.tl y ≠ []) (hk : y.cps.all (· < 256) = true) : (Txt.split x y).length ≤ x.length + 1 ∧ ∀ p ∈ Txt.split x y, p.length ≤ x.length := by
  have e := TL.split_spl x y hy (TL.kind_ok hk)
  obtain ⟨h1, h2⟩ := spl_lenK (TL.tl y) (TL.tl x) 0 []
  rw [← e] at h1 h2
  rw [TL.len_tl x]
  refine ⟨by rw [List.length_map] at h1; exact h1, fun p hp => ?_⟩
  have := h2 (TL.tl p) (List.mem_map.mpr ⟨p, hp, rfl⟩)
  rw [TL.len_tl p]
  simpa using this
theorem nl_splitK (x : Str) : (Txt.split x "\n").length ≤ x.length + 1 ∧ ∀ p ∈ Txt.split x "\n", p.length ≤ x.length := split_lenK (by rw [TL.tl_ofString]; decide) (by decide +kernel)
theorem sp_splitK (x : Str) : (Txt.split x " ").length ≤ x.length + 1 ∧ ∀ p ∈ Txt.split x " ", p.length ≤ x.length := split_lenK (by rw [TL.tl_ofString]; decide) (by decide +kernel)
def wordsK (x : Str) : List Str := (Txt.split x " ").filter fun w => !decide (w = "")
theorem wordsK_len (x : Str) : (wordsK x).length ≤ x.length + 1 := Nat.le_trans (List.length_filter_le _ _) (sp_splitK x).1
end Ma

/-! Mk4: the loops of _law_due (k83). -/
namespace Ma
open PySem Pv Tv
theorem rangeL_consK (a : Int) (n : Nat) : rangeL a (n + 1) = a :: rangeL (a + 1) n := by
  unfold rangeL
  rw [List.range_succ_eq_map, List.map_cons, List.map_map]
  congr 1
  · simp
  · apply List.map_congr_left
    intro i _
    simp only [Function.comp]
    omega
def dueG (b : Int) (ws : List Str) (place least : Int) : Sum Int (Option (Int × Int)) :=
  if (if place < 3 then goodK b place.toNat least (ws.getD place.toNat "") && decide (b < 10) else goodK b place.toNat least (ws.getD place.toNat "")) = true then .inl (nextK b place.toNat least (ws.getD place.toNat "")) else .inr (some (b + 1, place + 1))
theorem dueG_run {b : Int} (hb : b < 10) {ws : List Str} : ∀ (rest : List Str) (k : Nat) (least : Int), ws.drop k = rest → match runK b k least rest with
    | some i => runG (dueG b ws) (rangeL k rest.length) least = .inr (some (b + 1, (i : Int) + 1))
    | none => ∃ l, runG (dueG b ws) (rangeL k rest.length) least = .inl l
  | [], k, least, _ => ⟨least, rfl⟩
  | w :: r, k, least, h => by
    have hw : ws.getD k "" = w := by
      have : (ws.drop k)[0]? = some w := by rw [h]; rfl
      rw [List.getElem?_drop, Nat.add_zero] at this
      rw [List.getD_eq_getElem?_getD, this]; rfl
    have h' : ws.drop (k + 1) = r := by rw [← List.tail_drop, h]; rfl
    have ih := dueG_run hb r (k + 1) (nextK b k least w) h'
    have e1 : (if (k : Int) < 3 then goodK b k least w && decide (b < 10) else goodK b k least w) = goodK b k least w := by
      split
      · rw [decide_eq_true hb, Bool.and_true]
      · rfl
    have eg : dueG b ws (k : Int) least = if goodK b k least w = true then .inl (nextK b k least w) else .inr (some (b + 1, (k : Int) + 1)) := by
      unfold dueG
      rw [Int.toNat_natCast, hw, e1]
    unfold runK
    rw [List.length_cons, rangeL_consK]
    by_cases hg : goodK b k least w = true
    · rw [if_pos hg]
      have er : ∀ l, runG (dueG b ws) ((k : Int) :: l) least = runG (dueG b ws) l (nextK b k least w) := fun l => by
        rw [runG, eg, if_pos hg]
      rw [er, show ((k : Int) + 1) = ((k + 1 : Nat) : Int) by omega]
      exact ih
    · rw [if_neg hg]
      show runG (dueG b ws) ((k : Int) :: rangeL ((k : Int) + 1) r.length) least = _
      rw [runG, eg, if_neg hg]
theorem dueG_late {b : Int} (hb : 10 ≤ b) {ws : List Str} (hw : ws ≠ []) : runG (dueG b ws) (rangeL 0 ws.length) 0 = .inr (some (b + 1, 1)) := by
  cases ws with
  | nil => exact absurd rfl hw
  | cons w r =>
    rw [List.length_cons, rangeL_consK, runG]
    have : dueG b (w :: r) 0 0 = .inr (some (b + 1, 0 + 1)) := by
      unfold dueG
      rw [if_neg]
      intro z
      rw [if_pos (by decide), decide_eq_false (show ¬ b < 10 by omega), Bool.and_false] at z
      cases z
    rw [this]
    rfl
def lineG (ls : List (List Str)) (at_ : Int) (_ : Unit) : Sum Unit (Option (Int × Int)) := match lineK at_ (ls.getD at_.toNat []) with
  | some j => .inr (some (at_ + 1, (j : Int)))
  | none => .inl ()
theorem lineG_run {ls : List (List Str)} : ∀ (rest : List (List Str)) (k : Nat), ls.drop k = rest → runG (lineG ls) (rangeL k rest.length) () = match badK k rest with
    | some x => .inr (some x)
    | none => .inl ()
  | [], k, _ => rfl
  | w :: r, k, h => by
    have hw : ls.getD k [] = w := by
      have : (ls.drop k)[0]? = some w := by rw [h]; rfl
      rw [List.getElem?_drop, Nat.add_zero] at this
      rw [List.getD_eq_getElem?_getD, this]; rfl
    have h' : ls.drop (k + 1) = r := by rw [← List.tail_drop, h]; rfl
    have ih := lineG_run r (k + 1) h'
    rw [List.length_cons, rangeL_consK, runG]
    unfold badK
    have eg : lineG ls (k : Int) () = match lineK k w with
      | some j => .inr (some ((k : Int) + 1, (j : Int)))
      | none => .inl () := by
      unfold lineG
      rw [Int.toNat_natCast, hw]
    rw [eg]
    cases e : lineK k w with
    | some j => rfl
    | none =>
      rw [show ((k : Int) + 1) = ((k + 1 : Nat) : Int) by omega]
      exact ih
end Ma

/-! Mk5: what checked answers for a line (k83). -/
namespace Ma
open PySem Pv Tv
theorem numsK_map {b : Int} (hb : b ≤ 10) : ∀ {ws : List Str} {i : Nat} {least : Int}, 5 ≤ i → 0 ≤ least → runK b i least ws = none →
    (∀ w ∈ ws, ∃ m, numK w 0 10 = some m) ∧ ws.map (fun w => (numK w 0 10).getD 0) = numsK b i least ws
  | [], _, _, _, _, _ => ⟨fun _ h => (by cases h), rfl⟩
  | w :: r, i, least, h5, h0, h => by
    unfold runK at h
    by_cases hg : goodK b i least w = true
    · rw [if_pos hg] at h
      have g5 : goodK b i least w = (numK w least (b - 1)).isSome := by
        unfold goodK
        rw [if_neg (by omega), if_neg (by omega), if_neg (by omega), if_neg (by omega), if_neg (by omega)]
      rw [g5] at hg
      unfold nextK at h
      rw [if_pos h5] at h
      unfold numsK
      rw [if_pos h5]
      cases e : numK w least (b - 1) with
      | none => rw [e] at hg; cases hg
      | some n =>
        rw [e] at h
        obtain ⟨g1, g2, _⟩ := numK_some e
        have ew : numK w 0 10 = some n := numK_wide e h0 (by omega) (by decide) (by decide) h0 (by omega)
        obtain ⟨k1, k2⟩ := numsK_map hb (i := i + 1) (least := n + 1) (by omega) (by omega) h
        refine ⟨fun x hx => ?_, ?_⟩
        · rcases List.mem_cons.mp hx with rfl | hx
          · exact ⟨n, ew⟩
          · exact k1 x hx
        · rw [List.map_cons, k2, ew]
          rfl
    · rw [if_neg hg] at h; cases h
def leastK (b : Int) (ws : List Str) : Nat → Int
  | 0 => 0
  | i + 1 => nextK b i (leastK b ws i) (ws.getD i "")
theorem leastK_five (b : Int) (ws : List Str) : ∀ i, i ≤ 5 → leastK b ws i = 0
  | 0, _ => rfl
  | i + 1, h => by
    show nextK b i (leastK b ws i) (ws.getD i "") = 0
    unfold nextK
    rw [if_neg (by omega)]
    exact leastK_five b ws i (by omega)
def chkG (b : Int) (ws : List Str) (place : Int) (_ : Unit) : Sum Unit Int :=
  if b = 10 then .inr (place + 1) else if goodK b place.toNat (leastK b ws place.toNat) (ws.getD place.toNat "") = true then .inl () else .inr (place + 1)
theorem chkG_run {b : Int} (hb : b < 10) {ws : List Str} : ∀ (rest : List Str) (k : Nat), ws.drop k = rest → match runK b k (leastK b ws k) rest with
    | some i => runG (chkG b ws) (rangeL k rest.length) () = .inr ((i : Int) + 1)
    | none => runG (chkG b ws) (rangeL k rest.length) () = .inl ()
  | [], k, _ => rfl
  | w :: r, k, h => by
    have hw : ws.getD k "" = w := by
      have : (ws.drop k)[0]? = some w := by rw [h]; rfl
      rw [List.getElem?_drop, Nat.add_zero] at this
      rw [List.getD_eq_getElem?_getD, this]; rfl
    have h' : ws.drop (k + 1) = r := by rw [← List.tail_drop, h]; rfl
    have ih := chkG_run hb r (k + 1) h'
    have el : leastK b ws (k + 1) = nextK b k (leastK b ws k) w := by
      show nextK b k (leastK b ws k) (ws.getD k "") = _
      rw [hw]
    rw [el] at ih
    have eg : chkG b ws (k : Int) () = if goodK b k (leastK b ws k) w = true then .inl () else .inr ((k : Int) + 1) := by
      unfold chkG
      rw [if_neg (by omega), Int.toNat_natCast, hw]
    unfold runK
    rw [List.length_cons, rangeL_consK]
    by_cases hg : goodK b k (leastK b ws k) w = true
    · rw [if_pos hg]
      have er : ∀ l, runG (chkG b ws) ((k : Int) :: l) () = runG (chkG b ws) l () := fun l => by
        rw [runG, eg, if_pos hg]
      rw [er, show ((k : Int) + 1) = ((k + 1 : Nat) : Int) by omega]
      exact ih
    · rw [if_neg hg]
      show runG (chkG b ws) ((k : Int) :: rangeL ((k : Int) + 1) r.length) () = _
      rw [runG, eg, if_neg hg]
end Ma

/-! Mk6: texts of good lines; how long joined words are (k83). -/
namespace Ma
open PySem Pv Tv
theorem spl_oneK (S : List Nat) : ∀ (l : List Nat) (k : Nat) (acc : List Nat), 1 ≤ (TL.spl S k acc l).length
  | [], k, acc => by rw [TL.spl_nil]; simp
  | c :: r, 0, acc => by
    cases e : TL.pre S (c :: r) with
    | true => rw [TL.spl_hit e]; simp
    | false => rw [TL.spl_miss e]; exact spl_oneK S r 0 _
  | c :: r, k + 1, acc => spl_oneK S r k acc
theorem split_oneK {x y : Str} (hy : TL.tl y ≠ []) (hk : y.cps.all (· < 256) = true) : 1 ≤ (Txt.split x y).length := by
  have e := TL.split_spl x y hy (TL.kind_ok hk)
  have h := spl_oneK (TL.tl y) (TL.tl x) 0 []
  rw [← e, List.length_map] at h
  exact h
theorem nl_oneK (x : Str) : 1 ≤ (Txt.split x "\n").length := split_oneK (by rw [TL.tl_ofString]; decide) (by decide +kernel)
theorem badK_none : ∀ {ls : List (List Str)} {b : Int}, badK b ls = none → ∀ (k : Nat) (ws : List Str), ls[k]? = some ws → lineK (b + k) ws = none
  | [], _, _, k, ws, h => by simp at h
  | x :: r, b, hb, k, ws, h => by
    unfold badK at hb
    cases e : lineK b x with
    | some j => rw [e] at hb; cases hb
    | none =>
      rw [e] at hb
      cases k with
      | zero =>
        have : x = ws := by simpa using h
        subst this
        rw [show b + ((0 : Nat) : Int) = b by omega]; exact e
      | succ k =>
        have := badK_none hb k ws (by simpa using h)
        rw [show b + 1 + (k : Int) = b + ((k + 1 : Nat) : Int) by omega] at this
        exact this
theorem lineK_none {b : Int} {ws : List Str} (h : lineK b ws = none) : b < 10 ∧ runK b 0 0 ws = none ∧ ¬ (ws.length < 4 ∨ ws.length = 5) := by
  unfold lineK at h
  split at h
  · cases h
  · rename_i hb
    cases e : runK b 0 0 ws with
    | some i => rw [e] at h; cases h
    | none =>
      rw [e] at h
      dsimp only at h
      split at h
      · cases h
      · rename_i h4
        exact ⟨by omega, rfl, h4⟩
theorem sum_leK {α : Type} (f : α → Nat) (b : Nat) : ∀ {l : List α}, (∀ w ∈ l, f w ≤ b) → (l.map f).sum ≤ b * l.length
  | [], _ => by simp
  | x :: r, h => by
    have h1 := h x (List.mem_cons_self ..)
    have h2 := sum_leK f b fun w hw => h w (List.mem_cons_of_mem _ hw)
    rw [List.map_cons, List.sum_cons, List.length_cons, Nat.mul_add, Nat.mul_one]
    omega
theorem join_lenK (y : Str) (ls : List Str) : (Txt.join y ls).length ≤ (ls.map (·.length)).sum + ls.length * y.length := by
  rw [TL.join_eq]
  exact StrLaws.join_length_le y ls
theorem txtK_len {i : Int} (h0 : -60 ≤ i) (h1 : i < 60) : (txtK i).length ≤ 8 := (by decide +kernel : ∀ i ∈ rangeL (-60) 120, (txtK i).length ≤ 8) i (mem_rangeK.mpr ⟨h0, by omega⟩)
def LnK (m : Nat) (l : List Str) : Prop := l.length ≤ m ∧ ∀ w ∈ l, w.length ≤ 8
def TxK (m k : Nat) (ls : List (List Str)) : Prop := 1 ≤ ls.length ∧ ls.length ≤ k ∧ ∀ l ∈ ls, LnK m l
theorem LnK.app {m n : Nat} {l l' : List Str} (h : LnK m l) (h' : LnK n l') : LnK (m + n) (l ++ l') := ⟨by rw [List.length_append]; have := h.1; have := h'.1; omega, fun w hw => (List.mem_append.mp hw).elim (h.2 w) (h'.2 w)⟩
theorem LnK.cut {m : Nat} {l : List Str} (h : LnK m l) (lo hi : Option Int) : LnK m (cutL l lo hi) := ⟨by
  unfold cutL
  rw [List.length_take, List.length_drop]
  have := h.1; omega, fun w hw => h.2 w (List.mem_of_mem_drop (List.mem_of_mem_take hw))⟩
theorem LnK.mono {m n : Nat} {l : List Str} (h : LnK m l) (hm : m ≤ n) : LnK n l := ⟨Nat.le_trans h.1 hm, h.2⟩
theorem TxK.set {m n k : Nat} {ls : List (List Str)} (h : TxK m k ls) (i : Nat) {l : List Str} (hl : LnK n l) (hm : m ≤ n) : TxK n (k + 1) (ls.set i l) := ⟨by rw [List.length_set]; exact h.1, by rw [List.length_set]; have := h.2.1; omega, fun x hx => (List.mem_or_eq_of_mem_set hx).elim (fun z => (h.2.2 x z).mono hm) fun z => by subst z; exact hl⟩
theorem TxK.ins {m n k : Nat} {ls : List (List Str)} (h : TxK m k ls) (i : Nat) {l : List Str} (hl : LnK n l) (hm : m ≤ n) : TxK n (k + 1) (ls.take i ++ l :: ls.drop i) := ⟨by rw [List.length_append, List.length_cons]; omega, by
    rw [List.length_append, List.length_cons, List.length_take, List.length_drop]
    have := h.2.1; omega, fun x hx => by
  rcases List.mem_append.mp hx with z | z
  · exact (h.2.2 x (List.mem_of_mem_take z)).mono hm
  · rcases List.mem_cons.mp z with z | z
    · subst z; exact hl
    · exact (h.2.2 x (List.mem_of_mem_drop z)).mono hm⟩
theorem TxK.app {m n k : Nat} {ls : List (List Str)} (h : TxK m k ls) {l : List Str} (hl : LnK n l) (hm : m ≤ n) : TxK n (k + 1) (ls ++ [l]) := ⟨by simp, by have := h.2.1; simp; omega, fun x hx => by
  rcases List.mem_append.mp hx with z | z
  · exact (h.2.2 x z).mono hm
  · rw [List.mem_singleton.mp z]; exact hl⟩
theorem LnK.joins {m : Nat} {l : List Str} (h : LnK m l) : (l.map (·.length)).sum + l.length * (" " : Str).length ≤ 9 * m ∧ (Txt.join " " l).length ≤ 9 * m := by
  have h1 := sum_leK (fun w : Str => w.length) 8 h.2
  have h2 := join_lenK " " l
  have e : (" " : Str).length = 1 := by decide +kernel
  rw [e] at h2 ⊢
  have := h.1
  omega
theorem TxK.joins {m k : Nat} {ls : List (List Str)} (h : TxK m k ls) (hm : m ≤ 200) (hk : k ≤ 20) : (((ls.map (Txt.join " ")).map (·.length)).sum + (ls.map (Txt.join " ")).length * ("\n" : Str).length ≤ 16777216) ∧ (Txt.join "\n" (ls.map (Txt.join " "))).length ≤ 1000000 := by
  have h1 := sum_leK (fun w : Str => w.length) 1800 (l := ls.map (Txt.join " ")) (fun w hw => by
    obtain ⟨l, hl, rfl⟩ := List.mem_map.mp hw
    have := (h.2.2 l hl).joins.2
    omega)
  have h2 := join_lenK "\n" (ls.map (Txt.join " "))
  have e : ("\n" : Str).length = 1 := by decide +kernel
  rw [e] at h2 ⊢
  have := h.2.1
  rw [List.length_map] at h1 h2 ⊢
  omega
end Ma

namespace Lw
open PySem PySem.Spec PySem.SeqAt L2 Pv
def top (i : Nat) : Stmt := PySem.Challenge.pw_pitlots_k83_whole_texts_refused.main.body.getD i (.Pass ⟨0, 0, 0, 0⟩)
def clsBd : Stmt → List Stmt
  | .ClassDef (body := b) .. => b
  | _ => []
def mth (i j : Nat) : Stmt := (clsBd (top i)).getD j (.Pass ⟨0, 0, 0, 0⟩)
def mkD (n : Str) (st : Stmt) : He.DefD := ⟨(n, none), n, n, defArgs st, defBody st, defScope st, [], []⟩
def mkM (c n q : Str) (st : Stmt) : He.DefD := ⟨(c, some n), n, q, defArgs st, defBody st, defScope st, [], []⟩
def fn : List He.DefD := [mkD "_law_taken" (top 17), mkD "_law_pick" (top 18), mkD "_law_covers" (top 19), mkD "_law_worths" (top 20), mkD "rises" (top 7), mkD "is_from" (top 6), mkD "is_cover" (top 8), mkM "Ground" "__init__" "Ground.__init__" (mth 9 0), mkD "number_of" (top 12), mkD "can_be" (top 13), mkD "checked" (top 14), mkD "read" (top 15), mkD "_law_told" (top 23), mkD "_law_number" (top 21), mkD "_law_due" (top 22), mkD "law" (top 24)]
def fa : List He.Fa := [.free "int", .free "len", .glo "_law_taken", .free "range", .free "list", .free "tuple", .free "all", .free "isinstance", .free "bool", .glo "is_from", .glo "rises", .int "MOST_BLOCKS" 10, .free "enumerate", .glo "is_cover", .free "str", .int "MOST_WORTH" 50, .glo "number_of", .glo "can_be", .glo "PitError", .glo "InvalidText", .glo "checked", .mkr "Ground", .glo "Ground", .glo "read", .exm "InvalidText" "PitError" true, .glo "_law_number", .glo "_law_covers", .glo "_law_worths", .glo "_law_pick", .glo "_law_told", .glo "_law_due", .glo "law"]
def cs : ClsT := [⟨"Ground", ["table"], [("covers", "table")], [], [("InvalidText", "InvalidText")], []⟩]
def spJ : List (PySem.Str × PySem.Str × PySem.Str) := [("InvalidText", "line", "word")]
/-! _law_taken -/
abbrev N__law_taken : List Str := ["_law_row", "_law_many", "_law_found", "_law_cell"]
def m__law_taken : SM := (exSeq (exIf (tvB (evBin gGtD (evBin gIx (evVar 0) (evC (.int 3))) (evC (.int 0)))) (exSeq (exAsg [0] 2 (evBin gMod (evCall gInt (evCons (evBin gIx (evVar 0) (evC (.int 3))) evNil)) (evVar 1)))
  (exSeq (exSto 0 (evC (.int 3)) (evBin gFdiv (evBin gIx (evVar 0) (evC (.int 3))) (evVar 1)))
  (exRet (evVar 2)))) exPass)
  (exSeq (exSto 0 (evC (.int 1)) (evBin gAdd (evBin gIx (evVar 0) (evC (.int 1))) (evC (.int 1))))
  (exSeq (exIf (tvB (evBin gGtD (evBin gIx (evVar 0) (evC (.int 1))) (evCall gLen (evCons (evBin gIx (evVar 0) (evC (.int 0))) evNil)))) (exSeq (exSto 0 (evC (.int 2)) (evBin gMod (evCall gInt (evCons (evBin gAdd (evBin gMulA (evBin gIx (evVar 0) (evC (.int 2))) (evC (.int 48271))) (evC (.int 11))) evNil)) (evC (.int 2147483647))))
  (exRet (evBin gMod (evCall gInt (evCons (evBin gFdiv (evBin gIx (evVar 0) (evC (.int 2))) (evC (.int 7))) evNil)) (evVar 1)))) exPass)
  (exSeq (exAsg [0] 3 (evBin gIx (evBin gIx (evVar 0) (evC (.int 0))) (evBin Pv.gSub (evBin gIx (evVar 0) (evC (.int 1))) (evC (.int 1)))))
  (exSeq (exSto 0 (evC (.int 2)) (evBin gMod (evCall gInt (evCons (evBin gAdd (evBin gAdd (evBin gMulA (evBin gIx (evVar 0) (evC (.int 2))) (evC (.int 48271))) (evVar 3)) (evC (.int 11))) evNil)) (evC (.int 2147483647))))
  (exSeq (exIf (tvB (evBin gGeD (evVar 3) (evBin gPow (evC (.int 10)) (evC (.int 18))))) (exSto 0 (evC (.int 3)) (evBin gFdiv (evVar 3) (evVar 1))) exPass)
  (exRet (evBin gMod (evCall gInt (evCons (evVar 3) evNil)) (evVar 1)))))))))
def c__law_taken : CM := runB true 4 m__law_taken
/-! _law_pick -/
abbrev N__law_pick : List Str := ["_law_row", "_law_things"]
def m__law_pick : SM := (exRet (evBin gIx (evVar 1) (evCallI 2 c__law_taken (evCons (evVar 0) (evCons (evCall gLen (evCons (evVar 1) evNil)) evNil)))))
def c__law_pick : CM := runB true 2 m__law_pick
/-! _law_covers -/
abbrev N__law_covers : List Str := ["_law_row", "_law_most", "_law_found", "_law_way", "_law_many", "_law_block", "_law_some", "_law_one"]
def m__law_covers : SM := (exSeq (exPar [0] [2, 3, 4] (evCons (evLst evNil) (evCons (evCallI 2 c__law_taken (evCons (evVar 0) (evCons (evC (.int 7)) evNil))) (evCons (evBin gAdd (evC (.int 1)) (evCallI 2 c__law_taken (evCons (evVar 0) (evCons (evVar 1) evNil)))) evNil))))
  (exSeq (exPre ([5, 6], []) (exFor (ivArgs rng1 (evCons (evVar 4) evNil)) (tgName [0] 5) (exKill [5, 6] (exSeq (exAsg [0] 6 (evComp (ivArgs rng1 (evCons (evVar 5) evNil)) (tgName [] 7) (tvB (evBin gEqD (evCallI 2 c__law_taken (evCons (evVar 0) (evCons (evC (.int 3)) evNil))) (evC (.int 0)))) (evVar 7) [7]))
  (exSeq (exIf (tvB (evBin gEqD (evVar 3) (evC (.int 0)))) (exAsg [0] 6 (evLst evNil)) exPass)
  (exSeq (exIf (tvB (evBin gEqD (evVar 3) (evC (.int 1)))) (exAsg [0] 6 (evSl (evUn gLRg1 (evVar 5)) (opSome (evUn gNeg (evC (.int 1)))) opNone)) exPass)
  (exSeq (exIf (tvB (evBin gEqD (evVar 3) (evC (.int 2)))) (exAsg [0] 6 (evComp (ivArgs rng1 (evCons (evVar 5) evNil)) (tgName [] 7) (tvB (evChain gLtD gLeD (evBin gMulA (evC (.int 2)) (evVar 7)) (evVar 4) (evBin gMulA (evC (.int 2)) (evVar 5)))) (evVar 7) [7])) exPass)
  (exSeq (exIf (tvB (evBin gEqD (evVar 3) (evC (.int 3)))) (exAsg [0] 6 (evComp (ivSeq (evVar 6)) (tgName [] 7) (tvB (evBin gLtD (evBin Pv.gSub (evVar 5) (evVar 7)) (evC (.int 3)))) (evVar 7) [7])) exPass)
  (exExpr (evMut fAppend 2 (evCons (evCall gTuple (evCons (evVar 6) evNil)) evNil)))))))))))
  (exRet (evCall gTuple (evCons (evVar 2) evNil)))))
def c__law_covers : CM := runB true 8 m__law_covers
/-! _law_worths -/
abbrev N__law_worths : List Str := ["_law_row", "_law_many", "_law_found", "_law_style", "_law_block", "_law_less", "_law_more"]
def m__law_worths : SM := (exSeq (exPar [0] [2, 3] (evCons (evLst evNil) (evCons (evCallI 2 c__law_taken (evCons (evVar 0) (evCons (evC (.int 6)) evNil))) evNil)))
  (exSeq (exPre ([4, 5, 6], []) (exFor (ivArgs rng1 (evCons (evVar 1) evNil)) (tgName [0] 4) (exKill [4, 5, 6] (exSeq (exPar [0] [5, 6] (evCons (evCallI 2 c__law_taken (evCons (evVar 0) (evCons (evBin gIx (evLst (evCons (evC (.int 3)) (evCons (evC (.int 5)) (evCons (evC (.int 9)) (evCons (evC (.int 51)) (evCons (evC (.int 51)) (evCons (evC (.int 2)) evNil))))))) (evVar 3)) evNil))) (evCons (evCallI 2 c__law_taken (evCons (evVar 0) (evCons (evBin gIx (evLst (evCons (evC (.int 3)) (evCons (evC (.int 5)) (evCons (evC (.int 9)) (evCons (evC (.int 51)) (evCons (evC (.int 4)) (evCons (evC (.int 2)) evNil))))))) (evVar 3)) evNil))) evNil)))
  (exExpr (evMut fAppend 2 (evCons (evBin Pv.gSub (evVar 6) (evVar 5)) evNil)))))))
  (exRet (evCall gTuple (evCons (evVar 2) evNil)))))
def c__law_worths : CM := runB true 7 m__law_worths
/-! rises -/
abbrev N_rises : List Str := ["value", "at"]
def m_rises : SM := (exRet (evCall gAll (evCons (evComp (ivArgs rng2 (evCons (evC (.int 1)) (evCons (evCall gLen (evCons (evVar 0) evNil)) evNil))) (tgName [] 1) tvYes (evBin gLtD (evBin gIx (evVar 0) (evBin Pv.gSub (evVar 1) (evC (.int 1)))) (evBin gIx (evVar 0) (evVar 1))) [1]) evNil)))
def c_rises : CM := runB false 2 m_rises
/-! is_from -/
abbrev N_is_from : List Str := ["value", "low", "high"]
def m_is_from : SM := (exRet (evAnd (evIsi [.ty "int"] (evVar 0)) (evAnd (evNot (evIsi [.ty "bool"] (evVar 0))) (evChain gLeD gLeD (evVar 1) (evVar 0) (evVar 2)))))
def c_is_from : CM := runB false 3 m_is_from
/-! is_cover -/
abbrev N_is_cover : List Str := ["value", "block", "one"]
def m_is_cover : SM := (exRet (evAnd (evIsi [.ty "tuple"] (evVar 0)) (evAnd (evCall gAll (evCons (evComp (ivSeq (evVar 0)) (tgName [] 2) tvYes (evCallL 3 c_is_from (evCons (evVar 2) (evCons (evC (.int 0)) (evCons (evBin Pv.gSub (evVar 1) (evC (.int 1))) evNil)))) [2]) evNil)) (evCallL 1 c_rises (evCons (evVar 0) evNil)))))
def c_is_cover : CM := runB false 3 m_is_cover
/-! Ground.__init__ -/
abbrev N_Ground___init__ : List Str := ["self", "covers", "index", "value"]
def m_Ground___init__ : SM := (exSeq (exIf (tvOr (tvNot (tvB (evIsi [.ty "tuple"] (evVar 1)))) (tvNot (tvB (evChain gLeD gLeD (evC (.int 1)) (evCall gLen (evCons (evVar 1) evNil)) (evC (.int 10)))))) exBad exPass)
  (exSeq (exPre ([2, 3], []) (exFor (ivEnum (evVar 1)) (tgTup 2 (tgCons (tgName [0] 2) (tgCons (tgName [0] 3) tgNil))) (exKill [2, 3] (exIf (tvNot (tvB (evCallL 2 c_is_cover (evCons (evVar 3) (evCons (evVar 2) evNil))))) exBad exPass))))
  (exFld (fnsOf cs) 0 "table" (evVar 1))))
def c_Ground___init__ : CM := runB true 4 m_Ground___init__
/-! number_of -/
abbrev N_number_of : List Str := ["word", "low", "high", "some", "number"]
def m_number_of : SM := (exSeq (exAsg [] 3 (evComp (ivArgs rng2 (evCons (evVar 1) (evCons (evBin gAdd (evVar 2) (evC (.int 1))) evNil))) (tgName [] 4) (tvB (evBin gEqD (evCall gStrI (evCons (evVar 4) evNil)) (evVar 0))) (evVar 4) [4]))
  (exRet (evIf (tvB (evBin gNeD (evVar 3) (evLst evNil))) (evBin gIx (evVar 3) (evC (.int 0))) (evC .none))))
def c_number_of : CM := runB false 5 m_number_of
/-! can_be -/
abbrev N_can_be : List Str := ["words", "at", "block", "word", "is_worth", "least"]
def m_can_be : SM := (exSeq (exAsg [] 3 (evBin gIx (evVar 0) (evVar 1)))
  (exSeq (exIf (tvB (evBin gLtD (evVar 1) (evC (.int 4)))) (exSeq (exAsg [] 4 (evBin gIsNot (evCallL 3 c_number_of (evCons (evVar 3) (evCons (evUn gNeg (evC (.int 50))) (evCons (evC (.int 50)) evNil)))) (evC .none)))
  (exRet (evBin gIx (evLst (evCons (evBin gEqD (evVar 3) (evC (.str "block"))) (evCons (evBin gEqD (evVar 3) (evCall gStrI (evCons (evVar 2) evNil))) (evCons (evBin gEqD (evVar 3) (evC (.str "worth"))) (evCons (evVar 4) evNil))))) (evVar 1)))) exPass)
  (exSeq (exIf (tvB (evBin gEqD (evVar 1) (evC (.int 4)))) (exRet (evAnd (evBin gEqD (evVar 3) (evC (.str "needs"))) (evBin gGtD (evVar 2) (evC (.int 0))))) exPass)
  (exSeq (exAsg [] 5 (evIf (tvB (evBin gGtD (evVar 1) (evC (.int 5)))) (evBin gAdd (evCallL 3 c_number_of (evCons (evBin gIx (evVar 0) (evBin Pv.gSub (evVar 1) (evC (.int 1)))) (evCons (evC (.int 0)) (evCons (evVar 2) evNil)))) (evC (.int 1))) (evC (.int 0))))
  (exRet (evBin gIsNot (evCallL 3 c_number_of (evCons (evVar 3) (evCons (evVar 5) (evCons (evBin Pv.gSub (evVar 2) (evC (.int 1))) evNil)))) (evC .none)))))))
def c_can_be : CM := runB false 6 m_can_be
/-! checked -/
abbrev N_checked : List Str := ["words", "number", "block", "at", "firsts", "word"]
def m_checked : SM := (exSeq (exAsg [] 2 (evBin Pv.gSub (evVar 1) (evC (.int 1))))
  (exSeq (exPre ([3], []) (exFor (ivArgs rng1 (evCons (evCall gLen (evCons (evVar 0) evNil)) evNil)) (tgName [] 3) (exKill [3] (exIf (tvOr (tvB (evBin gEqD (evVar 2) (evC (.int 10)))) (tvNot (tvB (evCallL 3 c_can_be (evCons (evVar 0) (evCons (evVar 3) (evCons (evVar 2) evNil))))))) (exRaiseJ "InvalidText" "line" "word" (evVar 1) (evBin gAdd (evVar 3) (evC (.int 1)))) exPass))))
  (exSeq (exIf (tvOr (tvB (evBin gLtD (evCall gLen (evCons (evVar 0) evNil)) (evC (.int 4)))) (tvB (evBin gEqD (evCall gLen (evCons (evVar 0) evNil)) (evC (.int 5))))) (exRaiseJ "InvalidText" "line" "word" (evVar 1) (evBin gAdd (evCall gLen (evCons (evVar 0) evNil)) (evC (.int 1)))) exPass)
  (exSeq (exAsg [] 4 (evCall gTuple (evCons (evComp (ivSeq (evSl (evVar 0) (opSome (evC (.int 5))) opNone)) (tgName [] 5) tvYes (evCallL 3 c_number_of (evCons (evVar 5) (evCons (evC (.int 0)) (evCons (evC (.int 10)) evNil)))) [5]) evNil)))
  (exRet (evTup (evCons (evCallL 3 c_number_of (evCons (evBin gIx (evVar 0) (evC (.int 3))) (evCons (evUn gNeg (evC (.int 50))) (evCons (evC (.int 50)) evNil)))) (evCons (evVar 4) evNil))))))))
def c_checked : CM := runB false 6 m_checked
/-! read -/
abbrev N_read : List Str := ["text", "told", "at", "line", "words", "word", "worth", "firsts"]
def m_read : SM := (exSeq (exAsg [] 1 (evLst evNil))
  (exSeq (exPre ([2, 3, 4], []) (exFor (ivEnum (evSplit (evVar 0) (evCons (evC (.str "
")) evNil))) (tgTup 2 (tgCons (tgName [] 2) (tgCons (tgName [] 3) tgNil))) (exKill [2, 3, 4] (exSeq (exAsg [] 4 (evComp (ivSeq (evSplit (evVar 3) (evCons (evC (.str " ")) evNil))) (tgName [] 5) (tvB (evBin gNeD (evVar 5) (evC (.str "")))) (evVar 5) [5]))
  (exPre ([], [4]) (exExprX (evMutX fAppend 1 (evCallL 2 c_checked (evCons (evVar 4) (evCons (evBin gAdd (evVar 2) (evC (.int 1))) evNil))))))))))
  (exRet (evTup (evCons (evMake 0 2 c_Ground___init__ (evCons (evCall gTuple (evCons (evComp (ivSeq (evVar 1)) (tgTup 2 (tgCons (tgName [] 6) (tgCons (tgName [] 7) tgNil))) tvYes (evVar 7) [6, 7]) evNil)) evNil)) (evCons (evCall gTuple (evCons (evComp (ivSeq (evVar 1)) (tgTup 2 (tgCons (tgName [] 6) (tgCons (tgName [] 7) tgNil))) tvYes (evVar 6) [6, 7]) evNil)) evNil))))))
def c_read : CM := runB false 8 m_read
/-! _law_told -/
abbrev N__law_told : List Str := ["_law_text", "_law_found", "e"]
def m__law_told : SM := (exSeq (exAsg [] 1 (evC .none))
  (exSeq (exTryF false ["InvalidText"] ["InvalidText"] (exExprX (evCallL 1 c_read (evCons (evVar 0) evNil))) (exAsJ [] 2 1 "InvalidText" "line" "word"))
  (exRet (evVar 1))))
def c__law_told : CM := runB false 3 m__law_told
/-! _law_number -/
abbrev N__law_number : List Str := ["_law_word", "_law_low", "_law_high", "_law_found", "_law_number_here"]
def m__law_number : SM := (exSeq (exAsg [] 3 (evComp (ivArgs rng2 (evCons (evVar 1) (evCons (evBin gAdd (evVar 2) (evC (.int 1))) evNil))) (tgName [] 4) (tvB (evBin gEqD (evCall gStrI (evCons (evVar 4) evNil)) (evVar 0))) (evVar 4) [4]))
  (exRet (evIf (tvB (evBin gNeD (evVar 3) (evLst evNil))) (evBin gIx (evVar 3) (evC (.int 0))) (evC .none))))
def c__law_number : CM := runB false 5 m__law_number
/-! _law_due -/
abbrev N__law_due : List Str := ["_law_text", "_law_lines", "_law_at", "_law_words", "_law_least", "_law_place", "_law_word", "_law_good"]
def m__law_due : SM := (exSeq (exAsg [] 1 (evSplit (evVar 0) (evCons (evC (.str "
")) evNil)))
  (exSeq (exPre ([2, 3, 4, 5, 6, 7], []) (exFor (ivArgs rng1 (evCons (evCall gLen (evCons (evVar 1) evNil)) evNil)) (tgName [] 2) (exKill [2, 3, 4, 5, 6, 7] (exSeq (exPar [] [3, 4] (evCons (evComp (ivSeq (evSplit (evBin gIx (evVar 1) (evVar 2)) (evCons (evC (.str " ")) evNil))) (tgName [] 6) (tvB (evBin gNeD (evVar 6) (evC (.str "")))) (evVar 6) [6]) (evCons (evC (.int 0)) evNil)))
  (exSeq (exPre ([5, 6, 7], []) (exFor (ivArgs rng1 (evCons (evCall gLen (evCons (evVar 3) evNil)) evNil)) (tgName [] 5) (exKill [5, 6, 7] (exSeq (exPar [] [6, 7] (evCons (evBin gIx (evVar 3) (evVar 5)) (evCons (evC (.bool false)) evNil)))
  (exSeq (exIf (tvB (evBin gLtD (evVar 5) (evC (.int 3)))) (exAsg [] 7 (evAnd (evBin gEqD (evVar 6) (evBin gIx (evLst (evCons (evC (.str "block")) (evCons (evCall gStrI (evCons (evVar 2) evNil)) (evCons (evC (.str "worth")) evNil)))) (evVar 5))) (evBin gLtD (evVar 2) (evC (.int 10))))) (exIf (tvB (evBin gEqD (evVar 5) (evC (.int 3)))) (exAsg [] 7 (evBin gIsNot (evCallL 3 c__law_number (evCons (evVar 6) (evCons (evUn gNeg (evC (.int 50))) (evCons (evC (.int 50)) evNil)))) (evC .none))) (exIf (tvB (evBin gEqD (evVar 5) (evC (.int 4)))) (exAsg [] 7 (evAnd (evBin gEqD (evVar 6) (evC (.str "needs"))) (evBin gGtD (evVar 2) (evC (.int 0))))) (exIf (tvB (evBin gIsNot (evCallL 3 c__law_number (evCons (evVar 6) (evCons (evVar 4) (evCons (evBin Pv.gSub (evVar 2) (evC (.int 1))) evNil)))) (evC .none))) (exPar [] [7, 4] (evCons (evC (.bool true)) (evCons (evBin gAdd (evCallL 3 c__law_number (evCons (evVar 6) (evCons (evVar 4) (evCons (evBin Pv.gSub (evVar 2) (evC (.int 1))) evNil)))) (evC (.int 1))) evNil))) exPass))))
  (exIf (tvNot (tvB (evVar 7))) (exRet (evTup (evCons (evBin gAdd (evVar 2) (evC (.int 1))) (evCons (evBin gAdd (evVar 5) (evC (.int 1))) evNil)))) exPass))))))
  (exIf (tvOr (tvB (evBin gLtD (evCall gLen (evCons (evVar 3) evNil)) (evC (.int 4)))) (tvB (evBin gEqD (evCall gLen (evCons (evVar 3) evNil)) (evC (.int 5))))) (exRet (evTup (evCons (evBin gAdd (evVar 2) (evC (.int 1))) (evCons (evBin gAdd (evCall gLen (evCons (evVar 3) evNil)) (evC (.int 1))) evNil)))) exPass))))))
  (exRet (evC .none))))
def c__law_due : CM := runB false 8 m__law_due
/-! law -/
abbrev N_law : List Str := ["_law_script", "_law_row", "_law_turn", "_law_covers_here", "_law_worths_here", "_law_lines", "_law_block", "_law_words", "_law_odd", "_law_change", "_law_at", "_law_way", "_law_place", "_law_text", "_law_short", "_law_one"]
def m_law : SM := (exSeq (exAsg [] 1 (evLst (evCons (evVar 0) (evCons (evC (.int 0)) (evCons (evC (.int 1583)) (evCons (evC (.int 0)) evNil))))))
  (exSeq (exPre ([2, 3, 4, 5, 6, 7, 8, 9, 10, 11, 12, 13], []) (exFor (ivArgs rng1 (evCons (evC (.int 4)) evNil)) (tgName [] 2) (exKill [2, 3, 4, 5, 6, 7, 8, 9, 10, 11, 12, 13] (exSeq (exAsg [] 3 (evCallI 2 c__law_covers (evCons (evVar 1) (evCons (evC (.int 10)) evNil))))
  (exSeq (exPar [] [4, 5] (evCons (evCallI 2 c__law_worths (evCons (evVar 1) (evCons (evCall gLen (evCons (evVar 3) evNil)) evNil))) (evCons (evLst evNil) evNil)))
  (exSeq (exPre ([6, 7], []) (exFor (ivArgs rng1 (evCons (evCall gLen (evCons (evVar 3) evNil)) evNil)) (tgName [] 6) (exKill [6, 7] (exSeq (exAsg [] 7 (evLst (evCons (evC (.str "block")) (evCons (evCall gStrI (evCons (evVar 6) evNil)) (evCons (evC (.str "worth")) (evCons (evCall gStrI (evCons (evBin gIx (evVar 4) (evVar 6)) evNil)) evNil))))))
  (exExpr (evMut fAppend 5 (evCons (evBin gAdd (evBin gAdd (evVar 7) (evBin gMulA (evLst (evCons (evC (.str "needs")) evNil)) (evCall gInt (evCons (evBin gNeD (evBin gIx (evVar 3) (evVar 6)) (evTup evNil)) evNil)))) (evComp (ivSeq (evBin gIx (evVar 3) (evVar 6))) (tgName [] 15) tvYes (evCall gStrI (evCons (evVar 15) evNil)) [15])) evNil)))))))
  (exSeq (exAsg [] 8 (evLst (evCons (evC (.str "block")) (evCons (evC (.str "Block")) (evCons (evC (.str "blocks")) (evCons (evC (.str "worth")) (evCons (evC (.str "needs")) (evCons (evC (.str "0")) (evCons (evC (.str "1")) (evCons (evC (.str "9")) (evCons (evC (.str "10")) (evCons (evC (.str "-1")) (evCons (evC (.str "-0")) (evCons (evC (.str "+1")) (evCons (evC (.str "01")) (evCons (evC (.str "51")) evNil))))))))))))))))
  (exSeq (exAsg [] 8 (evBin gAdd (evVar 8) (evLst (evCons (evC (.str "-51")) (evCons (evC (.str "50")) (evCons (evC (.str "")) (evCons (evC (.str "	")) (evCons (evC (.str "1.0")) (evCons (evC (.str "x")) (evCons (evC (.str "None")) (evCons (evC (.str "block 0")) (evCons (evC (.str "-50")) (evCons (evC (.str "2")) evNil)))))))))))))
  (exSeq (exPre ([9, 10, 11, 12], []) (exFor (ivArgs rng1 (evCons (evBin gAdd (evC (.int 1)) (evCallI 2 c__law_taken (evCons (evVar 1) (evCons (evC (.int 2)) evNil)))) evNil)) (tgName [] 9) (exKill [9, 10, 11, 12] (exSeq (exPar [] [10, 11] (evCons (evCallI 2 c__law_taken (evCons (evVar 1) (evCons (evCall gLen (evCons (evVar 5) evNil)) evNil))) (evCons (evCallI 2 c__law_taken (evCons (evVar 1) (evCons (evC (.int 5)) evNil))) evNil)))
  (exSeq (exAsg [] 12 (evCallI 2 c__law_taken (evCons (evVar 1) (evCons (evBin gAdd (evCall gLen (evCons (evBin gIx (evVar 5) (evVar 10)) evNil)) (evC (.int 1))) evNil))))
  (exIf (tvB (evBin gEqD (evVar 11) (evC (.int 0)))) (exSto 5 (evVar 10) (evBin gAdd (evSl (evBin gIx (evVar 5) (evVar 10)) opNone (opSome (evVar 12))) (evSl (evBin gIx (evVar 5) (evVar 10)) (opSome (evBin gAdd (evVar 12) (evC (.int 1)))) opNone))) (exIf (tvB (evBin gEqD (evVar 11) (evC (.int 1)))) (exSto 5 (evVar 10) (evBin gAdd (evBin gAdd (evSl (evBin gIx (evVar 5) (evVar 10)) opNone (opSome (evVar 12))) (evLst (evCons (evCallI 2 c__law_pick (evCons (evVar 1) (evCons (evVar 8) evNil))) evNil))) (evSl (evBin gIx (evVar 5) (evVar 10)) (opSome (evVar 12)) opNone))) (exIf (tvB (evBin gEqD (evVar 11) (evC (.int 2)))) (exSto 5 (evVar 10) (evBin gAdd (evBin gAdd (evSl (evBin gIx (evVar 5) (evVar 10)) opNone (opSome (evVar 12))) (evLst (evCons (evCallI 2 c__law_pick (evCons (evVar 1) (evCons (evVar 8) evNil))) evNil))) (evSl (evBin gIx (evVar 5) (evVar 10)) (opSome (evBin gAdd (evVar 12) (evC (.int 1)))) opNone))) (exIf (tvB (evBin gEqD (evVar 11) (evC (.int 3)))) (exExpr (evMut fInsert 5 (evCons (evVar 10) (evCons (evCallI 2 c__law_pick (evCons (evVar 1) (evCons (evLst (evCons (evLst evNil) (evCons (evLst (evCons (evC (.str "block")) (evCons (evCall gStrI (evCons (evVar 10) evNil)) (evCons (evC (.str "worth")) (evCons (evC (.str "0")) evNil))))) (evCons (evCall gList (evCons (evBin gIx (evVar 5) (evVar 10)) evNil)) evNil)))) evNil))) evNil)))) (exExpr (evMut fAppend 5 (evCons (evLst (evCons (evC (.str "block")) (evCons (evCall gStrI (evCons (evCall gLen (evCons (evVar 5) evNil)) evNil)) (evCons (evC (.str "worth")) (evCons (evC (.str "1")) evNil))))) evNil))))))))))))
  (exSeq (exAsg [] 13 (evJoin (evC (.str "
")) (evCons (evComp (ivSeq (evVar 5)) (tgName [] 7) tvYes (evJoin (evC (.str " ")) (evCons (evVar 7) evNil)) [7]) evNil)))
  (exIf (tvB (evBin gNeD (evCallL 1 c__law_told (evCons (evVar 13) evNil)) (evCallL 1 c__law_due (evCons (evVar 13) evNil)))) (exRet (evC (.bool false))) exPass)))))))))))
  (exSeq (exAsg [] 14 (evCallI 2 c__law_pick (evCons (evVar 1) (evCons (evLst (evCons (evC (.str "")) (evCons (evC (.str "
")) (evCons (evC (.str " ")) (evCons (evC (.str "block")) (evCons (evC (.str "block 0")) (evCons (evC (.str "block 0 worth")) (evCons (evC (.str "block 0 worth 1
")) evNil)))))))) evNil))))
  (exRet (evAnd (evBin gIsNot (evCallL 1 c__law_due (evCons (evVar 14) evNil)) (evC .none)) (evBin gEqD (evCallL 1 c__law_told (evCons (evVar 14) evNil)) (evCallL 1 c__law_due (evCons (evVar 14) evNil))))))))
def c_law : CM := runB false 16 m_law
section
variable {P : Program} {w : World} {K : PySem.W.Frag} {mg : Str → Option Value} {base : Heap}
theorem sc__law_taken : FnScope N__law_taken ["_law_row", "_law_many"] (defScope (top 17)) := ⟨rfl, rfl, rfl, by decide +kernel, rfl, by decide +kernel, by decide +kernel⟩
theorem kp__law_taken (h : FxJ spJ fa fn cs K mg) : PySem.W.keepIn K (.ref (He.ga K "_law_taken")) = true := by
  obtain ⟨fd, F⟩ := h.def_ 0
  exact F.kp
theorem body__law_taken (h : FxJ spJ fa fn cs K mg) {fd : FuncData} (F : FunD K "_law_taken" "_law_taken" (defArgs (top 17)) (defBody (top 17)) (defScope (top 17)) [] [] (He.ga K "_law_taken") fd) : FnOk P w K mg base CX0 1 (He.ga K "_law_taken") fd ["_law_row", "_law_many"] (spF ⟨K, ctOf cs K⟩ true 2 c__law_taken) := by
  refine def_ok (n := 0) F sc__law_taken rfl rfl (by decide) fun cd A outer s H E hr => ?_
  exact (ssCons (sIf (qCmp (kGt hr) (nIx (nVar 0) nInt) nInt) (ssCons (sSet 2 sc__law_taken.nd (nMod (nTy uInt PyProof.Rows.boot_int (h.free 0) (aCons (nIx (nVar 0) nInt) aNil)) (nVar 1)))
  (ssCons (sSto 0 (pv 0) nInt (nFdiv (nIx (nVar 0) nInt) (nVar 1)))
  (ssOne (sRet (nVar 2))))) ssNil)
  (ssCons (sSto 0 (pv 0) nInt (nAdd (nIx (nVar 0) nInt) nInt))
  (ssCons (sIf (qCmp (kGt hr) (nIx (nVar 0) nInt) (nB uLen boot_len (h.free 1) (aCons (nIx (nVar 0) nInt) aNil))) (ssCons (sSto 0 (pv 0) nInt (nMod (nTy uInt PyProof.Rows.boot_int (h.free 0) (aCons (nAdd (nMulA (nIx (nVar 0) nInt) nInt) nInt) aNil)) nInt))
  (ssOne (sRet (nMod (nTy uInt PyProof.Rows.boot_int (h.free 0) (aCons (nFdiv (nIx (nVar 0) nInt) nInt) aNil)) (nVar 1))))) ssNil)
  (ssCons (sSet 3 sc__law_taken.nd (nIx (nIx (nVar 0) nInt) (nSub (nIx (nVar 0) nInt) nInt)))
  (ssCons (sSto 0 (pv 0) nInt (nMod (nTy uInt PyProof.Rows.boot_int (h.free 0) (aCons (nAdd (nAdd (nMulA (nIx (nVar 0) nInt) nInt) (nVar 3)) nInt) aNil)) nInt))
  (ssCons (sIf (qCmp (kGe hr) (nVar 3) (nPow nInt nInt)) (ssOne (sSto 0 (pv 0) nInt (nFdiv (nVar 3) (nVar 1)))) ssNil)
  (ssOne (sRet (nMod (nTy uInt PyProof.Rows.boot_int (h.free 0) (aCons (nVar 3) aNil)) (nVar 1))))))))))
theorem ok__law_taken (h : FxJ spJ fa fn cs K mg) : FunK P w K mg base (ctOf cs K) 1 (He.ga K "_law_taken") true 2 c__law_taken := by
  obtain ⟨fd, F⟩ := h.def_ 0
  exact ⟨fd, ["_law_row", "_law_many"], body__law_taken h F, F.bindsN fun _ _ _ _ _ _ us hl => match us, hl with | [_, _], _ => rfl⟩
theorem sc__law_pick : FnScope N__law_pick ["_law_row", "_law_things"] (defScope (top 18)) := ⟨rfl, rfl, rfl, by decide +kernel, rfl, by decide +kernel, by decide +kernel⟩
theorem kp__law_pick (h : FxJ spJ fa fn cs K mg) : PySem.W.keepIn K (.ref (He.ga K "_law_pick")) = true := by
  obtain ⟨fd, F⟩ := h.def_ 1
  exact F.kp
theorem body__law_pick (h : FxJ spJ fa fn cs K mg) {fd : FuncData} (F : FunD K "_law_pick" "_law_pick" (defArgs (top 18)) (defBody (top 18)) (defScope (top 18)) [] [] (He.ga K "_law_pick") fd) : FnOk P w K mg base CX0 2 (He.ga K "_law_pick") fd ["_law_row", "_law_things"] (spF ⟨K, ctOf cs K⟩ true 2 c__law_pick) := by
  refine def_ok (n := 1) F sc__law_pick rfl rfl (by decide) fun cd A outer s H E hr => ?_
  exact (ssOne (sRet (nIx (nVar 1) (nCallI (ok__law_taken h) (hr.mono (by decide)) (h.glo 2) (kp__law_taken h) (aCons (nVar 0) (aCons (nB uLen boot_len (h.free 1) (aCons (nVar 1) aNil)) aNil))))))
theorem ok__law_pick (h : FxJ spJ fa fn cs K mg) : FunK P w K mg base (ctOf cs K) 2 (He.ga K "_law_pick") true 2 c__law_pick := by
  obtain ⟨fd, F⟩ := h.def_ 1
  exact ⟨fd, ["_law_row", "_law_things"], body__law_pick h F, F.bindsN fun _ _ _ _ _ _ us hl => match us, hl with | [_, _], _ => rfl⟩
theorem sc__law_covers : FnScope N__law_covers ["_law_row", "_law_most"] (defScope (top 19)) := ⟨rfl, rfl, rfl, by decide +kernel, rfl, by decide +kernel, by decide +kernel⟩
theorem kp__law_covers (h : FxJ spJ fa fn cs K mg) : PySem.W.keepIn K (.ref (He.ga K "_law_covers")) = true := by
  obtain ⟨fd, F⟩ := h.def_ 2
  exact F.kp
theorem body__law_covers (h : FxJ spJ fa fn cs K mg) {fd : FuncData} (F : FunD K "_law_covers" "_law_covers" (defArgs (top 19)) (defBody (top 19)) (defScope (top 19)) [] [] (He.ga K "_law_covers") fd) : FnOk P w K mg base CX0 2 (He.ga K "_law_covers") fd ["_law_row", "_law_most"] (spF ⟨K, ctOf cs K⟩ true 2 c__law_covers) := by
  refine def_ok (n := 1) F sc__law_covers rfl rfl (by decide) fun cd A outer s H E hr => ?_
  exact (ssCons (sParT [2, 3, 4] rfl (nnCons 2 sc__law_covers.nd (nnCons 3 sc__law_covers.nd (nnCons 4 sc__law_covers.nd nnNil))) (aCons (nLst aNil) (aCons (nCallI (ok__law_taken h) (hr.mono (by decide)) (h.glo 2) (kp__law_taken h) (aCons (nVar 0) (aCons nInt aNil))) (aCons (nAdd nInt (nCallI (ok__law_taken h) (hr.mono (by decide)) (h.glo 2) (kp__law_taken h) (aCons (nVar 0) (aCons (nVar 1) aNil)))) aNil))))
  (ssCons (sPre ([5, 6], []) (sFor [5, 6] PassesOwn.never rfl (iRng1N (h.free 3) (aCons (nVar 4) aNil)) (gNameN 5 sc__law_covers.nd) (ssCons (sSetLc 6 [("_law_one", 7)] rfl sc__law_covers.nd (blkOk_by (N := N__law_covers) (sc := defScope (top 19)) (by decide +kernel)) (iRng1N (h.free 3) (aCons (nVar 5) aNil)) (fun _ _ _ _ _ => (gNameN 7 sc__law_covers.nd)) (fun _ _ _ _ _ => (tsOne (qCmp (kEq hr) (nCallI (ok__law_taken h) (hr.mono (by decide)) (h.glo 2) (kp__law_taken h) (aCons (nVar 0) (aCons nInt aNil))) nInt))) (fun _ _ _ _ _ => (nVar 7)))
  (ssCons (sIf (qCmp (kEq hr) (nVar 3) nInt) (ssOne (sSet 6 sc__law_covers.nd (nLst aNil))) ssNil)
  (ssCons (sIf (qCmp (kEq hr) (nVar 3) nInt) (ssOne (sSet 6 sc__law_covers.nd (nSl (nLRg1 rfl (h.free 4) (h.free 3) (nVar 5)) (oSome (nNeg nInt)) oNone))) ssNil)
  (ssCons (sIf (qCmp (kEq hr) (nVar 3) nInt) (ssOne (sSetLc 6 [("_law_one", 7)] rfl sc__law_covers.nd (blkOk_by (N := N__law_covers) (sc := defScope (top 19)) (by decide +kernel)) (iRng1N (h.free 3) (aCons (nVar 5) aNil)) (fun _ _ _ _ _ => (gNameN 7 sc__law_covers.nd)) (fun _ _ _ _ _ => (tsOne (qChain (kLt hr) (kLe hr) (nMulA nInt (nVar 7)) (nVar 4) (nMulA nInt (nVar 5))))) (fun _ _ _ _ _ => (nVar 7)))) ssNil)
  (ssCons (sIf (qCmp (kEq hr) (nVar 3) nInt) (ssOne (sSetLc 6 [("_law_one", 7)] rfl sc__law_covers.nd (blkOk_by (N := N__law_covers) (sc := defScope (top 19)) (by decide +kernel)) (iSeqN (nVar 6)) (fun _ _ _ _ _ => (gNameN 7 sc__law_covers.nd)) (fun _ _ _ _ _ => (tsOne (qCmp (kLt hr) (nSub (nVar 5) (nVar 7)) nInt))) (fun _ _ _ _ _ => (nVar 7)))) ssNil)
  (ssOne (sExpr (nAppend 2 (pv 2) (aCons (nTy uTuple PyProof.Rows.boot_tuple (h.free 5) (aCons (nVar 6) aNil)) aNil)))))))))))
  (ssOne (sRet (nTy uTuple PyProof.Rows.boot_tuple (h.free 5) (aCons (nVar 2) aNil))))))
theorem ok__law_covers (h : FxJ spJ fa fn cs K mg) : FunK P w K mg base (ctOf cs K) 2 (He.ga K "_law_covers") true 2 c__law_covers := by
  obtain ⟨fd, F⟩ := h.def_ 2
  exact ⟨fd, ["_law_row", "_law_most"], body__law_covers h F, F.bindsN fun _ _ _ _ _ _ us hl => match us, hl with | [_, _], _ => rfl⟩
theorem sc__law_worths : FnScope N__law_worths ["_law_row", "_law_many"] (defScope (top 20)) := ⟨rfl, rfl, rfl, by decide +kernel, rfl, by decide +kernel, by decide +kernel⟩
theorem kp__law_worths (h : FxJ spJ fa fn cs K mg) : PySem.W.keepIn K (.ref (He.ga K "_law_worths")) = true := by
  obtain ⟨fd, F⟩ := h.def_ 3
  exact F.kp
theorem body__law_worths (h : FxJ spJ fa fn cs K mg) {fd : FuncData} (F : FunD K "_law_worths" "_law_worths" (defArgs (top 20)) (defBody (top 20)) (defScope (top 20)) [] [] (He.ga K "_law_worths") fd) : FnOk P w K mg base CX0 2 (He.ga K "_law_worths") fd ["_law_row", "_law_many"] (spF ⟨K, ctOf cs K⟩ true 2 c__law_worths) := by
  refine def_ok (n := 1) F sc__law_worths rfl rfl (by decide) fun cd A outer s H E hr => ?_
  exact (ssCons (sPar2 2 3 rfl sc__law_worths.nd (aCons (nLst aNil) (aCons (nCallI (ok__law_taken h) (hr.mono (by decide)) (h.glo 2) (kp__law_taken h) (aCons (nVar 0) (aCons nInt aNil))) aNil)))
  (ssCons (sPre ([4, 5, 6], []) (sFor [4, 5, 6] PassesOwn.never rfl (iRng1N (h.free 3) (aCons (nVar 1) aNil)) (gNameN 4 sc__law_worths.nd) (ssCons (sPar2 5 6 rfl sc__law_worths.nd (aCons (nCallI (ok__law_taken h) (hr.mono (by decide)) (h.glo 2) (kp__law_taken h) (aCons (nVar 0) (aCons (nIx (nLst (aCons nInt (aCons nInt (aCons nInt (aCons nInt (aCons nInt (aCons nInt aNil))))))) (nVar 3)) aNil))) (aCons (nCallI (ok__law_taken h) (hr.mono (by decide)) (h.glo 2) (kp__law_taken h) (aCons (nVar 0) (aCons (nIx (nLst (aCons nInt (aCons nInt (aCons nInt (aCons nInt (aCons nInt (aCons nInt aNil))))))) (nVar 3)) aNil))) aNil)))
  (ssOne (sExpr (nAppend 2 (pv 2) (aCons (nSub (nVar 6) (nVar 5)) aNil)))))))
  (ssOne (sRet (nTy uTuple PyProof.Rows.boot_tuple (h.free 5) (aCons (nVar 2) aNil))))))
theorem ok__law_worths (h : FxJ spJ fa fn cs K mg) : FunK P w K mg base (ctOf cs K) 2 (He.ga K "_law_worths") true 2 c__law_worths := by
  obtain ⟨fd, F⟩ := h.def_ 3
  exact ⟨fd, ["_law_row", "_law_many"], body__law_worths h F, F.bindsN fun _ _ _ _ _ _ us hl => match us, hl with | [_, _], _ => rfl⟩
theorem sc_rises : FnScope N_rises ["value"] (defScope (top 7)) := ⟨rfl, rfl, rfl, by decide +kernel, rfl, by decide +kernel, by decide +kernel⟩
theorem kp_rises (h : FxJ spJ fa fn cs K mg) : PySem.W.keepIn K (.ref (He.ga K "rises")) = true := by
  obtain ⟨fd, F⟩ := h.def_ 4
  exact F.kp
theorem body_rises (h : FxJ spJ fa fn cs K mg) {fd : FuncData} (F : FunD K "rises" "rises" (defArgs (top 7)) (defBody (top 7)) (defScope (top 7)) [] [] (He.ga K "rises") fd) : FnOk P w K mg base CX0 1 (He.ga K "rises") fd ["value"] (spF ⟨K, ctOf cs K⟩ false 1 c_rises) := by
  refine def_ok (n := 0) F sc_rises rfl rfl (by decide) fun cd A outer s H E hr => ?_
  exact (ssOne (sRet (nB (uAll rfl) PyProof.Rows.boot_all (h.free 6) (aCons (nComp [("at", 1)] rfl sc_rises.nd (blkOk_by (N := N_rises) (sc := defScope (top 7)) (by decide +kernel)) (iRng2N (h.free 3) (aCons nInt (aCons (nB uLen boot_len (h.free 1) (aCons (nVar 0) aNil)) aNil))) (fun _ _ _ _ _ => (gNameN 1 sc_rises.nd)) (fun _ _ _ _ _ => tsNil) (fun _ _ _ _ _ => (nCmp (kLt hr) (nIx (nVar 0) (nSub (nVar 1) nInt)) (nIx (nVar 0) (nVar 1))))) aNil))))
theorem ok_rises (h : FxJ spJ fa fn cs K mg) : FunK P w K mg base (ctOf cs K) 1 (He.ga K "rises") false 1 c_rises := by
  obtain ⟨fd, F⟩ := h.def_ 4
  exact ⟨fd, ["value"], body_rises h F, F.bindsN fun _ _ _ _ _ _ us hl => match us, hl with | [_], _ => rfl⟩
theorem sc_is_from : FnScope N_is_from ["value", "low", "high"] (defScope (top 6)) := ⟨rfl, rfl, rfl, by decide +kernel, rfl, by decide +kernel, by decide +kernel⟩
theorem kp_is_from (h : FxJ spJ fa fn cs K mg) : PySem.W.keepIn K (.ref (He.ga K "is_from")) = true := by
  obtain ⟨fd, F⟩ := h.def_ 5
  exact F.kp
theorem body_is_from (h : FxJ spJ fa fn cs K mg) {fd : FuncData} (F : FunD K "is_from" "is_from" (defArgs (top 6)) (defBody (top 6)) (defScope (top 6)) [] [] (He.ga K "is_from") fd) : FnOk P w K mg base CX0 1 (He.ga K "is_from") fd ["value", "low", "high"] (spF ⟨K, ctOf cs K⟩ false 3 c_is_from) := by
  refine def_ok (n := 0) F sc_is_from rfl rfl (by decide) fun cd A outer s H E hr => ?_
  exact (ssOne (sRet (nAnd (nIsi h.isi (.ty "int") (pTy PyProof.Rows.boot_int (h.free 0)) (h.free 7) (nVar 0)) (nAnd (nNot (nIsi h.isi (.ty "bool") (pTy PyProof.Rows.boot_bool (h.free 8)) (h.free 7) (nVar 0))) (nOne (nChain (kLe hr) (kLe hr) (nVar 1) (nVar 0) (nVar 2)))))))
theorem ok_is_from (h : FxJ spJ fa fn cs K mg) : FunK P w K mg base (ctOf cs K) 1 (He.ga K "is_from") false 3 c_is_from := by
  obtain ⟨fd, F⟩ := h.def_ 5
  exact ⟨fd, ["value", "low", "high"], body_is_from h F, F.bindsN fun _ _ _ _ _ _ us hl => match us, hl with | [_, _, _], _ => rfl⟩
theorem sc_is_cover : FnScope N_is_cover ["value", "block"] (defScope (top 8)) := ⟨rfl, rfl, rfl, by decide +kernel, rfl, by decide +kernel, by decide +kernel⟩
theorem kp_is_cover (h : FxJ spJ fa fn cs K mg) : PySem.W.keepIn K (.ref (He.ga K "is_cover")) = true := by
  obtain ⟨fd, F⟩ := h.def_ 6
  exact F.kp
theorem body_is_cover (h : FxJ spJ fa fn cs K mg) {fd : FuncData} (F : FunD K "is_cover" "is_cover" (defArgs (top 8)) (defBody (top 8)) (defScope (top 8)) [] [] (He.ga K "is_cover") fd) : FnOk P w K mg base CX0 2 (He.ga K "is_cover") fd ["value", "block"] (spF ⟨K, ctOf cs K⟩ false 2 c_is_cover) := by
  refine def_ok (n := 1) F sc_is_cover rfl rfl (by decide) fun cd A outer s H E hr => ?_
  exact (ssOne (sRet (nAnd (nIsi h.isi (.ty "tuple") (pTy PyProof.Rows.boot_tuple (h.free 5)) (h.free 7) (nVar 0)) (nAnd (nB (uAll rfl) PyProof.Rows.boot_all (h.free 6) (aCons (nComp [("one", 2)] rfl sc_is_cover.nd (blkOk_by (N := N_is_cover) (sc := defScope (top 8)) (by decide +kernel)) (iSeqN (nVar 0)) (fun _ _ _ _ _ => (gNameN 2 sc_is_cover.nd)) (fun _ _ _ _ _ => tsNil) (fun _ _ _ _ _ => (nCall (ok_is_from h) (hr.mono (by decide)) (h.glo 9) (kp_is_from h) (aCons (nVar 2) (aCons nInt (aCons (nSub (nVar 1) nInt) aNil)))))) aNil)) (nOne (nCall (ok_rises h) (hr.mono (by decide)) (h.glo 10) (kp_rises h) (aCons (nVar 0) aNil)))))))
theorem ok_is_cover (h : FxJ spJ fa fn cs K mg) : FunK P w K mg base (ctOf cs K) 2 (He.ga K "is_cover") false 2 c_is_cover := by
  obtain ⟨fd, F⟩ := h.def_ 6
  exact ⟨fd, ["value", "block"], body_is_cover h F, F.bindsN fun _ _ _ _ _ _ us hl => match us, hl with | [_, _], _ => rfl⟩
theorem sc_Ground___init__ : FnScope N_Ground___init__ ["self", "covers"] (defScope (mth 9 0)) := ⟨rfl, rfl, rfl, by decide +kernel, rfl, by decide +kernel, by decide +kernel⟩
theorem body_Ground___init__ (h : FxJ spJ fa fn cs K mg) {fd : FuncData} (F : FunD K "__init__" "Ground.__init__" (defArgs (mth 9 0)) (defBody (mth 9 0)) (defScope (mth 9 0)) [] [] (He.ma K (He.ga K "Ground") "__init__") fd) : FnOk P w K mg base CX0 3 (He.ma K (He.ga K "Ground") "__init__") fd ["self", "covers"] (spF ⟨K, ctOf cs K⟩ true 2 c_Ground___init__) := by
  refine def_ok (n := 2) F sc_Ground___init__ rfl rfl (by decide) fun cd A outer s H E hr => ?_
  exact (ssCons (sIf (qW (wOr (qNot (qVal (nIsi h.isi (.ty "tuple") (pTy PyProof.Rows.boot_tuple (h.free 5)) (h.free 7) (nVar 1)))) (wOr1 (qNot (qChain (kLe hr) (kLe hr) nInt (nB uLen boot_len (h.free 1) (aCons (nVar 1) aNil)) (nGInt (h.int 11))))))) (ssOne sBad) ssNil)
  (ssCons (sPre ([2, 3], []) (sFor [2, 3] PassesOwn.never rfl (iEnumN (h.free 12) (nVar 1)) (gTupN rfl (gsConsN (gNameN 2 sc_Ground___init__.nd) (gsConsN (gNameN 3 sc_Ground___init__.nd) gsNilN))) (ssOne (sIf (qNot (qVal (nCall (ok_is_cover h) (hr.mono (by decide)) (h.glo 13) (kp_is_cover h) (aCons (nVar 3) (aCons (nVar 2) aNil))))) (ssOne sBad) ssNil))))
  (ssOne (sFldN 0 (exK_fld h.ex rfl) (pv 0) (nVar 1)))))
theorem ok_Ground___init__ (h : FxJ spJ fa fn cs K mg) : FunK P w K mg base (ctOf cs K) 3 (He.ma K (He.ga K "Ground") "__init__") true 2 c_Ground___init__ := by
  obtain ⟨fd, F⟩ := h.def_ 7
  exact ⟨fd, ["self", "covers"], body_Ground___init__ h F, F.bindsN fun _ _ _ _ _ _ us hl => match us, hl with | [_, _], _ => rfl⟩
theorem sc_number_of : FnScope N_number_of ["word", "low", "high"] (defScope (top 12)) := ⟨rfl, rfl, rfl, by decide +kernel, rfl, by decide +kernel, by decide +kernel⟩
theorem kp_number_of (h : FxJ spJ fa fn cs K mg) : PySem.W.keepIn K (.ref (He.ga K "number_of")) = true := by
  obtain ⟨fd, F⟩ := h.def_ 8
  exact F.kp
theorem body_number_of (h : FxJ spJ fa fn cs K mg) {fd : FuncData} (F : FunD K "number_of" "number_of" (defArgs (top 12)) (defBody (top 12)) (defScope (top 12)) [] [] (He.ga K "number_of") fd) : FnOk P w K mg base CX0 1 (He.ga K "number_of") fd ["word", "low", "high"] (spF ⟨K, ctOf cs K⟩ false 3 c_number_of) := by
  refine def_ok (n := 0) F sc_number_of rfl rfl (by decide) fun cd A outer s H E hr => ?_
  exact (ssCons (sSetLc 3 [("number", 4)] rfl sc_number_of.nd (blkOk_by (N := N_number_of) (sc := defScope (top 12)) (by decide +kernel)) (iRng2N (h.free 3) (aCons (nVar 1) (aCons (nAdd (nVar 2) nInt) aNil))) (fun _ _ _ _ _ => (gNameN 4 sc_number_of.nd)) (fun _ _ _ _ _ => (tsOne (qCmp (kEq hr) (nTy uStrI PyProof.Rows.boot_str (h.free 14) (aCons (nVar 4) aNil)) (nVar 0)))) (fun _ _ _ _ _ => (nVar 4)))
  (ssOne (sRet (nIf (qCmp (kNe hr) (nVar 3) (nLst aNil)) (nIx (nVar 3) nInt) nNon))))
theorem ok_number_of (h : FxJ spJ fa fn cs K mg) : FunK P w K mg base (ctOf cs K) 1 (He.ga K "number_of") false 3 c_number_of := by
  obtain ⟨fd, F⟩ := h.def_ 8
  exact ⟨fd, ["word", "low", "high"], body_number_of h F, F.bindsN fun _ _ _ _ _ _ us hl => match us, hl with | [_, _, _], _ => rfl⟩
theorem sc_can_be : FnScope N_can_be ["words", "at", "block"] (defScope (top 13)) := ⟨rfl, rfl, rfl, by decide +kernel, rfl, by decide +kernel, by decide +kernel⟩
theorem kp_can_be (h : FxJ spJ fa fn cs K mg) : PySem.W.keepIn K (.ref (He.ga K "can_be")) = true := by
  obtain ⟨fd, F⟩ := h.def_ 9
  exact F.kp
theorem body_can_be (h : FxJ spJ fa fn cs K mg) {fd : FuncData} (F : FunD K "can_be" "can_be" (defArgs (top 13)) (defBody (top 13)) (defScope (top 13)) [] [] (He.ga K "can_be") fd) : FnOk P w K mg base CX0 2 (He.ga K "can_be") fd ["words", "at", "block"] (spF ⟨K, ctOf cs K⟩ false 3 c_can_be) := by
  refine def_ok (n := 1) F sc_can_be rfl rfl (by decide) fun cd A outer s H E hr => ?_
  exact (ssCons (sSet 3 sc_can_be.nd (nIx (nVar 0) (nVar 1)))
  (ssCons (sIf (qCmp (kLt hr) (nVar 1) nInt) (ssCons (sSet 4 sc_can_be.nd (nCmp (kIsNot hr) (nCall (ok_number_of h) (hr.mono (by decide)) (h.glo 16) (kp_number_of h) (aCons (nVar 3) (aCons (nNeg (nGInt (h.int 15))) (aCons (nGInt (h.int 15)) aNil)))) nNon))
  (ssOne (sRet (nIx (nLst (aCons (nCmp (kEq hr) (nVar 3) nStr) (aCons (nCmp (kEq hr) (nVar 3) (nTy uStrI PyProof.Rows.boot_str (h.free 14) (aCons (nVar 2) aNil))) (aCons (nCmp (kEq hr) (nVar 3) nStr) (aCons (nVar 4) aNil))))) (nVar 1))))) ssNil)
  (ssCons (sIf (qCmp (kEq hr) (nVar 1) nInt) (ssOne (sRet (nAnd (nCmp (kEq hr) (nVar 3) nStr) (nOne (nCmp (kGt hr) (nVar 2) nInt))))) ssNil)
  (ssCons (sSet 5 sc_can_be.nd (nIf (qCmp (kGt hr) (nVar 1) nInt) (nAdd (nCall (ok_number_of h) (hr.mono (by decide)) (h.glo 16) (kp_number_of h) (aCons (nIx (nVar 0) (nSub (nVar 1) nInt)) (aCons nInt (aCons (nVar 2) aNil)))) nInt) nInt))
  (ssOne (sRet (nCmp (kIsNot hr) (nCall (ok_number_of h) (hr.mono (by decide)) (h.glo 16) (kp_number_of h) (aCons (nVar 3) (aCons (nVar 5) (aCons (nSub (nVar 2) nInt) aNil)))) nNon)))))))
theorem ok_can_be (h : FxJ spJ fa fn cs K mg) : FunK P w K mg base (ctOf cs K) 2 (He.ga K "can_be") false 3 c_can_be := by
  obtain ⟨fd, F⟩ := h.def_ 9
  exact ⟨fd, ["words", "at", "block"], body_can_be h F, F.bindsN fun _ _ _ _ _ _ us hl => match us, hl with | [_, _, _], _ => rfl⟩
theorem sc_checked : FnScope N_checked ["words", "number"] (defScope (top 14)) := ⟨rfl, rfl, rfl, by decide +kernel, rfl, by decide +kernel, by decide +kernel⟩
theorem kp_checked (h : FxJ spJ fa fn cs K mg) : PySem.W.keepIn K (.ref (He.ga K "checked")) = true := by
  obtain ⟨fd, F⟩ := h.def_ 10
  exact F.kp
theorem body_checked (h : FxJ spJ fa fn cs K mg) {fd : FuncData} (F : FunD K "checked" "checked" (defArgs (top 14)) (defBody (top 14)) (defScope (top 14)) [] [] (He.ga K "checked") fd) : FnOk P w K mg base (L2.CX P w) 3 (He.ga K "checked") fd ["words", "number"] (spX ⟨K, ctOf cs K⟩ false 2 c_checked) := by
  refine def_okX (n := 2) F sc_checked rfl rfl (by decide) fun cd A outer s H E hr => ?_
  exact (ssCons (sSet 2 sc_checked.nd (nSub (nVar 1) nInt))
  (ssCons (sPre ([3], []) (sFor [3] cxX_passes rfl (iRng1N (h.free 3) (aCons (nB uLen boot_len (h.free 1) (aCons (nVar 0) aNil)) aNil)) (gNameN 3 sc_checked.nd) (ssOne (sIf (qW (wOr (qCmp (kEq hr) (nVar 2) (nGInt (h.int 11))) (wOr1 (qNot (qVal (nCall (ok_can_be h) (hr.mono (by decide)) (h.glo 17) (kp_can_be h) (aCons (nVar 0) (aCons (nVar 3) (aCons (nVar 2) aNil))))))))) (ssOne (nRaiseJ (pj_at h.pj 0 rfl) (h.glo 18) cxX_takes (h.glo 19) (hr.mono (by decide)) (nVar 1) (nAdd (nVar 3) nInt))) ssNil))))
  (ssCons (sIf (qW (wOr (qCmp (kLt hr) (nB uLen boot_len (h.free 1) (aCons (nVar 0) aNil)) nInt) (wOr1 (qCmp (kEq hr) (nB uLen boot_len (h.free 1) (aCons (nVar 0) aNil)) nInt)))) (ssOne (nRaiseJ (pj_at h.pj 0 rfl) (h.glo 18) cxX_takes (h.glo 19) (hr.mono (by decide)) (nVar 1) (nAdd (nB uLen boot_len (h.free 1) (aCons (nVar 0) aNil)) nInt))) ssNil)
  (ssCons (sSet 4 sc_checked.nd (nTy uTuple PyProof.Rows.boot_tuple (h.free 5) (aCons (nComp [("word", 5)] rfl sc_checked.nd (blkOk_by (N := N_checked) (sc := defScope (top 14)) (by decide +kernel)) (iSeqN (nSl (nVar 0) (oSome nInt) oNone)) (fun _ _ _ _ _ => (gNameN 5 sc_checked.nd)) (fun _ _ _ _ _ => tsNil) (fun _ _ _ _ _ => (nCall (ok_number_of h) (hr.mono (by decide)) (h.glo 16) (kp_number_of h) (aCons (nVar 5) (aCons nInt (aCons (nGInt (h.int 11)) aNil)))))) aNil)))
  (ssOne (sRet (nTup (aCons (nCall (ok_number_of h) (hr.mono (by decide)) (h.glo 16) (kp_number_of h) (aCons (nIx (nVar 0) nInt) (aCons (nNeg (nGInt (h.int 15))) (aCons (nGInt (h.int 15)) aNil)))) (aCons (nVar 4) aNil)))))))))
theorem ok_checked (h : FxJ spJ fa fn cs K mg) : FunKX P w K mg base (ctOf cs K) 3 (He.ga K "checked") false 2 c_checked := by
  obtain ⟨fd, F⟩ := h.def_ 10
  exact ⟨fd, ["words", "number"], body_checked h F, F.bindsN fun _ _ _ _ _ _ us hl => match us, hl with | [_, _], _ => rfl⟩
theorem sc_read : FnScope N_read ["text"] (defScope (top 15)) := ⟨rfl, rfl, rfl, by decide +kernel, rfl, by decide +kernel, by decide +kernel⟩
theorem kp_read (h : FxJ spJ fa fn cs K mg) : PySem.W.keepIn K (.ref (He.ga K "read")) = true := by
  obtain ⟨fd, F⟩ := h.def_ 11
  exact F.kp
theorem body_read (h : FxJ spJ fa fn cs K mg) {fd : FuncData} (F : FunD K "read" "read" (defArgs (top 15)) (defBody (top 15)) (defScope (top 15)) [] [] (He.ga K "read") fd) : FnOk P w K mg base (L2.CX P w) 5 (He.ga K "read") fd ["text"] (spX ⟨K, ctOf cs K⟩ false 1 c_read) := by
  refine def_okX (n := 4) F sc_read rfl rfl (by decide) fun cd A outer s H E hr => ?_
  exact (ssCons (sSet 1 sc_read.nd (nLst aNil))
  (ssCons (sPre ([2, 3, 4], []) (sFor [2, 3, 4] cxX_passes rfl (iEnumN (h.free 12) (nSplit (nVar 0) (aCons nStr aNil))) (gTupN rfl (gsConsN (gNameN 2 sc_read.nd) (gsConsN (gNameN 3 sc_read.nd) gsNilN))) (ssCons (sSetLc 4 [("word", 5)] rfl sc_read.nd (blkOk_by (N := N_read) (sc := defScope (top 15)) (by decide +kernel)) (iSeqN (nSplit (nVar 3) (aCons nStr aNil))) (fun _ _ _ _ _ => (gNameN 5 sc_read.nd)) (fun _ _ _ _ _ => (tsOne (qCmp (kNe hr) (nVar 5) nStr))) (fun _ _ _ _ _ => (nVar 5)))
  (ssOne (sPre ([], [4]) (sExprX (nAppendX 1 (pv 1) (nCallX cxX_takes (ok_checked h) (hr.mono (by decide)) (h.glo 20) (kp_checked h) (aCons (nVar 4) (aCons (nAdd (nVar 2) nInt) aNil))))))))))
  (ssOne (sRet (nTup (aCons (nMake (ci := 0) rfl (h.mkr 21) (ok_Ground___init__ h) (hr.mono (by decide)) (h.glo 22) (aCons (nTy uTuple PyProof.Rows.boot_tuple (h.free 5) (aCons (nComp [("worth", 6), ("firsts", 7)] rfl sc_read.nd (blkOk_by (N := N_read) (sc := defScope (top 15)) (by decide +kernel)) (iSeqN (nVar 1)) (fun _ _ _ _ _ => (gTupN rfl (gsConsN (gNameN 6 sc_read.nd) (gsConsN (gNameN 7 sc_read.nd) gsNilN)))) (fun _ _ _ _ _ => tsNil) (fun _ _ _ _ _ => (nVar 7))) aNil)) aNil)) (aCons (nTy uTuple PyProof.Rows.boot_tuple (h.free 5) (aCons (nComp [("worth", 6), ("firsts", 7)] rfl sc_read.nd (blkOk_by (N := N_read) (sc := defScope (top 15)) (by decide +kernel)) (iSeqN (nVar 1)) (fun _ _ _ _ _ => (gTupN rfl (gsConsN (gNameN 6 sc_read.nd) (gsConsN (gNameN 7 sc_read.nd) gsNilN)))) (fun _ _ _ _ _ => tsNil) (fun _ _ _ _ _ => (nVar 6))) aNil)) aNil)))))))
theorem ok_read (h : FxJ spJ fa fn cs K mg) : FunKX P w K mg base (ctOf cs K) 5 (He.ga K "read") false 1 c_read := by
  obtain ⟨fd, F⟩ := h.def_ 11
  exact ⟨fd, ["text"], body_read h F, F.bindsN fun _ _ _ _ _ _ us hl => match us, hl with | [_], _ => rfl⟩
theorem sc__law_told : FnScope N__law_told ["_law_text"] (defScope (top 23)) := ⟨rfl, rfl, rfl, by decide +kernel, rfl, by decide +kernel, by decide +kernel⟩
theorem kp__law_told (h : FxJ spJ fa fn cs K mg) : PySem.W.keepIn K (.ref (He.ga K "_law_told")) = true := by
  obtain ⟨fd, F⟩ := h.def_ 12
  exact F.kp
theorem body__law_told (h : FxJ spJ fa fn cs K mg) {fd : FuncData} (F : FunD K "_law_told" "_law_told" (defArgs (top 23)) (defBody (top 23)) (defScope (top 23)) [] [] (He.ga K "_law_told") fd) : FnOk P w K mg base CX0 6 (He.ga K "_law_told") fd ["_law_text"] (spF ⟨K, ctOf cs K⟩ false 1 c__law_told) := by
  refine def_ok (n := 5) F sc__law_told rfl rfl (by decide) fun cd A outer s H E hr => ?_
  exact (ssCons (sSet 1 sc__law_told.nd nNon)
  (ssCons (sTryF (up := false) (kn := ["InvalidText"]) (L := ["InvalidText"]) 2 (fun z => nomatch z) takes_none5 (fun _ _ _ tk po => (ssOne (sExprX (nCallX tk (ok_read h) (hr.mono (by decide)) (h.glo 23) (kp_read h) (aCons (nVar 0) aNil))))) sc__law_told.nd rfl rfl (namesG (h.glo 18)) (List.forall_mem_cons.mpr ⟨(h.exm 24 : PySem.W.exmOne K (.ref (He.ga K "InvalidText")) (.ref (He.ga K "PitError")) = some true), fun y hy => nomatch hy⟩) (hfPairJ (f1 := "line") (f2 := "word") (c := "InvalidText") 2 1 (by decide) sc__law_told.nd rfl rfl (by first | exact Or.inl rfl | exact Or.inr rfl) (by decide) (by first | exact Or.inl rfl | exact Or.inr (Or.inl rfl) | exact Or.inr (Or.inr rfl)) (by first | exact Or.inl rfl | exact Or.inr rfl) (pj_at h.pj 0 rfl) (exK_ie h.ex 0 rfl (z := ("InvalidText", "InvalidText")) (by decide)) (h.free 7) (h.glo 19)))
  (ssOne (sRet (nVar 1)))))
theorem ok__law_told (h : FxJ spJ fa fn cs K mg) : FunK P w K mg base (ctOf cs K) 6 (He.ga K "_law_told") false 1 c__law_told := by
  obtain ⟨fd, F⟩ := h.def_ 12
  exact ⟨fd, ["_law_text"], body__law_told h F, F.bindsN fun _ _ _ _ _ _ us hl => match us, hl with | [_], _ => rfl⟩
theorem sc__law_number : FnScope N__law_number ["_law_word", "_law_low", "_law_high"] (defScope (top 21)) := ⟨rfl, rfl, rfl, by decide +kernel, rfl, by decide +kernel, by decide +kernel⟩
theorem kp__law_number (h : FxJ spJ fa fn cs K mg) : PySem.W.keepIn K (.ref (He.ga K "_law_number")) = true := by
  obtain ⟨fd, F⟩ := h.def_ 13
  exact F.kp
theorem body__law_number (h : FxJ spJ fa fn cs K mg) {fd : FuncData} (F : FunD K "_law_number" "_law_number" (defArgs (top 21)) (defBody (top 21)) (defScope (top 21)) [] [] (He.ga K "_law_number") fd) : FnOk P w K mg base CX0 1 (He.ga K "_law_number") fd ["_law_word", "_law_low", "_law_high"] (spF ⟨K, ctOf cs K⟩ false 3 c__law_number) := by
  refine def_ok (n := 0) F sc__law_number rfl rfl (by decide) fun cd A outer s H E hr => ?_
  exact (ssCons (sSetLc 3 [("_law_number_here", 4)] rfl sc__law_number.nd (blkOk_by (N := N__law_number) (sc := defScope (top 21)) (by decide +kernel)) (iRng2N (h.free 3) (aCons (nVar 1) (aCons (nAdd (nVar 2) nInt) aNil))) (fun _ _ _ _ _ => (gNameN 4 sc__law_number.nd)) (fun _ _ _ _ _ => (tsOne (qCmp (kEq hr) (nTy uStrI PyProof.Rows.boot_str (h.free 14) (aCons (nVar 4) aNil)) (nVar 0)))) (fun _ _ _ _ _ => (nVar 4)))
  (ssOne (sRet (nIf (qCmp (kNe hr) (nVar 3) (nLst aNil)) (nIx (nVar 3) nInt) nNon))))
theorem ok__law_number (h : FxJ spJ fa fn cs K mg) : FunK P w K mg base (ctOf cs K) 1 (He.ga K "_law_number") false 3 c__law_number := by
  obtain ⟨fd, F⟩ := h.def_ 13
  exact ⟨fd, ["_law_word", "_law_low", "_law_high"], body__law_number h F, F.bindsN fun _ _ _ _ _ _ us hl => match us, hl with | [_, _, _], _ => rfl⟩
theorem sc__law_due : FnScope N__law_due ["_law_text"] (defScope (top 22)) := ⟨rfl, rfl, rfl, by decide +kernel, rfl, by decide +kernel, by decide +kernel⟩
theorem kp__law_due (h : FxJ spJ fa fn cs K mg) : PySem.W.keepIn K (.ref (He.ga K "_law_due")) = true := by
  obtain ⟨fd, F⟩ := h.def_ 14
  exact F.kp
theorem body__law_due (h : FxJ spJ fa fn cs K mg) {fd : FuncData} (F : FunD K "_law_due" "_law_due" (defArgs (top 22)) (defBody (top 22)) (defScope (top 22)) [] [] (He.ga K "_law_due") fd) : FnOk P w K mg base CX0 2 (He.ga K "_law_due") fd ["_law_text"] (spF ⟨K, ctOf cs K⟩ false 1 c__law_due) := by
  refine def_ok (n := 1) F sc__law_due rfl rfl (by decide) fun cd A outer s H E hr => ?_
  exact (ssCons (sSet 1 sc__law_due.nd (nSplit (nVar 0) (aCons nStr aNil)))
  (ssCons (sPre ([2, 3, 4, 5, 6, 7], []) (sFor [2, 3, 4, 5, 6, 7] PassesOwn.never rfl (iRng1N (h.free 3) (aCons (nB uLen boot_len (h.free 1) (aCons (nVar 1) aNil)) aNil)) (gNameN 2 sc__law_due.nd) (ssCons (sPar2 3 4 rfl sc__law_due.nd (aCons (nComp [("_law_word", 6)] rfl sc__law_due.nd (blkOk_by (N := N__law_due) (sc := defScope (top 22)) (by decide +kernel)) (iSeqN (nSplit (nIx (nVar 1) (nVar 2)) (aCons nStr aNil))) (fun _ _ _ _ _ => (gNameN 6 sc__law_due.nd)) (fun _ _ _ _ _ => (tsOne (qCmp (kNe hr) (nVar 6) nStr))) (fun _ _ _ _ _ => (nVar 6))) (aCons nInt aNil)))
  (ssCons (sPre ([5, 6, 7], []) (sFor [5, 6, 7] PassesOwn.never rfl (iRng1N (h.free 3) (aCons (nB uLen boot_len (h.free 1) (aCons (nVar 3) aNil)) aNil)) (gNameN 5 sc__law_due.nd) (ssCons (sPar2 6 7 rfl sc__law_due.nd (aCons (nIx (nVar 3) (nVar 5)) (aCons nBl aNil)))
  (ssCons (sIf (qCmp (kLt hr) (nVar 5) nInt) (ssOne (sSet 7 sc__law_due.nd (nAnd (nCmp (kEq hr) (nVar 6) (nIx (nLst (aCons nStr (aCons (nTy uStrI PyProof.Rows.boot_str (h.free 14) (aCons (nVar 2) aNil)) (aCons nStr aNil)))) (nVar 5))) (nOne (nCmp (kLt hr) (nVar 2) nInt))))) (ssOne (sIf (qCmp (kEq hr) (nVar 5) nInt) (ssOne (sSet 7 sc__law_due.nd (nCmp (kIsNot hr) (nCall (ok__law_number h) (hr.mono (by decide)) (h.glo 25) (kp__law_number h) (aCons (nVar 6) (aCons (nNeg nInt) (aCons nInt aNil)))) nNon))) (ssOne (sIf (qCmp (kEq hr) (nVar 5) nInt) (ssOne (sSet 7 sc__law_due.nd (nAnd (nCmp (kEq hr) (nVar 6) nStr) (nOne (nCmp (kGt hr) (nVar 2) nInt))))) (ssOne (sIf (qCmp (kIsNot hr) (nCall (ok__law_number h) (hr.mono (by decide)) (h.glo 25) (kp__law_number h) (aCons (nVar 6) (aCons (nVar 4) (aCons (nSub (nVar 2) nInt) aNil)))) nNon) (ssOne (sPar2 7 4 rfl sc__law_due.nd (aCons nBl (aCons (nAdd (nCall (ok__law_number h) (hr.mono (by decide)) (h.glo 25) (kp__law_number h) (aCons (nVar 6) (aCons (nVar 4) (aCons (nSub (nVar 2) nInt) aNil)))) nInt) aNil)))) ssNil)))))))
  (ssOne (sIf (qNot (qVal (nVar 7))) (ssOne (sRet (nTup (aCons (nAdd (nVar 2) nInt) (aCons (nAdd (nVar 5) nInt) aNil))))) ssNil))))))
  (ssOne (sIf (qW (wOr (qCmp (kLt hr) (nB uLen boot_len (h.free 1) (aCons (nVar 3) aNil)) nInt) (wOr1 (qCmp (kEq hr) (nB uLen boot_len (h.free 1) (aCons (nVar 3) aNil)) nInt)))) (ssOne (sRet (nTup (aCons (nAdd (nVar 2) nInt) (aCons (nAdd (nB uLen boot_len (h.free 1) (aCons (nVar 3) aNil)) nInt) aNil))))) ssNil))))))
  (ssOne (sRet nNon))))
theorem ok__law_due (h : FxJ spJ fa fn cs K mg) : FunK P w K mg base (ctOf cs K) 2 (He.ga K "_law_due") false 1 c__law_due := by
  obtain ⟨fd, F⟩ := h.def_ 14
  exact ⟨fd, ["_law_text"], body__law_due h F, F.bindsN fun _ _ _ _ _ _ us hl => match us, hl with | [_], _ => rfl⟩
theorem sc_law : FnScope N_law ["_law_script"] (defScope (top 24)) := ⟨rfl, rfl, rfl, by decide +kernel, rfl, by decide +kernel, by decide +kernel⟩
theorem body_law (h : FxJ spJ fa fn cs K mg) {fd : FuncData} (F : FunD K "law" "law" (defArgs (top 24)) (defBody (top 24)) (defScope (top 24)) [] [] (He.ga K "law") fd) : FnOk P w K mg base CX0 7 (He.ga K "law") fd ["_law_script"] (spF ⟨K, ctOf cs K⟩ false 1 c_law) := by
  refine def_ok (n := 6) F sc_law rfl rfl (by decide) fun cd A outer s H E hr => ?_
  exact (ssCons (sSet 1 sc_law.nd (nLst (aCons (nVar 0) (aCons nInt (aCons nInt (aCons nInt aNil))))))
  (ssCons (sPre ([2, 3, 4, 5, 6, 7, 8, 9, 10, 11, 12, 13], []) (sFor [2, 3, 4, 5, 6, 7, 8, 9, 10, 11, 12, 13] PassesOwn.never rfl (iRng1N (h.free 3) (aCons nInt aNil)) (gNameN 2 sc_law.nd) (ssCons (sSet 3 sc_law.nd (nCallI (ok__law_covers h) (hr.mono (by decide)) (h.glo 26) (kp__law_covers h) (aCons (nVar 1) (aCons nInt aNil))))
  (ssCons (sPar2 4 5 rfl sc_law.nd (aCons (nCallI (ok__law_worths h) (hr.mono (by decide)) (h.glo 27) (kp__law_worths h) (aCons (nVar 1) (aCons (nB uLen boot_len (h.free 1) (aCons (nVar 3) aNil)) aNil))) (aCons (nLst aNil) aNil)))
  (ssCons (sPre ([6, 7], []) (sFor [6, 7] PassesOwn.never rfl (iRng1N (h.free 3) (aCons (nB uLen boot_len (h.free 1) (aCons (nVar 3) aNil)) aNil)) (gNameN 6 sc_law.nd) (ssCons (sSet 7 sc_law.nd (nLst (aCons nStr (aCons (nTy uStrI PyProof.Rows.boot_str (h.free 14) (aCons (nVar 6) aNil)) (aCons nStr (aCons (nTy uStrI PyProof.Rows.boot_str (h.free 14) (aCons (nIx (nVar 4) (nVar 6)) aNil)) aNil))))))
  (ssOne (sExpr (nAppend 5 (pv 5) (aCons (nAdd (nAdd (nVar 7) (nMulA (nLst (aCons nStr aNil)) (nTy uInt PyProof.Rows.boot_int (h.free 0) (aCons (nCmp (kNe hr) (nIx (nVar 3) (nVar 6)) (nTup aNil)) aNil)))) (nComp [("_law_one", 15)] rfl sc_law.nd (blkOk_by (N := N_law) (sc := defScope (top 24)) (by decide +kernel)) (iSeqN (nIx (nVar 3) (nVar 6))) (fun _ _ _ _ _ => (gNameN 15 sc_law.nd)) (fun _ _ _ _ _ => tsNil) (fun _ _ _ _ _ => (nTy uStrI PyProof.Rows.boot_str (h.free 14) (aCons (nVar 15) aNil))))) aNil)))))))
  (ssCons (sSet 8 sc_law.nd (nLst (aCons nStr (aCons nStr (aCons nStr (aCons nStr (aCons nStr (aCons nStr (aCons nStr (aCons nStr (aCons nStr (aCons nStr (aCons nStr (aCons nStr (aCons nStr (aCons nStr aNil))))))))))))))))
  (ssCons (sSet 8 sc_law.nd (nAdd (nVar 8) (nLst (aCons nStr (aCons nStr (aCons nStr (aCons nStr (aCons nStr (aCons nStr (aCons nStr (aCons nStr (aCons nStr (aCons nStr aNil)))))))))))))
  (ssCons (sPre ([9, 10, 11, 12], []) (sFor [9, 10, 11, 12] PassesOwn.never rfl (iRng1N (h.free 3) (aCons (nAdd nInt (nCallI (ok__law_taken h) (hr.mono (by decide)) (h.glo 2) (kp__law_taken h) (aCons (nVar 1) (aCons nInt aNil)))) aNil)) (gNameN 9 sc_law.nd) (ssCons (sPar2 10 11 rfl sc_law.nd (aCons (nCallI (ok__law_taken h) (hr.mono (by decide)) (h.glo 2) (kp__law_taken h) (aCons (nVar 1) (aCons (nB uLen boot_len (h.free 1) (aCons (nVar 5) aNil)) aNil))) (aCons (nCallI (ok__law_taken h) (hr.mono (by decide)) (h.glo 2) (kp__law_taken h) (aCons (nVar 1) (aCons nInt aNil))) aNil)))
  (ssCons (sSet 12 sc_law.nd (nCallI (ok__law_taken h) (hr.mono (by decide)) (h.glo 2) (kp__law_taken h) (aCons (nVar 1) (aCons (nAdd (nB uLen boot_len (h.free 1) (aCons (nIx (nVar 5) (nVar 10)) aNil)) nInt) aNil))))
  (ssOne (sIf (qCmp (kEq hr) (nVar 11) nInt) (ssOne (sSto 5 (pv 5) (nVar 10) (nAdd (nSl (nIx (nVar 5) (nVar 10)) oNone (oSome (nVar 12))) (nSl (nIx (nVar 5) (nVar 10)) (oSome (nAdd (nVar 12) nInt)) oNone)))) (ssOne (sIf (qCmp (kEq hr) (nVar 11) nInt) (ssOne (sSto 5 (pv 5) (nVar 10) (nAdd (nAdd (nSl (nIx (nVar 5) (nVar 10)) oNone (oSome (nVar 12))) (nLst (aCons (nCallI (ok__law_pick h) (hr.mono (by decide)) (h.glo 28) (kp__law_pick h) (aCons (nVar 1) (aCons (nVar 8) aNil))) aNil))) (nSl (nIx (nVar 5) (nVar 10)) (oSome (nVar 12)) oNone)))) (ssOne (sIf (qCmp (kEq hr) (nVar 11) nInt) (ssOne (sSto 5 (pv 5) (nVar 10) (nAdd (nAdd (nSl (nIx (nVar 5) (nVar 10)) oNone (oSome (nVar 12))) (nLst (aCons (nCallI (ok__law_pick h) (hr.mono (by decide)) (h.glo 28) (kp__law_pick h) (aCons (nVar 1) (aCons (nVar 8) aNil))) aNil))) (nSl (nIx (nVar 5) (nVar 10)) (oSome (nAdd (nVar 12) nInt)) oNone)))) (ssOne (sIf (qCmp (kEq hr) (nVar 11) nInt) (ssOne (sExpr (nInsert 5 (pv 5) (aCons (nVar 10) (aCons (nCallI (ok__law_pick h) (hr.mono (by decide)) (h.glo 28) (kp__law_pick h) (aCons (nVar 1) (aCons (nLst (aCons (nLst aNil) (aCons (nLst (aCons nStr (aCons (nTy uStrI PyProof.Rows.boot_str (h.free 14) (aCons (nVar 10) aNil)) (aCons nStr (aCons nStr aNil))))) (aCons (nTy uList PyProof.Rows.boot_list (h.free 4) (aCons (nIx (nVar 5) (nVar 10)) aNil)) aNil)))) aNil))) aNil))))) (ssOne (sExpr (nAppend 5 (pv 5) (aCons (nLst (aCons nStr (aCons (nTy uStrI PyProof.Rows.boot_str (h.free 14) (aCons (nB uLen boot_len (h.free 1) (aCons (nVar 5) aNil)) aNil)) (aCons nStr (aCons nStr aNil))))) aNil))))))))))))))))
  (ssCons (sSet 13 sc_law.nd (nJoin nStr (aCons (nComp [("_law_words", 7)] rfl sc_law.nd (blkOk_by (N := N_law) (sc := defScope (top 24)) (by decide +kernel)) (iSeqN (nVar 5)) (fun _ _ _ _ _ => (gNameN 7 sc_law.nd)) (fun _ _ _ _ _ => tsNil) (fun _ _ _ _ _ => (nJoin nStr (aCons (nVar 7) aNil)))) aNil)))
  (ssOne (sIf (qCmp (kNe hr) (nCall (ok__law_told h) (hr.mono (by decide)) (h.glo 29) (kp__law_told h) (aCons (nVar 13) aNil)) (nCall (ok__law_due h) (hr.mono (by decide)) (h.glo 30) (kp__law_due h) (aCons (nVar 13) aNil))) (ssOne (sRet nBl)) ssNil)))))))))))
  (ssCons (sSet 14 sc_law.nd (nCallI (ok__law_pick h) (hr.mono (by decide)) (h.glo 28) (kp__law_pick h) (aCons (nVar 1) (aCons (nLst (aCons nStr (aCons nStr (aCons nStr (aCons nStr (aCons nStr (aCons nStr (aCons nStr aNil)))))))) aNil))))
  (ssOne (sRet (nAnd (nCmp (kIsNot hr) (nCall (ok__law_due h) (hr.mono (by decide)) (h.glo 30) (kp__law_due h) (aCons (nVar 14) aNil)) nNon) (nOne (nCmp (kEq hr) (nCall (ok__law_told h) (hr.mono (by decide)) (h.glo 29) (kp__law_told h) (aCons (nVar 14) aNil)) (nCall (ok__law_due h) (hr.mono (by decide)) (h.glo 30) (kp__law_due h) (aCons (nVar 14) aNil))))))))))
end
end Lw

namespace Lw
open PySem Pv Tv
theorem ix0 {ns : List Int} {i s b : Int} : L2.atI (rowD ns i s b) 0 = some (flsD (ns.map .int)) := rfl
theorem ix1 {ns : List Int} {i s b : Int} : L2.atI (rowD ns i s b) 1 = some (.int i) := rfl
theorem ix2 {ns : List Int} {i s b : Int} : L2.atI (rowD ns i s b) 2 = some (.int s) := rfl
theorem ix3 {ns : List Int} {i s b : Int} : L2.atI (rowD ns i s b) 3 = some (.int b) := rfl
theorem n1 {ns : List Int} {i s b : Int} : L2.ixN (rowD ns i s b).length 1 = some 1 := rfl
theorem n2 {ns : List Int} {i s b : Int} : L2.ixN (rowD ns i s b).length 2 = some 2 := rfl
theorem n3 {ns : List Int} {i s b : Int} : L2.ixN (rowD ns i s b).length 3 = some 3 := rfl
theorem s1 {ns : List Int} {i s b x : Int} : (rowD ns i s b).set 1 (.int x) = rowD ns x s b := rfl
theorem s2 {ns : List Int} {i s b x : Int} : (rowD ns i s b).set 2 (.int x) = rowD ns i x b := rfl
theorem s3 {ns : List Int} {i s b x : Int} : (rowD ns i s b).set 3 (.int x) = rowD ns i s x := rfl
theorem atI_nat {α : Type} {xs : List α} {i : Int} (h0 : 0 ≤ i) (h1 : i < xs.length) : L2.atI xs i = xs[i.toNat]? := by
  unfold L2.atI L2.ixN
  rw [if_pos h0, if_pos (by omega)]
  rfl
theorem e_taken {ns : List Int} {i s b m : Int} (hi : 0 ≤ i) (hm : 0 < m) (hm2 : m < 1000000000) :
    ∃ r i' s' b', c__law_taken [.own (.lst (rowD ns i s b)), .val (.int m)] = some (.val (.int r), .own (.lst (rowD ns i' s' b'))) ∧ 0 ≤ r ∧ r < m ∧ 0 ≤ i' := by
  have hm3 : m < 1073741824 := by omega
  by_cases h1 : 0 < b
  · refine ⟨b % m, i, s, b / m, ?_, Int.emod_nonneg _ (by omega), Int.emod_lt_of_pos _ hm, hi⟩
    simp [runB, exRet, exRetN, exSeq, exIf, exAsg, exExpr, exPass, exSto, evAnd, evOr, evNot, evIf, tvB, tvNot, tvAnd, tvOr, evIsi, evVar, evC, evBin, evUn, evCall, evCons, evNil, rdD, rdAll, tyD, isiAny, isi1, tyNames, toB, evChain, eLe, eGe, eLt, eGt, eEq, eNe, eEqB, eNeB, retS, out0, stoS, frz1, frzs, lstAt, SV.d, OB.d, c__law_taken, m__law_taken, gIx, ix3, h1, gInt, gMulA_int, gI2, cPos_ok hm, cDiv_ok hm hm3, cPos_ok (show (0:Int) < 2147483647 by decide), cDiv_ok (show (0:Int) < 7 by decide) (by decide), cMul_r (show (48271:Int).natAbs ≤ 18446744073709551615 by decide), cPow_10, n3, s3]
  · by_cases h2 : (ns.length : Int) < i + 1
    · refine ⟨(s * 48271 + 11) % 2147483647 / 7 % m, i + 1, (s * 48271 + 11) % 2147483647, b, ?_, Int.emod_nonneg _ (by omega), Int.emod_lt_of_pos _ hm, by omega⟩
      simp [runB, exRet, exRetN, exSeq, exIf, exAsg, exExpr, exPass, exSto, evAnd, evOr, evNot, evIf, tvB, tvNot, tvAnd, tvOr, evIsi, evVar, evC, evBin, evUn, evCall, evCons, evNil, rdD, rdAll, tyD, isiAny, isi1, tyNames, toB, evChain, eLe, eGe, eLt, eGt, eEq, eNe, eEqB, eNeB, retS, out0, stoS, frz1, frzs, lstAt, SV.d, OB.d, c__law_taken, m__law_taken, gIx, ix0, ix1, ix2, ix3, h1, gInt, gMulA_int, gI2, cPos_ok hm, cDiv_ok hm hm3, cPos_ok (show (0:Int) < 2147483647 by decide), cDiv_ok (show (0:Int) < 7 by decide) (by decide), cMul_r (show (48271:Int).natAbs ≤ 18446744073709551615 by decide), cPow_10, n1, n2, n3, s1, s2, s3, gLen, gAdd, h2]
    · have h4 : L2.atI (ns.map PyData.int) i = some (.int (ns.getD i.toNat 0)) := by
        rw [atI_nat hi (by simp; omega)]
        have : i.toNat < ns.length := by omega
        simp [runB, exRet, exRetN, exSeq, exIf, exAsg, exExpr, exPass, exSto, evAnd, evOr, evNot, evIf, tvB, tvNot, tvAnd, tvOr, evIsi, evVar, evC, evBin, evUn, evCall, evCons, evNil, rdD, rdAll, tyD, isiAny, isi1, tyNames, toB, evChain, eLe, eGe, eLt, eGt, eEq, eNe, eEqB, eNeB, retS, out0, stoS, frz1, frzs, lstAt, SV.d, OB.d, this]
      have h5 : i + 1 - 1 = i := by omega
      generalize ns.getD i.toNat 0 = c at h4
      by_cases h6 : (1000000000000000000 : Int) ≤ c
      · refine ⟨c % m, i + 1, (s * 48271 + c + 11) % 2147483647, c / m, ?_, Int.emod_nonneg _ (by omega), Int.emod_lt_of_pos _ hm, by omega⟩
        simp [runB, exRet, exRetN, exSeq, exIf, exAsg, exExpr, exPass, exSto, evAnd, evOr, evNot, evIf, tvB, tvNot, tvAnd, tvOr, evIsi, evVar, evC, evBin, evUn, evCall, evCons, evNil, rdD, rdAll, tyD, isiAny, isi1, tyNames, toB, evChain, eLe, eGe, eLt, eGt, eEq, eNe, eEqB, eNeB, retS, out0, stoS, frz1, frzs, lstAt, SV.d, OB.d, c__law_taken, m__law_taken, gIx, ix0, ix1, ix2, ix3, h1, gInt, gMulA_int, gI2, cPos_ok hm, cDiv_ok hm hm3, cPos_ok (show (0:Int) < 2147483647 by decide), cDiv_ok (show (0:Int) < 7 by decide) (by decide), cMul_r (show (48271:Int).natAbs ≤ 18446744073709551615 by decide), cPow_10, n1, n2, n3, s1, s2, s3, gLen, gAdd, h2, h4, h5, h6]
      · refine ⟨c % m, i + 1, (s * 48271 + c + 11) % 2147483647, b, ?_, Int.emod_nonneg _ (by omega), Int.emod_lt_of_pos _ hm, by omega⟩
        simp [runB, exRet, exRetN, exSeq, exIf, exAsg, exExpr, exPass, exSto, evAnd, evOr, evNot, evIf, tvB, tvNot, tvAnd, tvOr, evIsi, evVar, evC, evBin, evUn, evCall, evCons, evNil, rdD, rdAll, tyD, isiAny, isi1, tyNames, toB, evChain, eLe, eGe, eLt, eGt, eEq, eNe, eEqB, eNeB, retS, out0, stoS, frz1, frzs, lstAt, SV.d, OB.d, c__law_taken, m__law_taken, gIx, ix0, ix1, ix2, ix3, h1, gInt, gMulA_int, gI2, cPos_ok hm, cDiv_ok hm hm3, cPos_ok (show (0:Int) < 2147483647 by decide), cDiv_ok (show (0:Int) < 7 by decide) (by decide), cMul_r (show (48271:Int).natAbs ≤ 18446744073709551615 by decide), cPow_10, n1, n2, n3, s1, s2, s3, gLen, gAdd, h2, h4, h5, h6]
theorem cr_taken (m : Int) : CR c__law_taken (fun w => .own (row w)) [.val (eI m)] (vV eI) (takenW m) := fun w Q q => by
  obtain ⟨r, i', s', b', e, h1, h2, h3⟩ := e_taken (ns := w.ns) (i := w.i) (s := w.s) (b := w.b) w.hi q.1.1 q.1.2
  exact ⟨r, ⟨w.ns, i', s', b', h3⟩, q.2 r h1 h2, e⟩
end Lw


namespace Lw
open PySem Pv Tv
def t_l_covers (most2 : Int) : PT (List (List Int)) := fun Q => takenW 7 fun r31 => takenW most2 fun r32 => retW ((([] : (List (List Int))) : (List (List Int))), (r31 : Int), ((1 + r32) : Int), ()) fun (A3 : (List (List Int)) × Int × Int × Unit) => rangeW A3.2.2.1 fun r30 => forW (fun (block5 : Int) (s4 : (List (List Int))) Q => rangeW block5 fun r28 => compW r28 (fun (one6 : Int) Q => takenW 3 fun r29 => Q (decide (r29 = 0))) (fun (one6 : Int) Q => Q one6) fun some7 => ifW (decide (A3.2.1 = 0)) (fun Q => retW (([] : (List Int)) : (List Int)) fun some8 => Q some8) (fun Q => Q some7) fun (v9 : (List Int)) => ifW (decide (A3.2.1 = 1)) (fun Q => rgW block5 fun r26 => retW ((cutL r26 (some (-1)) none) : (List Int)) fun some10 => Q some10) (fun Q => Q v9) fun (v11 : (List Int)) => ifW (decide (A3.2.1 = 2)) (fun Q => rangeW block5 fun r22 => compW r22 (fun (one12 : Int) Q => mulW 2 one12 fun r24 => andW (fun Q => Q (decide (r24 < A3.2.2.1))) (fun Q => mulW 2 block5 fun r25 => Q (decide (A3.2.2.1 ≤ r25))) fun b23 => Q b23) (fun (one12 : Int) Q => Q one12) fun some13 => Q some13) (fun Q => Q v11) fun (v14 : (List Int)) => ifW (decide (A3.2.1 = 3)) (fun Q => compW v14 (fun (one15 : Int) Q => Q (decide ((block5 - one15) < 3))) (fun (one15 : Int) Q => Q one15) fun some16 => Q some16) (fun Q => Q v14) fun (v17 : (List Int)) => appW s4 v17 fun found18 => Q found18) r30 A3.1 fun (v19 : (List (List Int))) => Q v19
theorem tw_l_covers (most2 : Int) : CR c__law_covers (fun w => .own (row w)) [.val (eI most2)] (vV (eT (eT eI))) (t_l_covers most2) := by
  have h : WN true m__law_covers (fun (w : RW) => [some (.own (row w)), some (.val (eI most2)), none, none, none, none, none, none]) (vV (eT (eT eI))) (fun _ w => .own (row w)) _ := (nSeq (sParW (K := (fun (A3 : (List (List Int)) × Int × Int × Unit) (w : RW) => [some (.own (row w)), some (.val (eI most2)), some (.own (.lst (List.map (eT eI) A3.1))), some (.val (eI A3.2.1)), some (.val (eI A3.2.2.1)), none, none, none])) (wCons (wLst (e := (eT eI)) (f := (fun (A : Unit) => ([] : (List (List Int))))) wNil) (wCons (wCallI (rs := fun (A : Unit × Int × Unit) => [Rv.sv (.val (eI A.2.1))]) (row := row) (wCons (wPlc0 0) (wCons (wInt 7) wNil)) (fun (A : Unit × Int × Unit) => cr_taken A.2.1)) (wCons (wBin (wInt 1) (wCallI (rs := fun (A : Unit × Int × Unit) => [Rv.sv (.val (eI A.2.1))]) (row := row) (wCons (wPlc0 0) (wCons (wVar 1 eI most2) wNil)) (fun (A : Unit × Int × Unit) => cr_taken A.2.1)) (fun A B => opAdd A B)) wNil)))) (fun (A3 : (List (List Int)) × Int × Int × Unit) => (nSeq (sForW (R1 := (fun (w : RW) => [some (.own (row w)), some (.val (eI most2)), some (.own (.lst (List.map (eT eI) A3.1))), some (.val (eI A3.2.1)), some (.val (eI A3.2.2.1)), none, none, none])) (K0 := (fun (s4 : (List (List Int))) (w : RW) => [some (.own (row w)), some (.val (eI most2)), some (.own (.lst (List.map (eT eI) s4))), some (.val (eI A3.2.1)), some (.val (eI A3.2.2.1)), none, none, none])) (Kb := (fun (block5 : Int) (s4 : (List (List Int))) (w : RW) => [some (.own (row w)), some (.val (eI most2)), some (.own (.lst (List.map (eT eI) s4))), some (.val (eI A3.2.1)), some (.val (eI A3.2.2.1)), some (.val (eI block5)), none, none])) A3.1 (wRng1 (v := fun (A : Int × Unit) => A.1) (wCons (wVar 4 eI A3.2.2.1) wNil)) (fun (block5 : Int) (s4 : (List (List Int))) => (sKillK (sSeqK (sAsg (K := (fun (some7 : (List Int)) (w : RW) => [some (.own (row w)), some (.val (eI most2)), some (.own (.lst (List.map (eT eI) s4))), some (.val (eI A3.2.1)), some (.val (eI A3.2.2.1)), some (.val (eI block5)), some (.own (.lst (List.map eI some7))), none])) (wComp (R0 := (fun (w : RW) => [some (.own (row w)), some (.val (eI most2)), some (.own (.lst (List.map (eT eI) s4))), some (.val (eI A3.2.1)), some (.val (eI A3.2.2.1)), some (.val (eI block5)), none, none])) (Rb := (fun (one6 : Int) (w : RW) => [some (.own (row w)), some (.val (eI most2)), some (.own (.lst (List.map (eT eI) s4))), some (.val (eI A3.2.1)), some (.val (eI A3.2.2.1)), some (.val (eI block5)), none, some (.val (eI one6))])) (Rc := (fun (one6 : Int) (w : RW) => [some (.own (row w)), some (.val (eI most2)), some (.own (.lst (List.map (eT eI) s4))), some (.val (eI A3.2.1)), some (.val (eI A3.2.2.1)), some (.val (eI block5)), none, some (.val (eI one6))])) (e' := eI) (v := fun one6 A => A) (wRng1 (v := fun (A : Int × Unit) => A.1) (wCons (wVar 5 eI block5) wNil)) (fun one6 => (wTb (wBin (wCallI (rs := fun (A : Unit × Int × Unit) => [Rv.sv (.val (eI A.2.1))]) (row := row) (wCons (wPlc0 0) (wCons (wInt 3) wNil)) (fun (A : Unit × Int × Unit) => cr_taken A.2.1)) (wInt 0) (fun A B => (opEq (e := eI)) A B)))) (fun one6 => (wVar 7 eI one6)))) (fun (some7 : (List Int)) => (sSeqK (sIfW (wTb (wBin (wVar 3 eI A3.2.1) (wInt 0) (fun A B => (opEq (e := eI)) A B))) (sRe (K' := (fun (v9 : (List Int)) (w : RW) => [some (.own (row w)), some (.val (eI most2)), some (.own (.lst (List.map (eT eI) s4))), some (.val (eI A3.2.1)), some (.val (eI A3.2.2.1)), some (.val (eI block5)), some (.own (.lst (List.map eI v9))), none])) (fun (some8 : (List Int)) => some8) (sAsg (K := (fun (some8 : (List Int)) (w : RW) => [some (.own (row w)), some (.val (eI most2)), some (.own (.lst (List.map (eT eI) s4))), some (.val (eI A3.2.1)), some (.val (eI A3.2.2.1)), some (.val (eI block5)), some (.own (.lst (List.map eI some8))), none])) (wLst (e := eI) (f := (fun (A : Unit) => ([] : (List Int)))) wNil))) (sRe (K' := (fun (v9 : (List Int)) (w : RW) => [some (.own (row w)), some (.val (eI most2)), some (.own (.lst (List.map (eT eI) s4))), some (.val (eI A3.2.1)), some (.val (eI A3.2.2.1)), some (.val (eI block5)), some (.own (.lst (List.map eI v9))), none])) (fun (_ : Unit) => some7) sPassW)) (fun (v9 : (List Int)) => (sSeqK (sIfW (wTb (wBin (wVar 3 eI A3.2.1) (wInt 1) (fun A B => (opEq (e := eI)) A B))) (sRe (K' := (fun (v11 : (List Int)) (w : RW) => [some (.own (row w)), some (.val (eI most2)), some (.own (.lst (List.map (eT eI) s4))), some (.val (eI A3.2.1)), some (.val (eI A3.2.2.1)), some (.val (eI block5)), some (.own (.lst (List.map eI v11))), none])) (fun (some10 : (List Int)) => some10) (sAsg (K := (fun (some10 : (List Int)) (w : RW) => [some (.own (row w)), some (.val (eI most2)), some (.own (.lst (List.map (eT eI) s4))), some (.val (eI A3.2.1)), some (.val (eI A3.2.2.1)), some (.val (eI block5)), some (.own (.lst (List.map eI some10))), none])) (wSl (wUn (wVar 5 eI block5) (fun A => opLRg A)) (fun A => opSlL (e := eI) (some (-1)) none A)))) (sRe (K' := (fun (v11 : (List Int)) (w : RW) => [some (.own (row w)), some (.val (eI most2)), some (.own (.lst (List.map (eT eI) s4))), some (.val (eI A3.2.1)), some (.val (eI A3.2.2.1)), some (.val (eI block5)), some (.own (.lst (List.map eI v11))), none])) (fun (_ : Unit) => v9) sPassW)) (fun (v11 : (List Int)) => (sSeqK (sIfW (wTb (wBin (wVar 3 eI A3.2.1) (wInt 2) (fun A B => (opEq (e := eI)) A B))) (sRe (K' := (fun (v14 : (List Int)) (w : RW) => [some (.own (row w)), some (.val (eI most2)), some (.own (.lst (List.map (eT eI) s4))), some (.val (eI A3.2.1)), some (.val (eI A3.2.2.1)), some (.val (eI block5)), some (.own (.lst (List.map eI v14))), none])) (fun (some13 : (List Int)) => some13) (sAsg (K := (fun (some13 : (List Int)) (w : RW) => [some (.own (row w)), some (.val (eI most2)), some (.own (.lst (List.map (eT eI) s4))), some (.val (eI A3.2.1)), some (.val (eI A3.2.2.1)), some (.val (eI block5)), some (.own (.lst (List.map eI some13))), none])) (wComp (R0 := (fun (w : RW) => [some (.own (row w)), some (.val (eI most2)), some (.own (.lst (List.map (eT eI) s4))), some (.val (eI A3.2.1)), some (.val (eI A3.2.2.1)), some (.val (eI block5)), some (.own (.lst (List.map eI v11))), none])) (Rb := (fun (one12 : Int) (w : RW) => [some (.own (row w)), some (.val (eI most2)), some (.own (.lst (List.map (eT eI) s4))), some (.val (eI A3.2.1)), some (.val (eI A3.2.2.1)), some (.val (eI block5)), some (.own (.lst (List.map eI v11))), some (.val (eI one12))])) (Rc := (fun (one12 : Int) (w : RW) => [some (.own (row w)), some (.val (eI most2)), some (.own (.lst (List.map (eT eI) s4))), some (.val (eI A3.2.1)), some (.val (eI A3.2.2.1)), some (.val (eI block5)), some (.own (.lst (List.map eI v11))), some (.val (eI one12))])) (e' := eI) (v := fun one12 A => A) (wRng1 (v := fun (A : Int × Unit) => A.1) (wCons (wVar 5 eI block5) wNil)) (fun one12 => (wTb (wChain (wBin (wInt 2) (wVar 7 eI one12) (fun A B => opMulA A B)) (wVar 4 eI A3.2.2.1) (wBin (wInt 2) (wVar 5 eI block5) (fun A B => opMulA A B)) (fun A B => opLtI A B) (fun A B => opLeI A B)))) (fun one12 => (wVar 7 eI one12))))) (sRe (K' := (fun (v14 : (List Int)) (w : RW) => [some (.own (row w)), some (.val (eI most2)), some (.own (.lst (List.map (eT eI) s4))), some (.val (eI A3.2.1)), some (.val (eI A3.2.2.1)), some (.val (eI block5)), some (.own (.lst (List.map eI v14))), none])) (fun (_ : Unit) => v11) sPassW)) (fun (v14 : (List Int)) => (sSeqK (sIfW (wTb (wBin (wVar 3 eI A3.2.1) (wInt 3) (fun A B => (opEq (e := eI)) A B))) (sRe (K' := (fun (v17 : (List Int)) (w : RW) => [some (.own (row w)), some (.val (eI most2)), some (.own (.lst (List.map (eT eI) s4))), some (.val (eI A3.2.1)), some (.val (eI A3.2.2.1)), some (.val (eI block5)), some (.own (.lst (List.map eI v17))), none])) (fun (some16 : (List Int)) => some16) (sAsg (K := (fun (some16 : (List Int)) (w : RW) => [some (.own (row w)), some (.val (eI most2)), some (.own (.lst (List.map (eT eI) s4))), some (.val (eI A3.2.1)), some (.val (eI A3.2.2.1)), some (.val (eI block5)), some (.own (.lst (List.map eI some16))), none])) (wComp (R0 := (fun (w : RW) => [some (.own (row w)), some (.val (eI most2)), some (.own (.lst (List.map (eT eI) s4))), some (.val (eI A3.2.1)), some (.val (eI A3.2.2.1)), some (.val (eI block5)), some (.val ((eL eI) v14)), none])) (Rb := (fun (one15 : Int) (w : RW) => [some (.own (row w)), some (.val (eI most2)), some (.own (.lst (List.map (eT eI) s4))), some (.val (eI A3.2.1)), some (.val (eI A3.2.2.1)), some (.val (eI block5)), some (.val ((eL eI) v14)), some (.val (eI one15))])) (Rc := (fun (one15 : Int) (w : RW) => [some (.own (row w)), some (.val (eI most2)), some (.own (.lst (List.map (eT eI) s4))), some (.val (eI A3.2.1)), some (.val (eI A3.2.2.1)), some (.val (eI block5)), some (.val ((eL eI) v14)), some (.val (eI one15))])) (e' := eI) (v := fun one15 A => A) (wSeq (e := eI) (l := fun A => v14) (R2 := (fun (w : RW) => [some (.own (row w)), some (.val (eI most2)), some (.own (.lst (List.map (eT eI) s4))), some (.val (eI A3.2.1)), some (.val (eI A3.2.2.1)), some (.val (eI block5)), some (.val ((eL eI) v14)), none])) (wPlc 6 (.lst (List.map eI v14)))) (fun one15 => (wTb (wBin (wBin (wVar 5 eI block5) (wVar 7 eI one15) (fun A B => opSub A B)) (wInt 3) (fun A B => opLtI A B)))) (fun one15 => (wVar 7 eI one15))))) (sRe (K' := (fun (v17 : (List Int)) (w : RW) => [some (.own (row w)), some (.val (eI most2)), some (.own (.lst (List.map (eT eI) s4))), some (.val (eI A3.2.1)), some (.val (eI A3.2.2.1)), some (.val (eI block5)), some (.own (.lst (List.map eI v17))), none])) (fun (_ : Unit) => v14) sPassW)) (fun (v17 : (List Int)) => (sReK (ks := [5, 6]) (K' := (fun (s4 : (List (List Int))) (w : RW) => [some (.own (row w)), some (.val (eI most2)), some (.own (.lst (List.map (eT eI) s4))), some (.val (eI A3.2.1)), some (.val (eI A3.2.2.1)), none, none, none])) (fun (found18 : List (List Int)) => found18) (sMut (e := (eT eI)) (l := s4) (R2 := (fun (w : RW) => [some (.own (row w)), some (.val (eI most2)), some (.own (.lst (List.map (eT eI) s4))), some (.val (eI A3.2.1)), some (.val (eI A3.2.2.1)), some (.val (eI block5)), some (.own (.lst (List.map eI v17))), none])) (K := (fun (found18 : List (List Int)) (w : RW) => [some (.own (row w)), some (.val (eI most2)), some (.own (.lst (List.map (eT eI) found18))), some (.val (eI A3.2.1)), some (.val (eI A3.2.2.1)), some (.val (eI block5)), some (.own (.lst (List.map eI v17))), none])) (wCons (wCall (wCons (wPlc 6 (.lst (List.map eI v17))) wNil) (fun (A : Unit × Unit) => (opTupL (e := eI)) v17)) wNil) (fun (A : (List Int) × Unit) Q q => f_app (e := (eT eI)) A.1 Q q)))))))))))))))) (fun (v19 : (List (List Int))) => (nF (fRet (v := fun A => A) (wCall (wCons (wPlc 2 (.lst (List.map (eT eI) v19))) wNil) (fun (A : Unit × Unit) => (opTupL (e := (eT eI))) v19))))))))
  try dsimp only [retW, ifW, andW, orW] at h
  unfold t_l_covers
  try dsimp only [retW, ifW, andW, orW]
  exact crOf (nl := 8) (row := row) (fun (w : RW) => [some (.own (row w)), some (.val (eI most2)), none, none, none, none, none, none]) h
def t_l_worths (many34 : Int) : PT (List Int) := fun Q => takenW 6 fun r46 => retW ((([] : (List Int)) : (List Int)), (r46 : Int), ()) fun (A35 : (List Int) × Int × Unit) => rangeW many34 fun r45 => forW (fun (block37 : Int) (s36 : (List Int)) Q => ixW [3, 5, 9, 51, 51, 2] A35.2.1 fun r41 => takenW r41 fun r42 => ixW [3, 5, 9, 51, 4, 2] A35.2.1 fun r43 => takenW r43 fun r44 => retW ((r42 : Int), (r44 : Int), ()) fun (A38 : Int × Int × Unit) => appW s36 (A38.2.1 - A38.1) fun found39 => Q found39) r45 A35.1 fun (v40 : (List Int)) => Q v40
theorem tw_l_worths (many34 : Int) : CR c__law_worths (fun w => .own (row w)) [.val (eI many34)] (vV (eT eI)) (t_l_worths many34) := by
  have h : WN true m__law_worths (fun (w : RW) => [some (.own (row w)), some (.val (eI many34)), none, none, none, none, none]) (vV (eT eI)) (fun _ w => .own (row w)) _ := (nSeq (sParW (K := (fun (A35 : (List Int) × Int × Unit) (w : RW) => [some (.own (row w)), some (.val (eI many34)), some (.own (.lst (List.map eI A35.1))), some (.val (eI A35.2.1)), none, none, none])) (wCons (wLst (e := eI) (f := (fun (A : Unit) => ([] : (List Int)))) wNil) (wCons (wCallI (rs := fun (A : Unit × Int × Unit) => [Rv.sv (.val (eI A.2.1))]) (row := row) (wCons (wPlc0 0) (wCons (wInt 6) wNil)) (fun (A : Unit × Int × Unit) => cr_taken A.2.1)) wNil))) (fun (A35 : (List Int) × Int × Unit) => (nSeq (sForW (R1 := (fun (w : RW) => [some (.own (row w)), some (.val (eI many34)), some (.own (.lst (List.map eI A35.1))), some (.val (eI A35.2.1)), none, none, none])) (K0 := (fun (s36 : (List Int)) (w : RW) => [some (.own (row w)), some (.val (eI many34)), some (.own (.lst (List.map eI s36))), some (.val (eI A35.2.1)), none, none, none])) (Kb := (fun (block37 : Int) (s36 : (List Int)) (w : RW) => [some (.own (row w)), some (.val (eI many34)), some (.own (.lst (List.map eI s36))), some (.val (eI A35.2.1)), some (.val (eI block37)), none, none])) A35.1 (wRng1 (v := fun (A : Int × Unit) => A.1) (wCons (wVar 1 eI many34) wNil)) (fun (block37 : Int) (s36 : (List Int)) => (sKillK (sSeqK (sParW (K := (fun (A38 : Int × Int × Unit) (w : RW) => [some (.own (row w)), some (.val (eI many34)), some (.own (.lst (List.map eI s36))), some (.val (eI A35.2.1)), some (.val (eI block37)), some (.val (eI A38.1)), some (.val (eI A38.2.1))])) (wCons (wCallI (rs := fun (A : Unit × Int × Unit) => [Rv.sv (.val (eI A.2.1))]) (row := row) (wCons (wPlc0 0) (wCons (wBin (wLst (e := eI) (f := (fun (A : Int × Int × Int × Int × Int × Int × Unit) => [A.1, A.2.1, A.2.2.1, A.2.2.2.1, A.2.2.2.2.1, A.2.2.2.2.2.1])) (wCons (wInt 3) (wCons (wInt 5) (wCons (wInt 9) (wCons (wInt 51) (wCons (wInt 51) (wCons (wInt 2) wNil))))))) (wVar 3 eI A35.2.1) (fun A B => (opIxL (e := eI)) A B)) wNil)) (fun (A : Unit × Int × Unit) => cr_taken A.2.1)) (wCons (wCallI (rs := fun (A : Unit × Int × Unit) => [Rv.sv (.val (eI A.2.1))]) (row := row) (wCons (wPlc0 0) (wCons (wBin (wLst (e := eI) (f := (fun (A : Int × Int × Int × Int × Int × Int × Unit) => [A.1, A.2.1, A.2.2.1, A.2.2.2.1, A.2.2.2.2.1, A.2.2.2.2.2.1])) (wCons (wInt 3) (wCons (wInt 5) (wCons (wInt 9) (wCons (wInt 51) (wCons (wInt 4) (wCons (wInt 2) wNil))))))) (wVar 3 eI A35.2.1) (fun A B => (opIxL (e := eI)) A B)) wNil)) (fun (A : Unit × Int × Unit) => cr_taken A.2.1)) wNil))) (fun (A38 : Int × Int × Unit) => (sReK (ks := [4, 5, 6]) (K' := (fun (s36 : (List Int)) (w : RW) => [some (.own (row w)), some (.val (eI many34)), some (.own (.lst (List.map eI s36))), some (.val (eI A35.2.1)), none, none, none])) (fun (found39 : List Int) => found39) (sMut (e := eI) (l := s36) (R2 := (fun (w : RW) => [some (.own (row w)), some (.val (eI many34)), some (.own (.lst (List.map eI s36))), some (.val (eI A35.2.1)), some (.val (eI block37)), some (.val (eI A38.1)), some (.val (eI A38.2.1))])) (K := (fun (found39 : List Int) (w : RW) => [some (.own (row w)), some (.val (eI many34)), some (.own (.lst (List.map eI found39))), some (.val (eI A35.2.1)), some (.val (eI block37)), some (.val (eI A38.1)), some (.val (eI A38.2.1))])) (wCons (wBin (wVar 6 eI A38.2.1) (wVar 5 eI A38.1) (fun A B => opSub A B)) wNil) (fun (A : Int × Unit) Q q => f_app (e := eI) A.1 Q q)))))))) (fun (v40 : (List Int)) => (nF (fRet (v := fun A => A) (wCall (wCons (wPlc 2 (.lst (List.map eI v40))) wNil) (fun (A : Unit × Unit) => (opTupL (e := eI)) v40))))))))
  try dsimp only [retW, ifW, andW, orW] at h
  unfold t_l_worths
  try dsimp only [retW, ifW, andW, orW]
  exact crOf (nl := 7) (row := row) (fun (w : RW) => [some (.own (row w)), some (.val (eI many34)), none, none, none, none, none]) h
def t_l_pick (things61 : (List Str)) : PT Str := fun Q => takenW (things61.length : Int) fun r62 => ixW things61 r62 fun r63 => Q r63
theorem tw_l_pick (things61 : (List Str)) : CR c__law_pick (fun w => .own (row w)) [.val ((eL eS) things61)] (vV eS) (t_l_pick things61) := by
  have h : WN true m__law_pick (fun (w : RW) => [some (.own (row w)), some (.val ((eL eS) things61))]) (vV eS) (fun _ w => .own (row w)) _ := (nF (fRet (v := fun A => A) (wBin (wVar 1 (eL eS) things61) (wCallI (rs := fun (A : Unit × Int × Unit) => [Rv.sv (.val (eI A.2.1))]) (row := row) (wCons (wPlc0 0) (wCons (wCall (wCons (wVar 1 (eL eS) things61) wNil) (fun (A : (List Str) × Unit) => (opLenL (e := eS)) A.1)) wNil)) (fun (A : Unit × Int × Unit) => cr_taken A.2.1)) (fun A B => (opIxL (e := eS)) A B))))
  try dsimp only [retW, ifW, andW, orW] at h
  unfold t_l_pick
  try dsimp only [retW, ifW, andW, orW]
  exact crOf (nl := 2) (row := row) (fun (w : RW) => [some (.own (row w)), some (.val ((eL eS) things61))]) h
def t_l_pick_2 (things66 : (List (List Str))) : PT (List Str) := fun Q => takenW (things66.length : Int) fun r67 => ixW things66 r67 fun r68 => Q r68
theorem tw_l_pick_2 (things66 : (List (List Str))) : CR c__law_pick (fun w => .own (row w)) [.own (.lst (List.map (eL eS) things66))] (vV (eL eS)) (t_l_pick_2 things66) := by
  have h : WN true m__law_pick (fun (w : RW) => [some (.own (row w)), some (.own (.lst (List.map (eL eS) things66)))]) (vV (eL eS)) (fun _ w => .own (row w)) _ := (nF (fRet (v := fun A => A) (wBin (wPlc 1 (.lst (List.map (eL eS) things66))) (wCallI (rs := fun (A : Unit × Int × Unit) => [Rv.sv (.val (eI A.2.1))]) (row := row) (wCons (wPlc0 0) (wCons (wCall (wCons (wPlc 1 (.lst (List.map (eL eS) things66))) wNil) (fun (A : Unit × Unit) => (opLenL (e := (eL eS))) things66)) wNil)) (fun (A : Unit × Int × Unit) => cr_taken A.2.1)) (fun A B => (opIxL (e := (eL eS))) things66 B))))
  try dsimp only [retW, ifW, andW, orW] at h
  unfold t_l_pick_2
  try dsimp only [retW, ifW, andW, orW]
  exact crOf (nl := 2) (row := row) (fun (w : RW) => [some (.own (row w)), some (.own (.lst (List.map (eL eS) things66)))]) h
def t_number_of (word95 : Str) (low96 : Int) (high97 : Int) : PT (Option Int) := fun Q => range2W low96 (high97 + 1) fun r103 => compW r103 (fun (number98 : Int) Q => strW number98 fun r104 => Q (decide (r104 = word95))) (fun (number98 : Int) Q => Q number98) fun some99 => ifW (!decide (some99 = ([] : (List Int)))) (fun Q => ixW some99 0 fun r101 => Q (some r101)) (fun Q => Q none) fun r100 => Q r100
theorem tw_number_of (word95 : Str) (low96 : Int) (high97 : Int) : CW c_number_of [.val (eS word95), .val (eI low96), .val (eI high97)] (vV (eO eI)) (t_number_of word95 low96 high97) := by
  have h : WN false m_number_of (fun (w : Unit) => [some (.val (eS word95)), some (.val (eI low96)), some (.val (eI high97)), none, none]) (vV (eO eI)) (fun _ _ => .val .none) _ := (nSeq (sAsg (K := (fun (some99 : (List Int)) (w : Unit) => [some (.val (eS word95)), some (.val (eI low96)), some (.val (eI high97)), some (.own (.lst (List.map eI some99))), none])) (wComp (R0 := (fun (w : Unit) => [some (.val (eS word95)), some (.val (eI low96)), some (.val (eI high97)), none, none])) (Rb := (fun (number98 : Int) (w : Unit) => [some (.val (eS word95)), some (.val (eI low96)), some (.val (eI high97)), none, some (.val (eI number98))])) (Rc := (fun (number98 : Int) (w : Unit) => [some (.val (eS word95)), some (.val (eI low96)), some (.val (eI high97)), none, some (.val (eI number98))])) (e' := eI) (v := fun number98 A => A) (wRng2 (v := fun (A : Int × Int × Unit) => A.1) (u := fun (A : Int × Int × Unit) => A.2.1) (wCons (wVar 1 eI low96) (wCons (wBin (wVar 2 eI high97) (wInt 1) (fun A B => opAdd A B)) wNil))) (fun number98 => (wTb (wBin (wCall (wCons (wVar 4 eI number98) wNil) (fun (A : Int × Unit) => opStrI A.1)) (wVar 0 eS word95) (fun A B => (opEq (e := eS)) A B)))) (fun number98 => (wVar 4 eI number98)))) (fun (some99 : (List Int)) => (nF (fRet (v := fun A => A) (wIf (wTb (wBin (wPlc 3 (.lst (List.map eI some99))) (wLst (e := eI) (f := (fun (A : Unit) => ([] : (List Int)))) wNil) (fun A B => (opNe (e := (eL eI))) some99 B))) (wSome (wBin (wPlc 3 (.lst (List.map eI some99))) (wInt 0) (fun A B => (opIxL (e := eI)) some99 B))) (wNone (e := eI) wNon))))))
  try dsimp only [retW, ifW, andW, orW] at h
  unfold t_number_of
  try dsimp only [retW, ifW, andW, orW]
  exact cwOf (nl := 5) (fun (w : Unit) => [some (.val (eS word95)), some (.val (eI low96)), some (.val (eI high97)), none, none]) h
def t_can_be (words91 : (List Str)) (at92 : Int) (block93 : Int) : PT Bool := fun Q => ixW words91 at92 fun word94 => if (decide (at92 < 4)) = true then t_number_of word94 (-50) 50 fun r108 => retW ((!r108.isNone) : Bool) fun is_worth105 => strW block93 fun r106 => ixW [(decide (word94 = ("block" : Str))), (decide (word94 = r106)), (decide (word94 = ("worth" : Str))), is_worth105] at92 fun r107 => Q r107 else if (decide (at92 = 4)) = true then Q ((decide (word94 = ("needs" : Str))) && (decide (0 < block93))) else ifW (decide (5 < at92)) (fun Q => ixW words91 (at92 - 1) fun r113 => t_number_of r113 0 block93 fun r112 => unO r112 fun r114 => Q (r114 + 1)) (fun Q => Q 0) fun least109 => t_number_of word94 least109 (block93 - 1) fun r110 => Q (!r110.isNone)
theorem tw_can_be (words91 : (List Str)) (at92 : Int) (block93 : Int) : CW c_can_be [.val ((eL eS) words91), .val (eI at92), .val (eI block93)] (vV eB) (t_can_be words91 at92 block93) := by
  have h : WN false m_can_be (fun (w : Unit) => [some (.val ((eL eS) words91)), some (.val (eI at92)), some (.val (eI block93)), none, none, none]) (vV eB) (fun _ _ => .val .none) _ := (nSeq (sAsg (K := (fun (word94 : Str) (w : Unit) => [some (.val ((eL eS) words91)), some (.val (eI at92)), some (.val (eI block93)), some (.val (eS word94)), none, none])) (wBin (wVar 0 (eL eS) words91) (wVar 1 eI at92) (fun A B => (opIxL (e := eS)) A B))) (fun (word94 : Str) => (nIfRet (wTb (wBin (wVar 1 eI at92) (wInt 4) (fun A B => opLtI A B))) (fSeq (sAsg (K := (fun (is_worth105 : Bool) (w : Unit) => [some (.val ((eL eS) words91)), some (.val (eI at92)), some (.val (eI block93)), some (.val (eS word94)), some (.val (eB is_worth105)), none])) (wBin (wCallV (wCons (wVar 3 eS word94) (wCons (wUn (wInt 50) (fun A => opNeg A)) (wCons (wInt 50) wNil))) (fun (A : Str × Int × Int × Unit) => tw_number_of A.1 A.2.1 A.2.2.1)) wNon (fun A B => (opIsNot (e := eI)) A B))) (fun (is_worth105 : Bool) => (fRet (v := fun A => A) (wBin (wLst (e := eB) (f := (fun (A : Bool × Bool × Bool × Bool × Unit) => [A.1, A.2.1, A.2.2.1, A.2.2.2.1])) (wCons (wBin (wVar 3 eS word94) (wStr "block") (fun A B => (opEq (e := eS)) A B)) (wCons (wBin (wVar 3 eS word94) (wCall (wCons (wVar 2 eI block93) wNil) (fun (A : Int × Unit) => opStrI A.1)) (fun A B => (opEq (e := eS)) A B)) (wCons (wBin (wVar 3 eS word94) (wStr "worth") (fun A B => (opEq (e := eS)) A B)) (wCons (wVar 4 eB is_worth105) wNil))))) (wVar 1 eI at92) (fun A B => (opIxL (e := eB)) A B))))) sPassW (fun _ => (nIfRet (wTb (wBin (wVar 1 eI at92) (wInt 4) (fun A B => (opEq (e := eI)) A B))) (fRet (v := fun A => A) (wAnd2 (wBin (wVar 3 eS word94) (wStr "needs") (fun A B => (opEq (e := eS)) A B)) (wBin (wVar 2 eI block93) (wInt 0) (fun A B => opGtI A B)))) sPassW (fun _ => (nSeq (sAsg (K := (fun (least109 : Int) (w : Unit) => [some (.val ((eL eS) words91)), some (.val (eI at92)), some (.val (eI block93)), some (.val (eS word94)), none, some (.val (eI least109))])) (wIf (wTb (wBin (wVar 1 eI at92) (wInt 5) (fun A B => opGtI A B))) (wBin (wUnO (wCallV (wCons (wBin (wVar 0 (eL eS) words91) (wBin (wVar 1 eI at92) (wInt 1) (fun A B => opSub A B)) (fun A B => (opIxL (e := eS)) A B)) (wCons (wInt 0) (wCons (wVar 2 eI block93) wNil))) (fun (A : Str × Int × Int × Unit) => tw_number_of A.1 A.2.1 A.2.2.1))) (wInt 1) (fun A B => opAdd A B)) (wInt 0))) (fun (least109 : Int) => (nF (fRet (v := fun A => A) (wBin (wCallV (wCons (wVar 3 eS word94) (wCons (wVar 5 eI least109) (wCons (wBin (wVar 2 eI block93) (wInt 1) (fun A B => opSub A B)) wNil))) (fun (A : Str × Int × Int × Unit) => tw_number_of A.1 A.2.1 A.2.2.1)) wNon (fun A B => (opIsNot (e := eI)) A B))))))))))))
  try dsimp only [retW, ifW, andW, orW] at h
  unfold t_can_be
  try dsimp only [retW, ifW, andW, orW]
  exact cwOf (nl := 6) (fun (w : Unit) => [some (.val ((eL eS) words91)), some (.val (eI at92)), some (.val (eI block93)), none, none, none]) h
def t_checked (words86 : (List Str)) (number87 : Int) : PT ((Int × (List Int)) ⊕ Xp) := fun Q => retW ((number87 - 1) : Int) fun block88 => rangeW (words86.length : Int) fun r127 => forR (fun (at90 : Int) (s89 : Unit) Q => orW (fun Q => Q (decide (block88 = 10))) (fun Q => t_can_be words86 at90 block88 fun r117 => Q (!r117)) fun b116 => if b116 = true then Q (.ret (Sum.inr (("InvalidText" : Str), [(("word" : Str), eI (at90 + 1)), (("line" : Str), eI number87)]))) else Q (.go ())) r127 () fun r => thenW (fun (v118 : Unit) Q => if ((decide ((words86.length : Int) < 4)) || (decide ((words86.length : Int) = 5))) = true then Q (Sum.inr (("InvalidText" : Str), [(("word" : Str), eI ((words86.length : Int) + 1)), (("line" : Str), eI number87)])) else mapW (cutL words86 (some 5) none) (fun (word119 : Str) Q => t_number_of word119 0 10 fun r125 => unO r125 fun r126 => Q r126) fun firsts120 => ixW words86 3 fun r122 => t_number_of r122 (-50) 50 fun r121 => unO r121 fun r123 => Q (Sum.inl ((r123, firsts120)))) r Q
theorem tw_checked (words86 : (List Str)) (number87 : Int) : CW c_checked [.val ((eL eS) words86), .val (eI number87)] (vM (vV (eP eI (eT eI)))) (t_checked words86 number87) := by
  have h : WN false m_checked (fun (w : Unit) => [some (.val ((eL eS) words86)), some (.val (eI number87)), none, none, none, none]) (vM (vV (eP eI (eT eI)))) (fun _ _ => .val .none) _ := (nSeq (sAsg (K := (fun (block88 : Int) (w : Unit) => [some (.val ((eL eS) words86)), some (.val (eI number87)), some (.val (eI block88)), none, none, none])) (wBin (wVar 1 eI number87) (wInt 1) (fun A B => opSub A B))) (fun (block88 : Int) => (nForR (R1 := (fun (w : Unit) => [some (.val ((eL eS) words86)), some (.val (eI number87)), some (.val (eI block88)), none, none, none])) (K0 := (fun (s89 : Unit) (w : Unit) => [some (.val ((eL eS) words86)), some (.val (eI number87)), some (.val (eI block88)), none, none, none])) (Kb := (fun (at90 : Int) (s89 : Unit) (w : Unit) => [some (.val ((eL eS) words86)), some (.val (eI number87)), some (.val (eI block88)), some (.val (eI at90)), none, none])) () (wRng1 (v := fun (A : Int × Unit) => A.1) (wCons (wCall (wCons (wVar 0 (eL eS) words86) wNil) (fun (A : (List Str) × Unit) => (opLenL (e := eS)) A.1)) wNil)) (fun (at90 : Int) (s89 : Unit) => (lKill (ks := [3]) (lIf (wTOr (wTb (wBin (wVar 2 eI block88) (wInt 10) (fun A B => (opEq (e := eI)) A B))) (wTNot (wTb (wCallV (wCons (wVar 0 (eL eS) words86) (wCons (wVar 3 eI at90) (wCons (wVar 2 eI block88) wNil))) (fun (A : (List Str) × Int × Int × Unit) => tw_can_be A.1 A.2.1 A.2.2.1))))) (lF (fRaiseP (f1 := "line") (f2 := "word") (e1 := eI) (e2 := eI) (wVar 1 eI number87) (fun (_ : Int) => (wBin (wVar 3 eI at90) (wInt 1) (fun A B => opAdd A B))))) (lS (f := fun (_ : Unit) => ()) sPassW)))) (fun (v118 : Unit) => (nIfRet (wTOr2 (wTb (wBin (wCall (wCons (wVar 0 (eL eS) words86) wNil) (fun (A : (List Str) × Unit) => (opLenL (e := eS)) A.1)) (wInt 4) (fun A B => opLtI A B))) (wTb (wBin (wCall (wCons (wVar 0 (eL eS) words86) wNil) (fun (A : (List Str) × Unit) => (opLenL (e := eS)) A.1)) (wInt 5) (fun A B => (opEq (e := eI)) A B)))) (fRaiseP (f1 := "line") (f2 := "word") (e1 := eI) (e2 := eI) (wVar 1 eI number87) (fun (_ : Int) => (wBin (wCall (wCons (wVar 0 (eL eS) words86) wNil) (fun (A : (List Str) × Unit) => (opLenL (e := eS)) A.1)) (wInt 1) (fun A B => opAdd A B)))) sPassW (fun _ => (nSeq (sAsg (K := (fun (firsts120 : (List Int)) (w : Unit) => [some (.val ((eL eS) words86)), some (.val (eI number87)), some (.val (eI block88)), none, some (.val ((eT eI) firsts120)), none])) (wCall (wCons (wMap (R0 := (fun (w : Unit) => [some (.val ((eL eS) words86)), some (.val (eI number87)), some (.val (eI block88)), none, none, none])) (Rb := (fun (word119 : Str) (w : Unit) => [some (.val ((eL eS) words86)), some (.val (eI number87)), some (.val (eI block88)), none, none, some (.val (eS word119))])) (Rc := (fun (word119 : Str) (w : Unit) => [some (.val ((eL eS) words86)), some (.val (eI number87)), some (.val (eI block88)), none, none, some (.val (eS word119))])) (e' := eI) (v := fun word119 A => A) (wSeq (e := eS) (l := fun A => A) (wSl (wVar 0 (eL eS) words86) (fun A => opSlL (e := eS) (some 5) none A))) (fun word119 => (wUnO (wCallV (wCons (wVar 5 eS word119) (wCons (wInt 0) (wCons (wInt 10) wNil))) (fun (A : Str × Int × Int × Unit) => tw_number_of A.1 A.2.1 A.2.2.1))))) wNil) (fun (A : (List Int) × Unit) => (opTupL (e := eI)) A.1))) (fun (firsts120 : (List Int)) => (nF (fInlJ (fRet (v := fun A => A) (wTup (e := (eP eI (eT eI))) (f := (fun (A : Int × (List Int) × Unit) => (A.1, A.2.1))) (wCons (wUnO (wCallV (wCons (wBin (wVar 0 (eL eS) words86) (wInt 3) (fun A B => (opIxL (e := eS)) A B)) (wCons (wUn (wInt 50) (fun A => opNeg A)) (wCons (wInt 50) wNil))) (fun (A : Str × Int × Int × Unit) => tw_number_of A.1 A.2.1 A.2.2.1))) (wCons (wVar 4 (eT eI) firsts120) wNil)) (fun _ => rfl)))))))))))))
  try dsimp only [retW, ifW, andW, orW] at h
  unfold t_checked
  try dsimp only [retW, ifW, andW, orW]
  exact cwOf (nl := 6) (fun (w : Unit) => [some (.val ((eL eS) words86)), some (.val (eI number87)), none, none, none, none]) h
def t_is_from (value140 : Int) (low141 : Int) (high142 : Int) : PT Bool := fun Q => Q (decide (low141 ≤ value140) && decide (value140 ≤ high142))
theorem tw_is_from (value140 : Int) (low141 : Int) (high142 : Int) : CW c_is_from [.val (eI value140), .val (eI low141), .val (eI high142)] (vV eB) (t_is_from value140 low141 high142) := by
  have h : WN false m_is_from (fun (w : Unit) => [some (.val (eI value140)), some (.val (eI low141)), some (.val (eI high142))]) (vV eB) (fun _ _ => .val .none) _ := (nF (fRet (v := fun A => A) (wAndT (wIsi (b := true) (d1 := fun A => eI A) (wVar 0 eI value140)) (wAndT (wNot (wIsi (b := false) (d1 := fun A => eI A) (wVar 0 eI value140))) (wChain2 (wVar 1 eI low141) (wVar 0 eI value140) (wVar 2 eI high142) (fun A B => opLeI A B) (fun A B => opLeI A B))))))
  try dsimp only [retW, ifW, andW, orW] at h
  unfold t_is_from
  try dsimp only [retW, ifW, andW, orW]
  exact cwOf (nl := 3) (fun (w : Unit) => [some (.val (eI value140)), some (.val (eI low141)), some (.val (eI high142))]) h
def t_rises (value143 : (List Int)) : PT Bool := fun Q => range2W 1 (value143.length : Int) fun r146 => mapW r146 (fun (at144 : Int) Q => ixW value143 (at144 - 1) fun r147 => ixW value143 at144 fun r148 => Q (decide (r147 < r148))) fun l145 => Q ((l145).all id)
theorem tw_rises (value143 : (List Int)) : CW c_rises [.val ((eT eI) value143)] (vV eB) (t_rises value143) := by
  have h : WN false m_rises (fun (w : Unit) => [some (.val ((eT eI) value143)), none]) (vV eB) (fun _ _ => .val .none) _ := (nF (fRet (v := fun A => A) (wCall (wCons (wMap (R0 := (fun (w : Unit) => [some (.val ((eT eI) value143)), none])) (Rb := (fun (at144 : Int) (w : Unit) => [some (.val ((eT eI) value143)), some (.val (eI at144))])) (Rc := (fun (at144 : Int) (w : Unit) => [some (.val ((eT eI) value143)), some (.val (eI at144))])) (e' := eB) (v := fun at144 A => A) (wRng2 (v := fun (A : Int × Int × Unit) => A.1) (u := fun (A : Int × Int × Unit) => A.2.1) (wCons (wInt 1) (wCons (wCall (wCons (wVar 0 (eT eI) value143) wNil) (fun (A : (List Int) × Unit) => (opLenT (e := eI)) A.1)) wNil))) (fun at144 => (wBin (wBin (wVar 0 (eT eI) value143) (wBin (wVar 1 eI at144) (wInt 1) (fun A B => opSub A B)) (fun A B => (opIxT (e := eI)) A B)) (wBin (wVar 0 (eT eI) value143) (wVar 1 eI at144) (fun A B => (opIxT (e := eI)) A B)) (fun A B => opLtI A B)))) wNil) (fun (A : (List Bool) × Unit) => opAll A.1))))
  try dsimp only [retW, ifW, andW, orW] at h
  unfold t_rises
  try dsimp only [retW, ifW, andW, orW]
  exact cwOf (nl := 2) (fun (w : Unit) => [some (.val ((eT eI) value143)), none]) h
def t_is_cover (value137 : (List Int)) (block138 : Int) : PT Bool := fun Q => andW (fun Q => mapW value137 (fun (one139 : Int) Q => t_is_from one139 0 (block138 - 1) fun r151 => Q r151) fun l150 => Q ((l150).all id)) (fun Q => t_rises value137 fun r152 => Q r152) fun b149 => Q b149
theorem tw_is_cover (value137 : (List Int)) (block138 : Int) : CW c_is_cover [.val ((eT eI) value137), .val (eI block138)] (vV eB) (t_is_cover value137 block138) := by
  have h : WN false m_is_cover (fun (w : Unit) => [some (.val ((eT eI) value137)), some (.val (eI block138)), none]) (vV eB) (fun _ _ => .val .none) _ := (nF (fRet (v := fun A => A) (wAndT (wIsi (b := true) (d1 := fun A => (eT eI) A) (wVar 0 (eT eI) value137)) (wAnd (wCall (wCons (wMap (R0 := (fun (w : Unit) => [some (.val ((eT eI) value137)), some (.val (eI block138)), none])) (Rb := (fun (one139 : Int) (w : Unit) => [some (.val ((eT eI) value137)), some (.val (eI block138)), some (.val (eI one139))])) (Rc := (fun (one139 : Int) (w : Unit) => [some (.val ((eT eI) value137)), some (.val (eI block138)), some (.val (eI one139))])) (e' := eB) (v := fun one139 A => A) (wSeq (e := eI) (l := fun A => A) (wVar 0 (eT eI) value137)) (fun one139 => (wCallV (wCons (wVar 2 eI one139) (wCons (wInt 0) (wCons (wBin (wVar 1 eI block138) (wInt 1) (fun A B => opSub A B)) wNil))) (fun (A : Int × Int × Int × Unit) => tw_is_from A.1 A.2.1 A.2.2.1)))) wNil) (fun (A : (List Bool) × Unit) => opAll A.1)) (wCallV (wCons (wVar 0 (eT eI) value137) wNil) (fun (A : (List Int) × Unit) => tw_rises A.1))))))
  try dsimp only [retW, ifW, andW, orW] at h
  unfold t_is_cover
  try dsimp only [retW, ifW, andW, orW]
  exact cwOf (nl := 3) (fun (w : Unit) => [some (.val ((eT eI) value137)), some (.val (eI block138)), none]) h
def eC_Ground (A : (List (List Int))) : D := objD 0 [(eT (eT eI)) A]
instance : NN eC_Ground := ⟨fun _ h => nomatch h⟩
def t_Ground___init__ (covers134 : (List (List Int))) : PT (List (List Int)) := fun Q => (!(decide (1 ≤ (covers134.length : Int)) && decide ((covers134.length : Int) ≤ 10))) = false ∧ (forW (fun (p136 : (Int × (List Int))) (s135 : Unit) Q => t_is_cover p136.2 p136.1 fun r155 => (!r155) = false ∧ (Q ())) (enumL covers134) () fun (v153 : Unit) => retW (covers134 : (List (List Int))) fun table154 => Q table154)
theorem tw_Ground___init__ (covers134 : (List (List Int))) : CIn c_Ground___init__ 0 [.val ((eT (eT eI)) covers134)] (fun (A : (List (List Int))) => [(eT (eT eI)) A]) (t_Ground___init__ covers134) := by
  have h : WN true m_Ground___init__ (fun (w : Unit) => [some (.own (.ins 0 [])), some (.val ((eT (eT eI)) covers134)), none, none]) (fun _ => .val .none) (fun a _ => .own (.ins 0 ((fun (A : (List (List Int))) => [(eT (eT eI)) A]) a))) _ := (nSeq (sIfBad (wTOrF (wTNot (wTb (wIsi (b := true) (d1 := fun A => (eT (eT eI)) A) (wVar 1 (eT (eT eI)) covers134)))) (wTNot (wTb (wChain2 (wInt 1) (wCall (wCons (wVar 1 (eT (eT eI)) covers134) wNil) (fun (A : (List (List Int)) × Unit) => (opLenT (e := (eT eI))) A.1)) (wInt 10) (fun A B => opLeI A B) (fun A B => opLeI A B))))) sPassW) (fun (_ : Unit) => (nSeq (sForW (R1 := (fun (w : Unit) => [some (.own (.ins 0 [])), some (.val ((eT (eT eI)) covers134)), none, none])) (K0 := (fun (s135 : Unit) (w : Unit) => [some (.own (.ins 0 [])), some (.val ((eT (eT eI)) covers134)), none, none])) (Kb := (fun (p136 : (Int × (List Int))) (s135 : Unit) (w : Unit) => [some (.own (.ins 0 [])), some (.val ((eT (eT eI)) covers134)), some (.val (eI p136.1)), some (.val ((eT eI) p136.2))])) () (wEnum (e := (eT eI)) (l := fun A => A) (wVar 1 (eT (eT eI)) covers134)) (fun (p136 : (Int × (List Int))) (s135 : Unit) => (sKillK (sReK (ks := [2, 3]) (K' := (fun (s135 : Unit) (w : Unit) => [some (.own (.ins 0 [])), some (.val ((eT (eT eI)) covers134)), none, none])) (fun (_ : Unit) => ()) (sIfBad (wTNot (wTb (wCallV (wCons (wVar 3 (eT eI) p136.2) (wCons (wVar 2 eI p136.1) wNil)) (fun (A : (List Int) × Int × Unit) => tw_is_cover A.1 A.2.1)))) sPassW))))) (fun (v153 : Unit) => (nS (v := fun (table154 : (List (List Int))) => table154) (sFldW (K := (fun (table154 : (List (List Int))) (w : Unit) => [some (.own (.ins 0 [(eT (eT eI)) table154])), some (.val ((eT (eT eI)) covers134)), none, none])) (wVar 1 (eT (eT eI)) covers134)))))))
  try dsimp only [retW, ifW, andW, orW] at h
  unfold t_Ground___init__
  try dsimp only [retW, ifW, andW, orW]
  exact ciOf (nl := 4) (fun (w : Unit) => [some (.own (.ins 0 [])), some (.val ((eT (eT eI)) covers134)), none, none]) h
def t_read (text80 : Str) : PT (((List (List Int)) × (List Int)) ⊕ Xp) := fun Q => retW (([] : (List (Int × (List Int)))) : (List (Int × (List Int)))) fun told81 => splitW text80 ("
" : Str) fun r160 => forR (fun (p83 : (Int × Str)) (s82 : (List (Int × (List Int)))) Q => splitW p83.2 (" " : Str) fun r131 => compW r131 (fun (word84 : Str) Q => Q (!decide (word84 = ("" : Str)))) (fun (word84 : Str) Q => Q word84) fun words85 => t_checked words85 (p83.1 + 1) fun r129 => appM r129 s82 (fun (told128 : List (Int × (List Int))) => Q (.go told128)) (fun y => Q (.ret (Sum.inr y)))) (enumL r160) told81 fun r => thenW (fun (v132 : (List (Int × (List Int)))) Q => mapW v132 (fun (p133 : (Int × (List Int))) Q => Q p133.2) fun l158 => t_Ground___init__ l158 fun ground157 => mapW v132 (fun (p156 : (Int × (List Int))) Q => Q p156.1) fun l159 => Q (Sum.inl ((ground157, l159)))) r Q
theorem tw_read (text80 : Str) : CW c_read [.val (eS text80)] (vM (vV (eP eC_Ground (eT eI)))) (t_read text80) := by
  have h : WN false m_read (fun (w : Unit) => [some (.val (eS text80)), none, none, none, none, none, none, none]) (vM (vV (eP eC_Ground (eT eI)))) (fun _ _ => .val .none) _ := (nSeq (sAsg (K := (fun (told81 : (List (Int × (List Int)))) (w : Unit) => [some (.val (eS text80)), some (.own (.lst (List.map (eP eI (eT eI)) told81))), none, none, none, none, none, none])) (wLst (e := (eP eI (eT eI))) (f := (fun (A : Unit) => ([] : (List (Int × (List Int)))))) wNil)) (fun (told81 : (List (Int × (List Int)))) => (nForR (R1 := (fun (w : Unit) => [some (.val (eS text80)), some (.own (.lst (List.map (eP eI (eT eI)) told81))), none, none, none, none, none, none])) (K0 := (fun (s82 : (List (Int × (List Int)))) (w : Unit) => [some (.val (eS text80)), some (.own (.lst (List.map (eP eI (eT eI)) s82))), none, none, none, none, none, none])) (Kb := (fun (p83 : (Int × Str)) (s82 : (List (Int × (List Int)))) (w : Unit) => [some (.val (eS text80)), some (.own (.lst (List.map (eP eI (eT eI)) s82))), some (.val (eI p83.1)), some (.val (eS p83.2)), none, none, none, none])) told81 (wEnum (e := eS) (l := fun A => A) (wSplit (v := fun (A : Str × Unit) => A.1) (wVar 0 eS text80) (wCons (wStr "
") wNil))) (fun (p83 : (Int × Str)) (s82 : (List (Int × (List Int)))) => (lKill (ks := [2, 3, 4]) (lSeq (sAsg (K := (fun (words85 : (List Str)) (w : Unit) => [some (.val (eS text80)), some (.own (.lst (List.map (eP eI (eT eI)) s82))), some (.val (eI p83.1)), some (.val (eS p83.2)), some (.own (.lst (List.map eS words85))), none, none, none])) (wComp (R0 := (fun (w : Unit) => [some (.val (eS text80)), some (.own (.lst (List.map (eP eI (eT eI)) s82))), some (.val (eI p83.1)), some (.val (eS p83.2)), none, none, none, none])) (Rb := (fun (word84 : Str) (w : Unit) => [some (.val (eS text80)), some (.own (.lst (List.map (eP eI (eT eI)) s82))), some (.val (eI p83.1)), some (.val (eS p83.2)), none, some (.val (eS word84)), none, none])) (Rc := (fun (word84 : Str) (w : Unit) => [some (.val (eS text80)), some (.own (.lst (List.map (eP eI (eT eI)) s82))), some (.val (eI p83.1)), some (.val (eS p83.2)), none, some (.val (eS word84)), none, none])) (e' := eS) (v := fun word84 A => A) (wSeq (e := eS) (l := fun A => A) (wSplit (v := fun (A : Str × Unit) => A.1) (wVar 3 eS p83.2) (wCons (wStr " ") wNil))) (fun word84 => (wTb (wBin (wVar 5 eS word84) (wStr "") (fun A B => (opNe (e := eS)) A B)))) (fun word84 => (wVar 5 eS word84)))) (fun (words85 : (List Str)) => (lPreW (R1 := (fun (w : Unit) => [some (.val (eS text80)), some (.own (.lst (List.map (eP eI (eT eI)) s82))), some (.val (eI p83.1)), some (.val (eS p83.2)), some (.val ((eL eS) words85)), none, none, none])) (lAppJ (e := (eP eI (eT eI))) (l := s82) (fun (told128 : List (Int × (List Int))) => told128) (wCallV (wCons (wVar 4 (eL eS) words85) (wCons (wBin (wVar 2 eI p83.1) (wInt 1) (fun A B => opAdd A B)) wNil)) (fun (A : (List Str) × Int × Unit) => tw_checked A.1 A.2.1)))))))) (fun (v132 : (List (Int × (List Int)))) => (nF (fInlJ (fRet (v := fun A => A) (wTup (e := (eP eC_Ground (eT eI))) (f := (fun (A : (List (List Int)) × (List Int) × Unit) => (A.1, A.2.1))) (wCons (wMake (c := 0) (wCons (wCall (wCons (wMap (R0 := (fun (w : Unit) => [some (.val (eS text80)), some (.val ((eL (eP eI (eT eI))) v132)), none, none, none, none, none, none])) (Rb := (fun (p133 : (Int × (List Int))) (w : Unit) => [some (.val (eS text80)), some (.val ((eL (eP eI (eT eI))) v132)), none, none, none, none, some (.val (eI p133.1)), some (.val ((eT eI) p133.2))])) (Rc := (fun (p133 : (Int × (List Int))) (w : Unit) => [some (.val (eS text80)), some (.val ((eL (eP eI (eT eI))) v132)), none, none, none, none, some (.val (eI p133.1)), some (.val ((eT eI) p133.2))])) (e' := (eT eI)) (v := fun p133 A => A) (wSeq (e := (eP eI (eT eI))) (l := fun A => v132) (R2 := (fun (w : Unit) => [some (.val (eS text80)), some (.val ((eL (eP eI (eT eI))) v132)), none, none, none, none, none, none])) (wPlc 1 (.lst (List.map (eP eI (eT eI)) v132)))) (fun p133 => (wVar 7 (eT eI) p133.2))) wNil) (fun (A : (List (List Int)) × Unit) => (opTupL (e := (eT eI))) A.1)) wNil) (fun (A : (List (List Int)) × Unit) => tw_Ground___init__ A.1)) (wCons (wCall (wCons (wMap (R0 := (fun (w : Unit) => [some (.val (eS text80)), some (.val ((eL (eP eI (eT eI))) v132)), none, none, none, none, none, none])) (Rb := (fun (p156 : (Int × (List Int))) (w : Unit) => [some (.val (eS text80)), some (.val ((eL (eP eI (eT eI))) v132)), none, none, none, none, some (.val (eI p156.1)), some (.val ((eT eI) p156.2))])) (Rc := (fun (p156 : (Int × (List Int))) (w : Unit) => [some (.val (eS text80)), some (.val ((eL (eP eI (eT eI))) v132)), none, none, none, none, some (.val (eI p156.1)), some (.val ((eT eI) p156.2))])) (e' := eI) (v := fun p156 A => A) (wSeq (e := (eP eI (eT eI))) (l := fun A => A) (wVar 1 (eL (eP eI (eT eI))) v132)) (fun p156 => (wVar 6 eI p156.1))) wNil) (fun (A : (List Int) × Unit) => (opTupL (e := eI)) A.1)) wNil)) (fun _ => rfl)))))))))
  try dsimp only [retW, ifW, andW, orW] at h
  unfold t_read
  try dsimp only [retW, ifW, andW, orW]
  exact cwOf (nl := 8) (fun (w : Unit) => [some (.val (eS text80)), none, none, none, none, none, none, none]) h
def t_l_told (text78 : Str) : PT (Option (Int × Int)) := fun Q => retW (none : (Option (Int × Int))) fun found79 => t_read text78 fun r162 => pairM r162 ["InvalidText"] ["InvalidText"] "InvalidText" "line" "word" ((fun (found161 : (Option (Int × Int))) => Q found161) found79) (fun a b => (fun (found161 : (Option (Int × Int))) => Q found161) (some (a, b)))
theorem tw_l_told (text78 : Str) : CW c__law_told [.val (eS text78)] (vV (eO (eP eI eI))) (t_l_told text78) := by
  have h : WN false m__law_told (fun (w : Unit) => [some (.val (eS text78)), none, none]) (vV (eO (eP eI eI))) (fun _ _ => .val .none) _ := (nSeq (sAsg (K := (fun (found79 : (Option (Int × Int))) (w : Unit) => [some (.val (eS text78)), some (.val ((eO (eP eI eI)) found79)), none])) (wNone (e := (eP eI eI)) wNon)) (fun (found79 : (Option (Int × Int))) => (nSeq (sTryPJ (kn := ["InvalidText"]) (L := ["InvalidText"]) (c := "InvalidText") (K := (fun (found161 : (Option (Int × Int))) (w : Unit) => [some (.val (eS text78)), some (.val ((eO (eP eI eI)) found161)), none])) (u := found79) (v := fun a b => some (a, b)) (wCallV (wCons (wVar 0 eS text78) wNil) (fun (A : Str × Unit) => tw_read A.1))) (fun (found161 : (Option (Int × Int))) => (nF (fRet (v := fun A => A) (wVar 1 (eO (eP eI eI)) found161)))))))
  try dsimp only [retW, ifW, andW, orW] at h
  unfold t_l_told
  try dsimp only [retW, ifW, andW, orW]
  exact cwOf (nl := 3) (fun (w : Unit) => [some (.val (eS text78)), none, none]) h
def t_l_number (word173 : Str) (low174 : Int) (high175 : Int) : PT (Option Int) := fun Q => range2W low174 (high175 + 1) fun r181 => compW r181 (fun (number_here176 : Int) Q => strW number_here176 fun r182 => Q (decide (r182 = word173))) (fun (number_here176 : Int) Q => Q number_here176) fun found177 => ifW (!decide (found177 = ([] : (List Int)))) (fun Q => ixW found177 0 fun r179 => Q (some r179)) (fun Q => Q none) fun r178 => Q r178
theorem tw_l_number (word173 : Str) (low174 : Int) (high175 : Int) : CW c__law_number [.val (eS word173), .val (eI low174), .val (eI high175)] (vV (eO eI)) (t_l_number word173 low174 high175) := by
  have h : WN false m__law_number (fun (w : Unit) => [some (.val (eS word173)), some (.val (eI low174)), some (.val (eI high175)), none, none]) (vV (eO eI)) (fun _ _ => .val .none) _ := (nSeq (sAsg (K := (fun (found177 : (List Int)) (w : Unit) => [some (.val (eS word173)), some (.val (eI low174)), some (.val (eI high175)), some (.own (.lst (List.map eI found177))), none])) (wComp (R0 := (fun (w : Unit) => [some (.val (eS word173)), some (.val (eI low174)), some (.val (eI high175)), none, none])) (Rb := (fun (number_here176 : Int) (w : Unit) => [some (.val (eS word173)), some (.val (eI low174)), some (.val (eI high175)), none, some (.val (eI number_here176))])) (Rc := (fun (number_here176 : Int) (w : Unit) => [some (.val (eS word173)), some (.val (eI low174)), some (.val (eI high175)), none, some (.val (eI number_here176))])) (e' := eI) (v := fun number_here176 A => A) (wRng2 (v := fun (A : Int × Int × Unit) => A.1) (u := fun (A : Int × Int × Unit) => A.2.1) (wCons (wVar 1 eI low174) (wCons (wBin (wVar 2 eI high175) (wInt 1) (fun A B => opAdd A B)) wNil))) (fun number_here176 => (wTb (wBin (wCall (wCons (wVar 4 eI number_here176) wNil) (fun (A : Int × Unit) => opStrI A.1)) (wVar 0 eS word173) (fun A B => (opEq (e := eS)) A B)))) (fun number_here176 => (wVar 4 eI number_here176)))) (fun (found177 : (List Int)) => (nF (fRet (v := fun A => A) (wIf (wTb (wBin (wPlc 3 (.lst (List.map eI found177))) (wLst (e := eI) (f := (fun (A : Unit) => ([] : (List Int)))) wNil) (fun A B => (opNe (e := (eL eI))) found177 B))) (wSome (wBin (wPlc 3 (.lst (List.map eI found177))) (wInt 0) (fun A B => (opIxL (e := eI)) found177 B))) (wNone (e := eI) wNon))))))
  try dsimp only [retW, ifW, andW, orW] at h
  unfold t_l_number
  try dsimp only [retW, ifW, andW, orW]
  exact cwOf (nl := 5) (fun (w : Unit) => [some (.val (eS word173)), some (.val (eI low174)), some (.val (eI high175)), none, none]) h
def t_l_due (text163 : Str) : PT (Option (Int × Int)) := fun Q => splitW text163 ("
" : Str) fun lines164 => rangeW (lines164.length : Int) fun r204 => forR (fun (at166 : Int) (s165 : Unit) Q => ixW lines164 at166 fun r201 => splitW r201 (" " : Str) fun r202 => compW r202 (fun (word167 : Str) Q => Q (!decide (word167 = ("" : Str)))) (fun (word167 : Str) Q => Q word167) fun l200 => retW ((l200 : (List Str)), (0 : Int), ()) fun (A168 : (List Str) × Int × Unit) => rangeW (A168.1.length : Int) fun r199 => forR (fun (place170 : Int) (s169 : Int) Q => ixW A168.1 place170 fun r197 => retW ((r197 : Str), (false : Bool), ()) fun (A171 : Str × Bool × Unit) => ifW (decide (place170 < 3)) (fun Q => andW (fun Q => strW at166 fun r191 => ixW [("block" : Str), r191, ("worth" : Str)] place170 fun r192 => Q (decide (A171.1 = r192))) (fun Q => Q (decide (at166 < 10))) fun good172 => Q (s169, good172)) (fun Q => ifW (decide (place170 = 3)) (fun Q => t_l_number A171.1 (-50) 50 fun r193 => retW ((!r193.isNone) : Bool) fun good183 => Q (s169, good183)) (fun Q => ifW (decide (place170 = 4)) (fun Q => retW (((decide (A171.1 = ("needs" : Str))) && (decide (0 < at166))) : Bool) fun good184 => Q (s169, good184)) (fun Q => t_l_number A171.1 s169 (at166 - 1) fun r196 => ifW (!r196.isNone) (fun Q => t_l_number A171.1 s169 (at166 - 1) fun r194 => unO r194 fun r195 => retW ((true : Bool), ((r195 + 1) : Int), ()) fun (A185 : Bool × Int × Unit) => Q (A185.2.1, A185.1)) (fun Q => Q (s169, A171.2.1)) fun (v186 : (Int × Bool)) => Q (v186.1, v186.2)) fun (v187 : (Int × Bool)) => Q (v187.1, v187.2)) fun (v188 : (Int × Bool)) => Q (v188.1, v188.2)) fun (v189 : (Int × Bool)) => if (!v189.2) = true then Q (.ret (some ((at166 + 1), (place170 + 1)))) else Q (.go v189.1)) r199 A168.2.1 fun r => thenL (fun (v198 : Int) Q => if ((decide ((A168.1.length : Int) < 4)) || (decide ((A168.1.length : Int) = 5))) = true then Q (.ret (some ((at166 + 1), ((A168.1.length : Int) + 1)))) else Q (.go ())) r Q) r204 () fun r => thenW (fun (v203 : Unit) Q => Q none) r Q
theorem tw_l_due (text163 : Str) : CW c__law_due [.val (eS text163)] (vV (eO (eP eI eI))) (t_l_due text163) := by
  have h : WN false m__law_due (fun (w : Unit) => [some (.val (eS text163)), none, none, none, none, none, none, none]) (vV (eO (eP eI eI))) (fun _ _ => .val .none) _ := (nSeq (sAsg (K := (fun (lines164 : (List Str)) (w : Unit) => [some (.val (eS text163)), some (.own (.lst (List.map eS lines164))), none, none, none, none, none, none])) (wSplit (v := fun (A : Str × Unit) => A.1) (wVar 0 eS text163) (wCons (wStr "
") wNil))) (fun (lines164 : (List Str)) => (nForR (R1 := (fun (w : Unit) => [some (.val (eS text163)), some (.own (.lst (List.map eS lines164))), none, none, none, none, none, none])) (K0 := (fun (s165 : Unit) (w : Unit) => [some (.val (eS text163)), some (.own (.lst (List.map eS lines164))), none, none, none, none, none, none])) (Kb := (fun (at166 : Int) (s165 : Unit) (w : Unit) => [some (.val (eS text163)), some (.own (.lst (List.map eS lines164))), some (.val (eI at166)), none, none, none, none, none])) () (wRng1 (v := fun (A : Int × Unit) => A.1) (wCons (wCall (wCons (wPlc 1 (.lst (List.map eS lines164))) wNil) (fun (A : Unit × Unit) => (opLenL (e := eS)) lines164)) wNil)) (fun (at166 : Int) (s165 : Unit) => (lKill (ks := [2, 3, 4, 5, 6, 7]) (lSeq (sParW (K := (fun (A168 : (List Str) × Int × Unit) (w : Unit) => [some (.val (eS text163)), some (.own (.lst (List.map eS lines164))), some (.val (eI at166)), some (.own (.lst (List.map eS A168.1))), some (.val (eI A168.2.1)), none, none, none])) (wCons (wComp (R0 := (fun (w : Unit) => [some (.val (eS text163)), some (.own (.lst (List.map eS lines164))), some (.val (eI at166)), none, none, none, none, none])) (Rb := (fun (word167 : Str) (w : Unit) => [some (.val (eS text163)), some (.own (.lst (List.map eS lines164))), some (.val (eI at166)), none, none, none, some (.val (eS word167)), none])) (Rc := (fun (word167 : Str) (w : Unit) => [some (.val (eS text163)), some (.own (.lst (List.map eS lines164))), some (.val (eI at166)), none, none, none, some (.val (eS word167)), none])) (e' := eS) (v := fun word167 A => A) (wSeq (e := eS) (l := fun A => A) (wSplit (v := fun (A : Str × Unit) => A.1) (wBin (wPlc 1 (.lst (List.map eS lines164))) (wVar 2 eI at166) (fun A B => (opIxL (e := eS)) lines164 B)) (wCons (wStr " ") wNil))) (fun word167 => (wTb (wBin (wVar 6 eS word167) (wStr "") (fun A B => (opNe (e := eS)) A B)))) (fun word167 => (wVar 6 eS word167))) (wCons (wInt 0) wNil))) (fun (A168 : (List Str) × Int × Unit) => (lForR (R1 := (fun (w : Unit) => [some (.val (eS text163)), some (.own (.lst (List.map eS lines164))), some (.val (eI at166)), some (.own (.lst (List.map eS A168.1))), some (.val (eI A168.2.1)), none, none, none])) (K0 := (fun (s169 : Int) (w : Unit) => [some (.val (eS text163)), some (.own (.lst (List.map eS lines164))), some (.val (eI at166)), some (.own (.lst (List.map eS A168.1))), some (.val (eI s169)), none, none, none])) (Kb := (fun (place170 : Int) (s169 : Int) (w : Unit) => [some (.val (eS text163)), some (.own (.lst (List.map eS lines164))), some (.val (eI at166)), some (.own (.lst (List.map eS A168.1))), some (.val (eI s169)), some (.val (eI place170)), none, none])) A168.2.1 (wRng1 (v := fun (A : Int × Unit) => A.1) (wCons (wCall (wCons (wPlc 3 (.lst (List.map eS A168.1))) wNil) (fun (A : Unit × Unit) => (opLenL (e := eS)) A168.1)) wNil)) (fun (place170 : Int) (s169 : Int) => (lKill (ks := [5, 6, 7]) (lSeq (sParW (K := (fun (A171 : Str × Bool × Unit) (w : Unit) => [some (.val (eS text163)), some (.own (.lst (List.map eS lines164))), some (.val (eI at166)), some (.own (.lst (List.map eS A168.1))), some (.val (eI s169)), some (.val (eI place170)), some (.val (eS A171.1)), some (.val (eB A171.2.1))])) (wCons (wBin (wPlc 3 (.lst (List.map eS A168.1))) (wVar 5 eI place170) (fun A B => (opIxL (e := eS)) A168.1 B)) (wCons (wBl false) wNil))) (fun (A171 : Str × Bool × Unit) => (lSeq (sIfW (wTb (wBin (wVar 5 eI place170) (wInt 3) (fun A B => opLtI A B))) (sRe (K' := (fun (v189 : (Int × Bool)) (w : Unit) => [some (.val (eS text163)), some (.own (.lst (List.map eS lines164))), some (.val (eI at166)), some (.own (.lst (List.map eS A168.1))), some (.val (eI v189.1)), some (.val (eI place170)), some (.val (eS A171.1)), some (.val (eB v189.2))])) (fun (good172 : Bool) => (s169, good172)) (sAsg (K := (fun (good172 : Bool) (w : Unit) => [some (.val (eS text163)), some (.own (.lst (List.map eS lines164))), some (.val (eI at166)), some (.own (.lst (List.map eS A168.1))), some (.val (eI s169)), some (.val (eI place170)), some (.val (eS A171.1)), some (.val (eB good172))])) (wAnd (wBin (wVar 6 eS A171.1) (wBin (wLst (e := eS) (f := (fun (A : Str × Str × Str × Unit) => [A.1, A.2.1, A.2.2.1])) (wCons (wStr "block") (wCons (wCall (wCons (wVar 2 eI at166) wNil) (fun (A : Int × Unit) => opStrI A.1)) (wCons (wStr "worth") wNil)))) (wVar 5 eI place170) (fun A B => (opIxL (e := eS)) A B)) (fun A B => (opEq (e := eS)) A B)) (wBin (wVar 2 eI at166) (wInt 10) (fun A B => opLtI A B))))) (sRe (K' := (fun (v189 : (Int × Bool)) (w : Unit) => [some (.val (eS text163)), some (.own (.lst (List.map eS lines164))), some (.val (eI at166)), some (.own (.lst (List.map eS A168.1))), some (.val (eI v189.1)), some (.val (eI place170)), some (.val (eS A171.1)), some (.val (eB v189.2))])) (fun (v188 : (Int × Bool)) => (v188.1, v188.2)) (sIfW (wTb (wBin (wVar 5 eI place170) (wInt 3) (fun A B => (opEq (e := eI)) A B))) (sRe (K' := (fun (v188 : (Int × Bool)) (w : Unit) => [some (.val (eS text163)), some (.own (.lst (List.map eS lines164))), some (.val (eI at166)), some (.own (.lst (List.map eS A168.1))), some (.val (eI v188.1)), some (.val (eI place170)), some (.val (eS A171.1)), some (.val (eB v188.2))])) (fun (good183 : Bool) => (s169, good183)) (sAsg (K := (fun (good183 : Bool) (w : Unit) => [some (.val (eS text163)), some (.own (.lst (List.map eS lines164))), some (.val (eI at166)), some (.own (.lst (List.map eS A168.1))), some (.val (eI s169)), some (.val (eI place170)), some (.val (eS A171.1)), some (.val (eB good183))])) (wBin (wCallV (wCons (wVar 6 eS A171.1) (wCons (wUn (wInt 50) (fun A => opNeg A)) (wCons (wInt 50) wNil))) (fun (A : Str × Int × Int × Unit) => tw_l_number A.1 A.2.1 A.2.2.1)) wNon (fun A B => (opIsNot (e := eI)) A B)))) (sRe (K' := (fun (v188 : (Int × Bool)) (w : Unit) => [some (.val (eS text163)), some (.own (.lst (List.map eS lines164))), some (.val (eI at166)), some (.own (.lst (List.map eS A168.1))), some (.val (eI v188.1)), some (.val (eI place170)), some (.val (eS A171.1)), some (.val (eB v188.2))])) (fun (v187 : (Int × Bool)) => (v187.1, v187.2)) (sIfW (wTb (wBin (wVar 5 eI place170) (wInt 4) (fun A B => (opEq (e := eI)) A B))) (sRe (K' := (fun (v187 : (Int × Bool)) (w : Unit) => [some (.val (eS text163)), some (.own (.lst (List.map eS lines164))), some (.val (eI at166)), some (.own (.lst (List.map eS A168.1))), some (.val (eI v187.1)), some (.val (eI place170)), some (.val (eS A171.1)), some (.val (eB v187.2))])) (fun (good184 : Bool) => (s169, good184)) (sAsg (K := (fun (good184 : Bool) (w : Unit) => [some (.val (eS text163)), some (.own (.lst (List.map eS lines164))), some (.val (eI at166)), some (.own (.lst (List.map eS A168.1))), some (.val (eI s169)), some (.val (eI place170)), some (.val (eS A171.1)), some (.val (eB good184))])) (wAnd2 (wBin (wVar 6 eS A171.1) (wStr "needs") (fun A B => (opEq (e := eS)) A B)) (wBin (wVar 2 eI at166) (wInt 0) (fun A B => opGtI A B))))) (sRe (K' := (fun (v187 : (Int × Bool)) (w : Unit) => [some (.val (eS text163)), some (.own (.lst (List.map eS lines164))), some (.val (eI at166)), some (.own (.lst (List.map eS A168.1))), some (.val (eI v187.1)), some (.val (eI place170)), some (.val (eS A171.1)), some (.val (eB v187.2))])) (fun (v186 : (Int × Bool)) => (v186.1, v186.2)) (sIfW (wTb (wBin (wCallV (wCons (wVar 6 eS A171.1) (wCons (wVar 4 eI s169) (wCons (wBin (wVar 2 eI at166) (wInt 1) (fun A B => opSub A B)) wNil))) (fun (A : Str × Int × Int × Unit) => tw_l_number A.1 A.2.1 A.2.2.1)) wNon (fun A B => (opIsNot (e := eI)) A B))) (sRe (K' := (fun (v186 : (Int × Bool)) (w : Unit) => [some (.val (eS text163)), some (.own (.lst (List.map eS lines164))), some (.val (eI at166)), some (.own (.lst (List.map eS A168.1))), some (.val (eI v186.1)), some (.val (eI place170)), some (.val (eS A171.1)), some (.val (eB v186.2))])) (fun (A185 : Bool × Int × Unit) => (A185.2.1, A185.1)) (sParW (K := (fun (A185 : Bool × Int × Unit) (w : Unit) => [some (.val (eS text163)), some (.own (.lst (List.map eS lines164))), some (.val (eI at166)), some (.own (.lst (List.map eS A168.1))), some (.val (eI A185.2.1)), some (.val (eI place170)), some (.val (eS A171.1)), some (.val (eB A185.1))])) (wCons (wBl true) (wCons (wBin (wUnO (wCallV (wCons (wVar 6 eS A171.1) (wCons (wVar 4 eI s169) (wCons (wBin (wVar 2 eI at166) (wInt 1) (fun A B => opSub A B)) wNil))) (fun (A : Str × Int × Int × Unit) => tw_l_number A.1 A.2.1 A.2.2.1))) (wInt 1) (fun A B => opAdd A B)) wNil)))) (sRe (K' := (fun (v186 : (Int × Bool)) (w : Unit) => [some (.val (eS text163)), some (.own (.lst (List.map eS lines164))), some (.val (eI at166)), some (.own (.lst (List.map eS A168.1))), some (.val (eI v186.1)), some (.val (eI place170)), some (.val (eS A171.1)), some (.val (eB v186.2))])) (fun (_ : Unit) => (s169, A171.2.1)) sPassW)))))))) (fun (v189 : (Int × Bool)) => (lIf (wTNot (wTb (wVar 7 eB v189.2))) (lF (fRet (v := fun A => A) (wSome (wTup (e := (eP eI eI)) (f := (fun (A : Int × Int × Unit) => (A.1, A.2.1))) (wCons (wBin (wVar 2 eI at166) (wInt 1) (fun A B => opAdd A B)) (wCons (wBin (wVar 5 eI place170) (wInt 1) (fun A B => opAdd A B)) wNil)) (fun _ => rfl))))) (lS (f := fun (_ : Unit) => v189.1) sPassW)))))))) (fun (v198 : Int) => (lIf (wTOr2 (wTb (wBin (wCall (wCons (wPlc 3 (.lst (List.map eS A168.1))) wNil) (fun (A : Unit × Unit) => (opLenL (e := eS)) A168.1)) (wInt 4) (fun A B => opLtI A B))) (wTb (wBin (wCall (wCons (wPlc 3 (.lst (List.map eS A168.1))) wNil) (fun (A : Unit × Unit) => (opLenL (e := eS)) A168.1)) (wInt 5) (fun A B => (opEq (e := eI)) A B)))) (lF (fRet (v := fun A => A) (wSome (wTup (e := (eP eI eI)) (f := (fun (A : Int × Int × Unit) => (A.1, A.2.1))) (wCons (wBin (wVar 2 eI at166) (wInt 1) (fun A B => opAdd A B)) (wCons (wBin (wCall (wCons (wPlc 3 (.lst (List.map eS A168.1))) wNil) (fun (A : Unit × Unit) => (opLenL (e := eS)) A168.1)) (wInt 1) (fun A B => opAdd A B)) wNil)) (fun _ => rfl))))) (lS (f := fun (_ : Unit) => ()) sPassW)))))))) (fun (v203 : Unit) => (nF (fRet (v := fun A => A) (wNone (e := (eP eI eI)) wNon)))))))
  try dsimp only [retW, ifW, andW, orW] at h
  unfold t_l_due
  try dsimp only [retW, ifW, andW, orW]
  exact cwOf (nl := 8) (fun (w : Unit) => [some (.val (eS text163)), none, none, none, none, none, none, none]) h
def t_l_pick_3 (things249 : (List Str)) : PT Str := fun Q => takenW (things249.length : Int) fun r250 => ixW things249 r250 fun r251 => Q r251
theorem tw_l_pick_3 (things249 : (List Str)) : CR c__law_pick (fun w => .own (row w)) [.own (.lst (List.map eS things249))] (vV eS) (t_l_pick_3 things249) := by
  have h : WN true m__law_pick (fun (w : RW) => [some (.own (row w)), some (.own (.lst (List.map eS things249)))]) (vV eS) (fun _ w => .own (row w)) _ := (nF (fRet (v := fun A => A) (wBin (wPlc 1 (.lst (List.map eS things249))) (wCallI (rs := fun (A : Unit × Int × Unit) => [Rv.sv (.val (eI A.2.1))]) (row := row) (wCons (wPlc0 0) (wCons (wCall (wCons (wPlc 1 (.lst (List.map eS things249))) wNil) (fun (A : Unit × Unit) => (opLenL (e := eS)) things249)) wNil)) (fun (A : Unit × Int × Unit) => cr_taken A.2.1)) (fun A B => (opIxL (e := eS)) things249 B))))
  try dsimp only [retW, ifW, andW, orW] at h
  unfold t_l_pick_3
  try dsimp only [retW, ifW, andW, orW]
  exact crOf (nl := 2) (row := row) (fun (w : RW) => [some (.own (row w)), some (.own (.lst (List.map eS things249)))]) h
def t_law : PT Bool := fun Q => rangeW 4 fun r258 => forR (fun (turn1 : Int) (s0 : Unit) Q => t_l_covers 10 fun covers_here33 => t_l_worths (covers_here33.length : Int) fun r246 => retW ((r246 : (List Int)), (([] : (List (List Str))) : (List (List Str))), ()) fun (A47 : (List Int) × (List (List Str)) × Unit) => rangeW (covers_here33.length : Int) fun r245 => forW (fun (block49 : Int) (s48 : (List (List Str))) Q => strW block49 fun r242 => ixW A47.1 block49 fun r243 => strW r243 fun r244 => retW ([("block" : Str), r242, ("worth" : Str), r244] : (List Str)) fun words50 => ixW covers_here33 block49 fun r235 => repLW [("needs" : Str)] (if (!decide (r235 = ([] : (List Int)))) = true then 1 else 0) fun r236 => catW words50 r236 fun r237 => ixW covers_here33 block49 fun r239 => mapW r239 (fun (one51 : Int) Q => strW one51 fun r240 => Q r240) fun l238 => catW r237 l238 fun r241 => appW s48 r241 fun lines52 => Q lines52) r245 A47.2.1 fun (v53 : (List (List Str))) => retW ([("block" : Str), ("Block" : Str), ("blocks" : Str), ("worth" : Str), ("needs" : Str), ("0" : Str), ("1" : Str), ("9" : Str), ("10" : Str), ("-1" : Str), ("-0" : Str), ("+1" : Str), ("01" : Str), ("51" : Str)] : (List Str)) fun odd54 => catW odd54 [("-51" : Str), ("50" : Str), ("" : Str), ("	" : Str), ("1.0" : Str), ("x" : Str), ("None" : Str), ("block 0" : Str), ("-50" : Str), ("2" : Str)] fun odd55 => takenW 2 fun r232 => rangeW (1 + r232) fun r233 => forW (fun (change57 : Int) (s56 : (List (List Str))) Q => takenW (s56.length : Int) fun r230 => takenW 5 fun r231 => retW ((r230 : Int), (r231 : Int), ()) fun (A58 : Int × Int × Unit) => ixW s56 A58.1 fun r228 => takenW ((r228.length : Int) + 1) fun place59 => ifW (decide (A58.2.1 = 0)) (fun Q => ixW s56 A58.1 fun r211 => ixW s56 A58.1 fun r212 => catW (cutL r211 none (some place59)) (cutL r212 (some (place59 + 1)) none) fun r213 => setW s56 A58.1 r213 fun lines60 => Q lines60) (fun Q => ifW (decide (A58.2.1 = 1)) (fun Q => ixW s56 A58.1 fun r214 => t_l_pick odd55 fun r215 => catW (cutL r214 none (some place59)) [r215] fun r216 => ixW s56 A58.1 fun r217 => catW r216 (cutL r217 (some place59) none) fun r218 => setW s56 A58.1 r218 fun lines64 => Q lines64) (fun Q => ifW (decide (A58.2.1 = 2)) (fun Q => ixW s56 A58.1 fun r219 => t_l_pick odd55 fun r220 => catW (cutL r219 none (some place59)) [r220] fun r221 => ixW s56 A58.1 fun r222 => catW r221 (cutL r222 (some (place59 + 1)) none) fun r223 => setW s56 A58.1 r223 fun lines65 => Q lines65) (fun Q => ifW (decide (A58.2.1 = 3)) (fun Q => strW A58.1 fun r225 => ixW s56 A58.1 fun r226 => t_l_pick_2 [([] : (List Str)), [("block" : Str), r225, ("worth" : Str), ("0" : Str)], r226] fun r224 => insW s56 A58.1 r224 fun lines69 => Q lines69) (fun Q => strW (s56.length : Int) fun r227 => appW s56 [("block" : Str), r227, ("worth" : Str), ("1" : Str)] fun lines70 => Q lines70) fun (v71 : (List (List Str))) => Q v71) fun (v72 : (List (List Str))) => Q v72) fun (v73 : (List (List Str))) => Q v73) fun (v74 : (List (List Str))) => Q v74) r233 v53 fun (v75 : (List (List Str))) => mapW v75 (fun (words76 : (List Str)) Q => joinW (" " : Str) words76 fun r209 => Q r209) fun l208 => joinW ("
" : Str) l208 fun text77 => t_l_told text77 fun r206 => t_l_due text77 fun r207 => if (!decide (r206 = r207)) = true then Q (.ret false) else Q (.go ())) r258 () fun r => thenW (fun (v248 : Unit) Q => t_l_pick_3 [("" : Str), ("
" : Str), (" " : Str), ("block" : Str), ("block 0" : Str), ("block 0 worth" : Str), ("block 0 worth 1
" : Str)] fun short252 => andW (fun Q => t_l_due short252 fun r254 => Q (!r254.isNone)) (fun Q => t_l_told short252 fun r255 => t_l_due short252 fun r256 => Q (decide (r255 = r256))) fun b253 => Q b253) r Q
theorem tw_law (script : List Int) : CR1 c_law script t_law := by
  have h : WN false m_law (fun (w : RW) => [some (.val (flsD (List.map PyData.int script))), none, none, none, none, none, none, none, none, none, none, none, none, none, none, none]) (vV eB) (fun _ _ => .val .none) _ := (nSeq (sRow (ns := script) (K := (fun (_ : Unit) (w : RW) => [some (.val (flsD (List.map PyData.int script))), some (.own (row w)), none, none, none, none, none, none, none, none, none, none, none, none, none, none]))) (fun (_ : Unit) => (nForR (R1 := (fun (w : RW) => [some (.val (flsD (List.map PyData.int script))), some (.own (row w)), none, none, none, none, none, none, none, none, none, none, none, none, none, none])) (K0 := (fun (s0 : Unit) (w : RW) => [some (.val (flsD (List.map PyData.int script))), some (.own (row w)), none, none, none, none, none, none, none, none, none, none, none, none, none, none])) (Kb := (fun (turn1 : Int) (s0 : Unit) (w : RW) => [some (.val (flsD (List.map PyData.int script))), some (.own (row w)), some (.val (eI turn1)), none, none, none, none, none, none, none, none, none, none, none, none, none])) () (wRng1 (v := fun (A : Int × Unit) => A.1) (wCons (wInt 4) wNil)) (fun (turn1 : Int) (s0 : Unit) => (lKill (ks := [2, 3, 4, 5, 6, 7, 8, 9, 10, 11, 12, 13]) (lSeq (sAsg (K := (fun (covers_here33 : (List (List Int))) (w : RW) => [some (.val (flsD (List.map PyData.int script))), some (.own (row w)), some (.val (eI turn1)), some (.val ((eT (eT eI)) covers_here33)), none, none, none, none, none, none, none, none, none, none, none, none])) (wCallI (rs := fun (A : Unit × Int × Unit) => [Rv.sv (.val (eI A.2.1))]) (row := row) (wCons (wPlc0 1) (wCons (wInt 10) wNil)) (fun (A : Unit × Int × Unit) => tw_l_covers A.2.1))) (fun (covers_here33 : (List (List Int))) => (lSeq (sParW (K := (fun (A47 : (List Int) × (List (List Str)) × Unit) (w : RW) => [some (.val (flsD (List.map PyData.int script))), some (.own (row w)), some (.val (eI turn1)), some (.val ((eT (eT eI)) covers_here33)), some (.val ((eT eI) A47.1)), some (.own (.lst (List.map (eL eS) A47.2.1))), none, none, none, none, none, none, none, none, none, none])) (wCons (wCallI (rs := fun (A : Unit × Int × Unit) => [Rv.sv (.val (eI A.2.1))]) (row := row) (wCons (wPlc0 1) (wCons (wCall (wCons (wVar 3 (eT (eT eI)) covers_here33) wNil) (fun (A : (List (List Int)) × Unit) => (opLenT (e := (eT eI))) A.1)) wNil)) (fun (A : Unit × Int × Unit) => tw_l_worths A.2.1)) (wCons (wLst (e := (eL eS)) (f := (fun (A : Unit) => ([] : (List (List Str))))) wNil) wNil))) (fun (A47 : (List Int) × (List (List Str)) × Unit) => (lSeq (sForW (R1 := (fun (w : RW) => [some (.val (flsD (List.map PyData.int script))), some (.own (row w)), some (.val (eI turn1)), some (.val ((eT (eT eI)) covers_here33)), some (.val ((eT eI) A47.1)), some (.own (.lst (List.map (eL eS) A47.2.1))), none, none, none, none, none, none, none, none, none, none])) (K0 := (fun (s48 : (List (List Str))) (w : RW) => [some (.val (flsD (List.map PyData.int script))), some (.own (row w)), some (.val (eI turn1)), some (.val ((eT (eT eI)) covers_here33)), some (.val ((eT eI) A47.1)), some (.own (.lst (List.map (eL eS) s48))), none, none, none, none, none, none, none, none, none, none])) (Kb := (fun (block49 : Int) (s48 : (List (List Str))) (w : RW) => [some (.val (flsD (List.map PyData.int script))), some (.own (row w)), some (.val (eI turn1)), some (.val ((eT (eT eI)) covers_here33)), some (.val ((eT eI) A47.1)), some (.own (.lst (List.map (eL eS) s48))), some (.val (eI block49)), none, none, none, none, none, none, none, none, none])) A47.2.1 (wRng1 (v := fun (A : Int × Unit) => A.1) (wCons (wCall (wCons (wVar 3 (eT (eT eI)) covers_here33) wNil) (fun (A : (List (List Int)) × Unit) => (opLenT (e := (eT eI))) A.1)) wNil)) (fun (block49 : Int) (s48 : (List (List Str))) => (sKillK (sSeqK (sAsg (K := (fun (words50 : (List Str)) (w : RW) => [some (.val (flsD (List.map PyData.int script))), some (.own (row w)), some (.val (eI turn1)), some (.val ((eT (eT eI)) covers_here33)), some (.val ((eT eI) A47.1)), some (.own (.lst (List.map (eL eS) s48))), some (.val (eI block49)), some (.own (.lst (List.map eS words50))), none, none, none, none, none, none, none, none])) (wLst (e := eS) (f := (fun (A : Str × Str × Str × Str × Unit) => [A.1, A.2.1, A.2.2.1, A.2.2.2.1])) (wCons (wStr "block") (wCons (wCall (wCons (wVar 6 eI block49) wNil) (fun (A : Int × Unit) => opStrI A.1)) (wCons (wStr "worth") (wCons (wCall (wCons (wBin (wVar 4 (eT eI) A47.1) (wVar 6 eI block49) (fun A B => (opIxT (e := eI)) A B)) wNil) (fun (A : Int × Unit) => opStrI A.1)) wNil)))))) (fun (words50 : (List Str)) => (sReK (ks := [6, 7]) (K' := (fun (s48 : (List (List Str))) (w : RW) => [some (.val (flsD (List.map PyData.int script))), some (.own (row w)), some (.val (eI turn1)), some (.val ((eT (eT eI)) covers_here33)), some (.val ((eT eI) A47.1)), some (.own (.lst (List.map (eL eS) s48))), none, none, none, none, none, none, none, none, none, none])) (fun (lines52 : List (List Str)) => lines52) (sMut (e := (eL eS)) (l := s48) (R2 := (fun (w : RW) => [some (.val (flsD (List.map PyData.int script))), some (.own (row w)), some (.val (eI turn1)), some (.val ((eT (eT eI)) covers_here33)), some (.val ((eT eI) A47.1)), some (.own (.lst (List.map (eL eS) s48))), some (.val (eI block49)), some (.own (.lst (List.map eS words50))), none, none, none, none, none, none, none, none])) (K := (fun (lines52 : List (List Str)) (w : RW) => [some (.val (flsD (List.map PyData.int script))), some (.own (row w)), some (.val (eI turn1)), some (.val ((eT (eT eI)) covers_here33)), some (.val ((eT eI) A47.1)), some (.own (.lst (List.map (eL eS) lines52))), some (.val (eI block49)), some (.own (.lst (List.map eS words50))), none, none, none, none, none, none, none, none])) (wCons (wBin (wBin (wPlc 7 (.lst (List.map eS words50))) (wBin (wLst (e := eS) (f := (fun (A : Str × Unit) => [A.1])) (wCons (wStr "needs") wNil)) (wCall (wCons (wBin (wBin (wVar 3 (eT (eT eI)) covers_here33) (wVar 6 eI block49) (fun A B => (opIxT (e := (eT eI))) A B)) (wTup (e := (eT eI)) (f := (fun (A : Unit) => ([] : (List Int)))) wNil (fun _ => rfl)) (fun A B => (opNe (e := (eT eI))) A B)) wNil) (fun (A : Bool × Unit) => opIntB A.1)) (fun A B => (opRepL (e := eS)) A B)) (fun A B => (opCatL (e := eS)) words50 B)) (wMap (R0 := (fun (w : RW) => [some (.val (flsD (List.map PyData.int script))), some (.own (row w)), some (.val (eI turn1)), some (.val ((eT (eT eI)) covers_here33)), some (.val ((eT eI) A47.1)), some (.own (.lst (List.map (eL eS) s48))), some (.val (eI block49)), some (.own (.lst (List.map eS words50))), none, none, none, none, none, none, none, none])) (Rb := (fun (one51 : Int) (w : RW) => [some (.val (flsD (List.map PyData.int script))), some (.own (row w)), some (.val (eI turn1)), some (.val ((eT (eT eI)) covers_here33)), some (.val ((eT eI) A47.1)), some (.own (.lst (List.map (eL eS) s48))), some (.val (eI block49)), some (.own (.lst (List.map eS words50))), none, none, none, none, none, none, none, some (.val (eI one51))])) (Rc := (fun (one51 : Int) (w : RW) => [some (.val (flsD (List.map PyData.int script))), some (.own (row w)), some (.val (eI turn1)), some (.val ((eT (eT eI)) covers_here33)), some (.val ((eT eI) A47.1)), some (.own (.lst (List.map (eL eS) s48))), some (.val (eI block49)), some (.own (.lst (List.map eS words50))), none, none, none, none, none, none, none, some (.val (eI one51))])) (e' := eS) (v := fun one51 A => A) (wSeq (e := eI) (l := fun A => A) (wBin (wVar 3 (eT (eT eI)) covers_here33) (wVar 6 eI block49) (fun A B => (opIxT (e := (eT eI))) A B))) (fun one51 => (wCall (wCons (wVar 15 eI one51) wNil) (fun (A : Int × Unit) => opStrI A.1)))) (fun A B => (opCatL (e := eS)) A B)) wNil) (fun (A : (List Str) × Unit) Q q => f_app (e := (eL eS)) A.1 Q q)))))))) (fun (v53 : (List (List Str))) => (lSeq (sAsg (K := (fun (odd54 : (List Str)) (w : RW) => [some (.val (flsD (List.map PyData.int script))), some (.own (row w)), some (.val (eI turn1)), some (.val ((eT (eT eI)) covers_here33)), some (.val ((eT eI) A47.1)), some (.own (.lst (List.map (eL eS) v53))), none, none, some (.own (.lst (List.map eS odd54))), none, none, none, none, none, none, none])) (wLst (e := eS) (f := (fun (A : Str × Str × Str × Str × Str × Str × Str × Str × Str × Str × Str × Str × Str × Str × Unit) => [A.1, A.2.1, A.2.2.1, A.2.2.2.1, A.2.2.2.2.1, A.2.2.2.2.2.1, A.2.2.2.2.2.2.1, A.2.2.2.2.2.2.2.1, A.2.2.2.2.2.2.2.2.1, A.2.2.2.2.2.2.2.2.2.1, A.2.2.2.2.2.2.2.2.2.2.1, A.2.2.2.2.2.2.2.2.2.2.2.1, A.2.2.2.2.2.2.2.2.2.2.2.2.1, A.2.2.2.2.2.2.2.2.2.2.2.2.2.1])) (wCons (wStr "block") (wCons (wStr "Block") (wCons (wStr "blocks") (wCons (wStr "worth") (wCons (wStr "needs") (wCons (wStr "0") (wCons (wStr "1") (wCons (wStr "9") (wCons (wStr "10") (wCons (wStr "-1") (wCons (wStr "-0") (wCons (wStr "+1") (wCons (wStr "01") (wCons (wStr "51") wNil)))))))))))))))) (fun (odd54 : (List Str)) => (lSeq (sAsg (K := (fun (odd55 : (List Str)) (w : RW) => [some (.val (flsD (List.map PyData.int script))), some (.own (row w)), some (.val (eI turn1)), some (.val ((eT (eT eI)) covers_here33)), some (.val ((eT eI) A47.1)), some (.own (.lst (List.map (eL eS) v53))), none, none, some (.own (.lst (List.map eS odd55))), none, none, none, none, none, none, none])) (wBin (wPlc 8 (.lst (List.map eS odd54))) (wLst (e := eS) (f := (fun (A : Str × Str × Str × Str × Str × Str × Str × Str × Str × Str × Unit) => [A.1, A.2.1, A.2.2.1, A.2.2.2.1, A.2.2.2.2.1, A.2.2.2.2.2.1, A.2.2.2.2.2.2.1, A.2.2.2.2.2.2.2.1, A.2.2.2.2.2.2.2.2.1, A.2.2.2.2.2.2.2.2.2.1])) (wCons (wStr "-51") (wCons (wStr "50") (wCons (wStr "") (wCons (wStr "	") (wCons (wStr "1.0") (wCons (wStr "x") (wCons (wStr "None") (wCons (wStr "block 0") (wCons (wStr "-50") (wCons (wStr "2") wNil))))))))))) (fun A B => (opCatL (e := eS)) odd54 B))) (fun (odd55 : (List Str)) => (lSeq (sForW (R1 := (fun (w : RW) => [some (.val (flsD (List.map PyData.int script))), some (.own (row w)), some (.val (eI turn1)), some (.val ((eT (eT eI)) covers_here33)), some (.val ((eT eI) A47.1)), some (.own (.lst (List.map (eL eS) v53))), none, none, some (.own (.lst (List.map eS odd55))), none, none, none, none, none, none, none])) (K0 := (fun (s56 : (List (List Str))) (w : RW) => [some (.val (flsD (List.map PyData.int script))), some (.own (row w)), some (.val (eI turn1)), some (.val ((eT (eT eI)) covers_here33)), some (.val ((eT eI) A47.1)), some (.own (.lst (List.map (eL eS) s56))), none, none, some (.own (.lst (List.map eS odd55))), none, none, none, none, none, none, none])) (Kb := (fun (change57 : Int) (s56 : (List (List Str))) (w : RW) => [some (.val (flsD (List.map PyData.int script))), some (.own (row w)), some (.val (eI turn1)), some (.val ((eT (eT eI)) covers_here33)), some (.val ((eT eI) A47.1)), some (.own (.lst (List.map (eL eS) s56))), none, none, some (.own (.lst (List.map eS odd55))), some (.val (eI change57)), none, none, none, none, none, none])) v53 (wRng1 (v := fun (A : Int × Unit) => A.1) (wCons (wBin (wInt 1) (wCallI (rs := fun (A : Unit × Int × Unit) => [Rv.sv (.val (eI A.2.1))]) (row := row) (wCons (wPlc0 1) (wCons (wInt 2) wNil)) (fun (A : Unit × Int × Unit) => cr_taken A.2.1)) (fun A B => opAdd A B)) wNil)) (fun (change57 : Int) (s56 : (List (List Str))) => (sKillK (sSeqK (sParW (K := (fun (A58 : Int × Int × Unit) (w : RW) => [some (.val (flsD (List.map PyData.int script))), some (.own (row w)), some (.val (eI turn1)), some (.val ((eT (eT eI)) covers_here33)), some (.val ((eT eI) A47.1)), some (.own (.lst (List.map (eL eS) s56))), none, none, some (.own (.lst (List.map eS odd55))), some (.val (eI change57)), some (.val (eI A58.1)), some (.val (eI A58.2.1)), none, none, none, none])) (wCons (wCallI (rs := fun (A : Unit × Int × Unit) => [Rv.sv (.val (eI A.2.1))]) (row := row) (wCons (wPlc0 1) (wCons (wCall (wCons (wPlc 5 (.lst (List.map (eL eS) s56))) wNil) (fun (A : Unit × Unit) => (opLenL (e := (eL eS))) s56)) wNil)) (fun (A : Unit × Int × Unit) => cr_taken A.2.1)) (wCons (wCallI (rs := fun (A : Unit × Int × Unit) => [Rv.sv (.val (eI A.2.1))]) (row := row) (wCons (wPlc0 1) (wCons (wInt 5) wNil)) (fun (A : Unit × Int × Unit) => cr_taken A.2.1)) wNil))) (fun (A58 : Int × Int × Unit) => (sSeqK (sAsg (K := (fun (place59 : Int) (w : RW) => [some (.val (flsD (List.map PyData.int script))), some (.own (row w)), some (.val (eI turn1)), some (.val ((eT (eT eI)) covers_here33)), some (.val ((eT eI) A47.1)), some (.own (.lst (List.map (eL eS) s56))), none, none, some (.own (.lst (List.map eS odd55))), some (.val (eI change57)), some (.val (eI A58.1)), some (.val (eI A58.2.1)), some (.val (eI place59)), none, none, none])) (wCallI (rs := fun (A : Unit × Int × Unit) => [Rv.sv (.val (eI A.2.1))]) (row := row) (wCons (wPlc0 1) (wCons (wBin (wCall (wCons (wBin (wPlc 5 (.lst (List.map (eL eS) s56))) (wVar 10 eI A58.1) (fun A B => (opIxL (e := (eL eS))) s56 B)) wNil) (fun (A : (List Str) × Unit) => (opLenL (e := eS)) A.1)) (wInt 1) (fun A B => opAdd A B)) wNil)) (fun (A : Unit × Int × Unit) => cr_taken A.2.1))) (fun (place59 : Int) => (sReK (ks := [9, 10, 11, 12]) (K' := (fun (s56 : (List (List Str))) (w : RW) => [some (.val (flsD (List.map PyData.int script))), some (.own (row w)), some (.val (eI turn1)), some (.val ((eT (eT eI)) covers_here33)), some (.val ((eT eI) A47.1)), some (.own (.lst (List.map (eL eS) s56))), none, none, some (.own (.lst (List.map eS odd55))), none, none, none, none, none, none, none])) (fun (v74 : (List (List Str))) => v74) (sIfW (wTb (wBin (wVar 11 eI A58.2.1) (wInt 0) (fun A B => (opEq (e := eI)) A B))) (sRe (K' := (fun (v74 : (List (List Str))) (w : RW) => [some (.val (flsD (List.map PyData.int script))), some (.own (row w)), some (.val (eI turn1)), some (.val ((eT (eT eI)) covers_here33)), some (.val ((eT eI) A47.1)), some (.own (.lst (List.map (eL eS) v74))), none, none, some (.own (.lst (List.map eS odd55))), some (.val (eI change57)), some (.val (eI A58.1)), some (.val (eI A58.2.1)), some (.val (eI place59)), none, none, none])) (fun (lines60 : List (List Str)) => lines60) (sStoW (e := (eL eS)) (l := s56) (v := fun A => A) (R3 := (fun (w : RW) => [some (.val (flsD (List.map PyData.int script))), some (.own (row w)), some (.val (eI turn1)), some (.val ((eT (eT eI)) covers_here33)), some (.val ((eT eI) A47.1)), some (.own (.lst (List.map (eL eS) s56))), none, none, some (.own (.lst (List.map eS odd55))), some (.val (eI change57)), some (.val (eI A58.1)), some (.val (eI A58.2.1)), some (.val (eI place59)), none, none, none])) (K := (fun (lines60 : List (List Str)) (w : RW) => [some (.val (flsD (List.map PyData.int script))), some (.own (row w)), some (.val (eI turn1)), some (.val ((eT (eT eI)) covers_here33)), some (.val ((eT eI) A47.1)), some (.own (.lst (List.map (eL eS) lines60))), none, none, some (.own (.lst (List.map eS odd55))), some (.val (eI change57)), some (.val (eI A58.1)), some (.val (eI A58.2.1)), some (.val (eI place59)), none, none, none])) (wBin (wSl (wBin (wPlc 5 (.lst (List.map (eL eS) s56))) (wVar 10 eI A58.1) (fun A B => (opIxL (e := (eL eS))) s56 B)) (fun A => opSlL (e := eS) none (some place59) A)) (wSl (wBin (wPlc 5 (.lst (List.map (eL eS) s56))) (wVar 10 eI A58.1) (fun A B => (opIxL (e := (eL eS))) s56 B)) (fun A => opSlL (e := eS) (some (place59 + 1)) none A)) (fun A B => (opCatL (e := eS)) A B)) (wVar 10 eI A58.1))) (sRe (K' := (fun (v74 : (List (List Str))) (w : RW) => [some (.val (flsD (List.map PyData.int script))), some (.own (row w)), some (.val (eI turn1)), some (.val ((eT (eT eI)) covers_here33)), some (.val ((eT eI) A47.1)), some (.own (.lst (List.map (eL eS) v74))), none, none, some (.own (.lst (List.map eS odd55))), some (.val (eI change57)), some (.val (eI A58.1)), some (.val (eI A58.2.1)), some (.val (eI place59)), none, none, none])) (fun (v73 : (List (List Str))) => v73) (sIfW (wTb (wBin (wVar 11 eI A58.2.1) (wInt 1) (fun A B => (opEq (e := eI)) A B))) (sRe (K' := (fun (v73 : (List (List Str))) (w : RW) => [some (.val (flsD (List.map PyData.int script))), some (.own (row w)), some (.val (eI turn1)), some (.val ((eT (eT eI)) covers_here33)), some (.val ((eT eI) A47.1)), some (.own (.lst (List.map (eL eS) v73))), none, none, some (.own (.lst (List.map eS odd55))), some (.val (eI change57)), some (.val (eI A58.1)), some (.val (eI A58.2.1)), some (.val (eI place59)), none, none, none])) (fun (lines64 : List (List Str)) => lines64) (sStoW (e := (eL eS)) (l := s56) (v := fun A => A) (R3 := (fun (w : RW) => [some (.val (flsD (List.map PyData.int script))), some (.own (row w)), some (.val (eI turn1)), some (.val ((eT (eT eI)) covers_here33)), some (.val ((eT eI) A47.1)), some (.own (.lst (List.map (eL eS) s56))), none, none, some (.own (.lst (List.map eS odd55))), some (.val (eI change57)), some (.val (eI A58.1)), some (.val (eI A58.2.1)), some (.val (eI place59)), none, none, none])) (K := (fun (lines64 : List (List Str)) (w : RW) => [some (.val (flsD (List.map PyData.int script))), some (.own (row w)), some (.val (eI turn1)), some (.val ((eT (eT eI)) covers_here33)), some (.val ((eT eI) A47.1)), some (.own (.lst (List.map (eL eS) lines64))), none, none, some (.own (.lst (List.map eS odd55))), some (.val (eI change57)), some (.val (eI A58.1)), some (.val (eI A58.2.1)), some (.val (eI place59)), none, none, none])) (wBin (wBin (wSl (wBin (wPlc 5 (.lst (List.map (eL eS) s56))) (wVar 10 eI A58.1) (fun A B => (opIxL (e := (eL eS))) s56 B)) (fun A => opSlL (e := eS) none (some place59) A)) (wLst (e := eS) (f := (fun (A : Str × Unit) => [A.1])) (wCons (wCallIN (rs := fun (A : Unit × Unit × Unit) => [Rv.plc 8]) (wCons (wPlc0 1) (wCons (wPlc 8 (.lst (List.map eS odd55))) wNil)) (fun (A : Unit × Unit × Unit) => tw_l_pick odd55) nlV) wNil)) (fun A B => (opCatL (e := eS)) A B)) (wSl (wBin (wPlc 5 (.lst (List.map (eL eS) s56))) (wVar 10 eI A58.1) (fun A B => (opIxL (e := (eL eS))) s56 B)) (fun A => opSlL (e := eS) (some place59) none A)) (fun A B => (opCatL (e := eS)) A B)) (wVar 10 eI A58.1))) (sRe (K' := (fun (v73 : (List (List Str))) (w : RW) => [some (.val (flsD (List.map PyData.int script))), some (.own (row w)), some (.val (eI turn1)), some (.val ((eT (eT eI)) covers_here33)), some (.val ((eT eI) A47.1)), some (.own (.lst (List.map (eL eS) v73))), none, none, some (.own (.lst (List.map eS odd55))), some (.val (eI change57)), some (.val (eI A58.1)), some (.val (eI A58.2.1)), some (.val (eI place59)), none, none, none])) (fun (v72 : (List (List Str))) => v72) (sIfW (wTb (wBin (wVar 11 eI A58.2.1) (wInt 2) (fun A B => (opEq (e := eI)) A B))) (sRe (K' := (fun (v72 : (List (List Str))) (w : RW) => [some (.val (flsD (List.map PyData.int script))), some (.own (row w)), some (.val (eI turn1)), some (.val ((eT (eT eI)) covers_here33)), some (.val ((eT eI) A47.1)), some (.own (.lst (List.map (eL eS) v72))), none, none, some (.own (.lst (List.map eS odd55))), some (.val (eI change57)), some (.val (eI A58.1)), some (.val (eI A58.2.1)), some (.val (eI place59)), none, none, none])) (fun (lines65 : List (List Str)) => lines65) (sStoW (e := (eL eS)) (l := s56) (v := fun A => A) (R3 := (fun (w : RW) => [some (.val (flsD (List.map PyData.int script))), some (.own (row w)), some (.val (eI turn1)), some (.val ((eT (eT eI)) covers_here33)), some (.val ((eT eI) A47.1)), some (.own (.lst (List.map (eL eS) s56))), none, none, some (.own (.lst (List.map eS odd55))), some (.val (eI change57)), some (.val (eI A58.1)), some (.val (eI A58.2.1)), some (.val (eI place59)), none, none, none])) (K := (fun (lines65 : List (List Str)) (w : RW) => [some (.val (flsD (List.map PyData.int script))), some (.own (row w)), some (.val (eI turn1)), some (.val ((eT (eT eI)) covers_here33)), some (.val ((eT eI) A47.1)), some (.own (.lst (List.map (eL eS) lines65))), none, none, some (.own (.lst (List.map eS odd55))), some (.val (eI change57)), some (.val (eI A58.1)), some (.val (eI A58.2.1)), some (.val (eI place59)), none, none, none])) (wBin (wBin (wSl (wBin (wPlc 5 (.lst (List.map (eL eS) s56))) (wVar 10 eI A58.1) (fun A B => (opIxL (e := (eL eS))) s56 B)) (fun A => opSlL (e := eS) none (some place59) A)) (wLst (e := eS) (f := (fun (A : Str × Unit) => [A.1])) (wCons (wCallIN (rs := fun (A : Unit × Unit × Unit) => [Rv.plc 8]) (wCons (wPlc0 1) (wCons (wPlc 8 (.lst (List.map eS odd55))) wNil)) (fun (A : Unit × Unit × Unit) => tw_l_pick odd55) nlV) wNil)) (fun A B => (opCatL (e := eS)) A B)) (wSl (wBin (wPlc 5 (.lst (List.map (eL eS) s56))) (wVar 10 eI A58.1) (fun A B => (opIxL (e := (eL eS))) s56 B)) (fun A => opSlL (e := eS) (some (place59 + 1)) none A)) (fun A B => (opCatL (e := eS)) A B)) (wVar 10 eI A58.1))) (sRe (K' := (fun (v72 : (List (List Str))) (w : RW) => [some (.val (flsD (List.map PyData.int script))), some (.own (row w)), some (.val (eI turn1)), some (.val ((eT (eT eI)) covers_here33)), some (.val ((eT eI) A47.1)), some (.own (.lst (List.map (eL eS) v72))), none, none, some (.own (.lst (List.map eS odd55))), some (.val (eI change57)), some (.val (eI A58.1)), some (.val (eI A58.2.1)), some (.val (eI place59)), none, none, none])) (fun (v71 : (List (List Str))) => v71) (sIfW (wTb (wBin (wVar 11 eI A58.2.1) (wInt 3) (fun A B => (opEq (e := eI)) A B))) (sRe (K' := (fun (v71 : (List (List Str))) (w : RW) => [some (.val (flsD (List.map PyData.int script))), some (.own (row w)), some (.val (eI turn1)), some (.val ((eT (eT eI)) covers_here33)), some (.val ((eT eI) A47.1)), some (.own (.lst (List.map (eL eS) v71))), none, none, some (.own (.lst (List.map eS odd55))), some (.val (eI change57)), some (.val (eI A58.1)), some (.val (eI A58.2.1)), some (.val (eI place59)), none, none, none])) (fun (lines69 : List (List Str)) => lines69) (sMut (e := (eL eS)) (l := s56) (R2 := (fun (w : RW) => [some (.val (flsD (List.map PyData.int script))), some (.own (row w)), some (.val (eI turn1)), some (.val ((eT (eT eI)) covers_here33)), some (.val ((eT eI) A47.1)), some (.own (.lst (List.map (eL eS) s56))), none, none, some (.own (.lst (List.map eS odd55))), some (.val (eI change57)), some (.val (eI A58.1)), some (.val (eI A58.2.1)), some (.val (eI place59)), none, none, none])) (K := (fun (lines69 : List (List Str)) (w : RW) => [some (.val (flsD (List.map PyData.int script))), some (.own (row w)), some (.val (eI turn1)), some (.val ((eT (eT eI)) covers_here33)), some (.val ((eT eI) A47.1)), some (.own (.lst (List.map (eL eS) lines69))), none, none, some (.own (.lst (List.map eS odd55))), some (.val (eI change57)), some (.val (eI A58.1)), some (.val (eI A58.2.1)), some (.val (eI place59)), none, none, none])) (wCons (wVar 10 eI A58.1) (wCons (wCallI (rs := fun (A : Unit × (List (List Str)) × Unit) => [Rv.sv (.own (.lst (List.map (eL eS) A.2.1)))]) (row := row) (wCons (wPlc0 1) (wCons (wLst (e := (eL eS)) (f := (fun (A : (List Str) × (List Str) × (List Str) × Unit) => [A.1, A.2.1, A.2.2.1])) (wCons (wLst (e := eS) (f := (fun (A : Unit) => ([] : (List Str)))) wNil) (wCons (wLst (e := eS) (f := (fun (A : Str × Str × Str × Str × Unit) => [A.1, A.2.1, A.2.2.1, A.2.2.2.1])) (wCons (wStr "block") (wCons (wCall (wCons (wVar 10 eI A58.1) wNil) (fun (A : Int × Unit) => opStrI A.1)) (wCons (wStr "worth") (wCons (wStr "0") wNil))))) (wCons (wCall (wCons (wBin (wPlc 5 (.lst (List.map (eL eS) s56))) (wVar 10 eI A58.1) (fun A B => (opIxL (e := (eL eS))) s56 B)) wNil) (fun (A : (List Str) × Unit) => (opListL (e := eS)) A.1)) wNil)))) wNil)) (fun (A : Unit × (List (List Str)) × Unit) => tw_l_pick_2 A.2.1)) wNil)) (fun (A : Int × (List Str) × Unit) Q q => f_ins (e := (eL eS)) A.1 A.2.1 Q q))) (sRe (K' := (fun (v71 : (List (List Str))) (w : RW) => [some (.val (flsD (List.map PyData.int script))), some (.own (row w)), some (.val (eI turn1)), some (.val ((eT (eT eI)) covers_here33)), some (.val ((eT eI) A47.1)), some (.own (.lst (List.map (eL eS) v71))), none, none, some (.own (.lst (List.map eS odd55))), some (.val (eI change57)), some (.val (eI A58.1)), some (.val (eI A58.2.1)), some (.val (eI place59)), none, none, none])) (fun (lines70 : List (List Str)) => lines70) (sMut (e := (eL eS)) (l := s56) (R2 := (fun (w : RW) => [some (.val (flsD (List.map PyData.int script))), some (.own (row w)), some (.val (eI turn1)), some (.val ((eT (eT eI)) covers_here33)), some (.val ((eT eI) A47.1)), some (.own (.lst (List.map (eL eS) s56))), none, none, some (.own (.lst (List.map eS odd55))), some (.val (eI change57)), some (.val (eI A58.1)), some (.val (eI A58.2.1)), some (.val (eI place59)), none, none, none])) (K := (fun (lines70 : List (List Str)) (w : RW) => [some (.val (flsD (List.map PyData.int script))), some (.own (row w)), some (.val (eI turn1)), some (.val ((eT (eT eI)) covers_here33)), some (.val ((eT eI) A47.1)), some (.own (.lst (List.map (eL eS) lines70))), none, none, some (.own (.lst (List.map eS odd55))), some (.val (eI change57)), some (.val (eI A58.1)), some (.val (eI A58.2.1)), some (.val (eI place59)), none, none, none])) (wCons (wLst (e := eS) (f := (fun (A : Str × Str × Str × Str × Unit) => [A.1, A.2.1, A.2.2.1, A.2.2.2.1])) (wCons (wStr "block") (wCons (wCall (wCons (wCall (wCons (wPlc 5 (.lst (List.map (eL eS) s56))) wNil) (fun (A : Unit × Unit) => (opLenL (e := (eL eS))) s56)) wNil) (fun (A : Int × Unit) => opStrI A.1)) (wCons (wStr "worth") (wCons (wStr "1") wNil))))) wNil) (fun (A : (List Str) × Unit) Q q => f_app (e := (eL eS)) A.1 Q q)))))))))))))))))) (fun (v75 : (List (List Str))) => (lSeq (sAsg (K := (fun (text77 : Str) (w : RW) => [some (.val (flsD (List.map PyData.int script))), some (.own (row w)), some (.val (eI turn1)), some (.val ((eT (eT eI)) covers_here33)), some (.val ((eT eI) A47.1)), some (.val ((eL (eL eS)) v75)), none, none, some (.own (.lst (List.map eS odd55))), none, none, none, none, some (.val (eS text77)), none, none])) (wJoin (l := fun (A : (List Str) × Unit) => A.1) (wStr "
") (wCons (wMap (R0 := (fun (w : RW) => [some (.val (flsD (List.map PyData.int script))), some (.own (row w)), some (.val (eI turn1)), some (.val ((eT (eT eI)) covers_here33)), some (.val ((eT eI) A47.1)), some (.val ((eL (eL eS)) v75)), none, none, some (.own (.lst (List.map eS odd55))), none, none, none, none, none, none, none])) (Rb := (fun (words76 : (List Str)) (w : RW) => [some (.val (flsD (List.map PyData.int script))), some (.own (row w)), some (.val (eI turn1)), some (.val ((eT (eT eI)) covers_here33)), some (.val ((eT eI) A47.1)), some (.val ((eL (eL eS)) v75)), none, some (.val ((eL eS) words76)), some (.own (.lst (List.map eS odd55))), none, none, none, none, none, none, none])) (Rc := (fun (words76 : (List Str)) (w : RW) => [some (.val (flsD (List.map PyData.int script))), some (.own (row w)), some (.val (eI turn1)), some (.val ((eT (eT eI)) covers_here33)), some (.val ((eT eI) A47.1)), some (.val ((eL (eL eS)) v75)), none, some (.val ((eL eS) words76)), some (.own (.lst (List.map eS odd55))), none, none, none, none, none, none, none])) (e' := eS) (v := fun words76 A => A) (wSeq (e := (eL eS)) (l := fun A => v75) (R2 := (fun (w : RW) => [some (.val (flsD (List.map PyData.int script))), some (.own (row w)), some (.val (eI turn1)), some (.val ((eT (eT eI)) covers_here33)), some (.val ((eT eI) A47.1)), some (.val ((eL (eL eS)) v75)), none, none, some (.own (.lst (List.map eS odd55))), none, none, none, none, none, none, none])) (wPlc 5 (.lst (List.map (eL eS) v75)))) (fun words76 => (wJoin (l := fun (A : (List Str) × Unit) => A.1) (wStr " ") (wCons (wVar 7 (eL eS) words76) wNil)))) wNil))) (fun (text77 : Str) => (lIf (wTb (wBin (wCallV (wCons (wVar 13 eS text77) wNil) (fun (A : Str × Unit) => tw_l_told A.1)) (wCallV (wCons (wVar 13 eS text77) wNil) (fun (A : Str × Unit) => tw_l_due A.1)) (fun A B => (opNe (e := (eO (eP eI eI)))) A B))) (lF (fRet (v := fun A => A) (wBl false))) (lS (f := fun (_ : Unit) => ()) sPassW)))))))))))))))))) (fun (v248 : Unit) => (nSeq (sAsg (K := (fun (short252 : Str) (w : RW) => [some (.val (flsD (List.map PyData.int script))), some (.own (row w)), none, none, none, none, none, none, none, none, none, none, none, none, some (.val (eS short252)), none])) (wCallI (rs := fun (A : Unit × (List Str) × Unit) => [Rv.sv (.own (.lst (List.map eS A.2.1)))]) (row := row) (wCons (wPlc0 1) (wCons (wLst (e := eS) (f := (fun (A : Str × Str × Str × Str × Str × Str × Str × Unit) => [A.1, A.2.1, A.2.2.1, A.2.2.2.1, A.2.2.2.2.1, A.2.2.2.2.2.1, A.2.2.2.2.2.2.1])) (wCons (wStr "") (wCons (wStr "
") (wCons (wStr " ") (wCons (wStr "block") (wCons (wStr "block 0") (wCons (wStr "block 0 worth") (wCons (wStr "block 0 worth 1
") wNil)))))))) wNil)) (fun (A : Unit × (List Str) × Unit) => tw_l_pick_3 A.2.1))) (fun (short252 : Str) => (nF (fRet (v := fun A => A) (wAnd (wBin (wCallV (wCons (wVar 14 eS short252) wNil) (fun (A : Str × Unit) => tw_l_due A.1)) wNon (fun A B => (opIsNot (e := (eP eI eI))) A B)) (wBin (wCallV (wCons (wVar 14 eS short252) wNil) (fun (A : Str × Unit) => tw_l_told A.1)) (wCallV (wCons (wVar 14 eS short252) wNil) (fun (A : Str × Unit) => tw_l_due A.1)) (fun A B => (opEq (e := (eO (eP eI eI)))) A B)))))))))))
  try dsimp only [retW, ifW, andW, orW] at h
  unfold t_law
  try dsimp only [retW, ifW, andW, orW]
  exact crLaw (nl := 16) (fun (w : RW) => [some (.val (flsD (List.map PyData.int script))), none, none, none, none, none, none, none, none, none, none, none, none, none, none, none]) h
end Lw

namespace Lw
open PySem Pv Tv Ma
theorem cut_sub {l : List Int} {a b : Option Int} : (cutL l a b).Sublist l := (List.take_sublist _ _).trans (List.drop_sublist _ _)
theorem sp_covers {most : Int} {Q : Cv → Prop} (h0 : 0 < most) (h1 : most ≤ 100) (q : ∀ c, Vcv c → 1 ≤ c.length → (c.length : Int) ≤ most → Q c) : t_l_covers most Q := by
  unfold t_l_covers
  refine takenW_ok (by decide) (by decide) fun way w1 w2 => takenW_ok h0 (by omega) fun r r1 r2 => ?_
  simp only [retW]
  refine rangeW_ok (by omega) (by omega) (forW_inv (fun k c => c.length = k ∧ Vcv c) 0 ⟨rfl, Vcv.nil⟩ ?_ fun c hc => ?_)
  · rintro i x c hx ⟨hl, hv⟩ Q q
    obtain ⟨hi, rfl⟩ := rangeL_get' hx
    simp only [Int.zero_add, Nat.zero_add] at *
    refine rangeW_ok (by omega) (by omega) ?_
    have lot : ∀ m : Lt, m.Sublist (rangeL 0 i) → Lot i m := fun m hm => Lot.range.sub hm
    refine compW_sub (by rw [rangeL_len]; omega) (fun x _ Q q => takenW_ok (by decide) (by decide) fun _ _ _ => q _) (fun _ _ Q q => q) fun m hm => ?_
    have hm : Lot i m := lot m (by simpa using hm)
    refine ifW_inv (Lot i) (fun _ Q q => q _ Lot.nil) (fun _ Q q => q _ hm) fun m hm => ?_
    refine ifW_inv (Lot i) (fun _ Q q => rgW_ok (by omega) (by omega) (q _ (lot _ ?_))) (fun _ Q q => q _ hm) fun m hm => ?_
    · exact cut_sub
    refine ifW_inv (Lot i) (fun _ Q q => rangeW_ok (by omega) (by omega) (compW_f (fun x => decide (2 * x < 1 + r) && decide (1 + r ≤ 2 * i)) (by rw [rangeL_len]; omega) (fun x _ Q q => mulW_l (by decide) (by decide) ?_) (fun _ _ Q q => q) (q _ (lot _ ?_)))) (fun _ Q q => q _ hm) fun m hm => ?_
    · exact andW_ok _ _ (fun Q q => q) (fun _ Q q => mulW_l (by decide) (by decide) q) q
    · exact List.filter_sublist
    refine ifW_inv (Lot i) (fun _ Q q => compW_f (fun x => decide ((i : Int) - x < 3)) (by have := asc_len hm; omega) (fun x _ Q q => q) (fun _ _ Q q => q) (q _ (hm.sub List.filter_sublist))) (fun _ Q q => q _ hm) fun m hm => ?_
    refine appW_ok (by omega) (q _ ⟨by simp [hl], hv.snoc (by rw [hl]; exact hm.2) hm.1⟩)
  · obtain ⟨hl, hv⟩ := hc
    rw [rangeL_len] at hl
    exact q c hv (by omega) (by omega)
theorem sp_l_worths {n : Nat} {Q : List Int → Prop} (h : n ≤ 1000) (q : ∀ w, Wor n w → Q w) : t_l_worths (n : Int) Q := by
  unfold t_l_worths
  refine takenW_ok (by decide) (by decide) fun st s1 s2 => ?_
  simp only [retW]
  have hs : ∀ l : List Int, l = [3, 5, 9, 51, 51, 2] ∨ l = [3, 5, 9, 51, 4, 2] → ∃ x, l[st.toNat]? = some x ∧ 0 < x ∧ x ≤ 51 := by
    intro l hl
    have : st = 0 ∨ st = 1 ∨ st = 2 ∨ st = 3 ∨ st = 4 ∨ st = 5 := by omega
    rcases hl with rfl | rfl <;> rcases this with rfl | rfl | rfl | rfl | rfl | rfl <;> exact ⟨_, rfl, by decide, by decide⟩
  obtain ⟨x, hx, x1, x2⟩ := hs _ (.inl rfl)
  obtain ⟨y, hy, y1, y2⟩ := hs _ (.inr rfl)
  refine rangeW_nat (by omega) ?_
  refine forW_inv (fun k w => Wor k w) 0 ⟨rfl, by simp⟩ ?_ fun w hw => q w (by rw [rangeL_len, Nat.zero_add] at hw; exact hw)
  rintro i z w hz hw Q q
  obtain ⟨hi, rfl⟩ := rangeL_get' hz
  rw [Nat.zero_add] at hw q
  refine ixW_ok s1 hx (takenW_ok x1 (by omega) fun a a1 a2 => ixW_ok s1 hy (takenW_ok y1 (by omega) fun b b1 b2 => ?_))
  refine appW_ok (by rw [hw.len]; omega) (q _ ⟨by simp [hw.len], fun v hv => ?_⟩)
  rcases List.mem_append.mp hv with hv | hv
  · exact hw.bd v hv
  · have hv : v = b - a := by simpa using hv
    omega
theorem sp_l_pick {l : List Str} {Q : Str → Prop} (h : l ≠ []) (hl : l.length < 1000000) (q : ∀ x ∈ l, Q x) : t_l_pick l Q := by
  have := List.length_pos_iff.mpr h
  refine takenW_ok (by omega) (by omega) fun r h1 h2 => ?_
  have h3 : r.toNat < l.length := by omega
  exact ixW_ok h1 (List.getElem?_eq_getElem h3) (q _ (List.getElem_mem h3))
theorem sp_l_pick_2 {l : List (List Str)} {Q : List Str → Prop} (h : l ≠ []) (hl : l.length < 1000000) (q : ∀ x ∈ l, Q x) : t_l_pick_2 l Q := by
  have := List.length_pos_iff.mpr h
  refine takenW_ok (by omega) (by omega) fun r h1 h2 => ?_
  have h3 : r.toNat < l.length := by omega
  exact ixW_ok h1 (List.getElem?_eq_getElem h3) (q _ (List.getElem_mem h3))
theorem sp_number_of {w : Str} {lo hi : Int} {Q : Option Int → Prop} (h1 : -1000 ≤ lo) (h2 : lo ≤ 1000) (h3 : -1000 ≤ hi) (h4 : hi ≤ 1000) (q : Q (numK w lo hi)) : t_number_of w lo hi Q := by
  refine range2W_ok (by omega) (by omega) (by omega) (by omega) (compW_ok (fun n => decide (txtK n = w)) (fun n => n) (by rw [rangeL_len]; omega) (fun n hn Q q => ?_) (fun n _ _ Q q => q) ?_)
  · have hn := mem_rangeL.mp hn
    exact strW_ok (by omega) q
  · rw [List.map_id']
    unfold numK at q
    cases e : (rangeL lo (hi + 1 - lo).toNat).filter fun n => decide (txtK n = w) with
    | nil => rw [e] at q; exact q
    | cons x l => rw [e] at q; exact ixW_ok (by omega) rfl q
theorem sp_can_be {ws : List Str} {k : Nat} {b least : Int} {Q : Bool → Prop} (hk : k < ws.length) (h0 : 0 ≤ b) (h1 : b ≤ 10) (h5 : k = 5 → least = 0) (h6 : 6 ≤ k → ∃ m, numK (ws.getD (k - 1) "") 0 b = some m ∧ least = m + 1) (q : Q (goodK b k least ws[k])) : t_can_be ws k b Q := by
  refine ixW_ok (by omega) (x := ws[k]) (by rw [Int.toNat_natCast]; exact List.getElem?_eq_getElem hk) ?_
  by_cases h3 : k < 4
  · rw [if_pos (decide_eq_true (by omega))]
    refine sp_number_of (by decide) (by decide) (by decide) (by decide) ?_
    refine strW_ok (by omega) ?_
    have : k = 0 ∨ k = 1 ∨ k = 2 ∨ k = 3 := by omega
    rcases this with rfl | rfl | rfl | rfl
    · exact ixW_ok (by omega) rfl q
    · exact ixW_ok (by omega) rfl q
    · exact ixW_ok (by omega) rfl q
    · refine ixW_ok (by omega) rfl ?_
      have e : goodK b 3 least ws[3] = !(numK ws[3] (-50) 50).isNone := by
        show (numK ws[3] (-50) 50).isSome = _
        cases numK ws[3] (-50) 50 <;> rfl
      rw [e] at q
      exact q
  · rw [if_neg (by simp only [decide_eq_true_eq]; omega)]
    by_cases h4 : k = 4
    · subst h4
      rw [if_pos (by decide)]
      exact q
    · rw [if_neg (by simp only [decide_eq_true_eq]; omega)]
      have g5 : goodK b k least ws[k] = !(numK ws[k] least (b - 1)).isNone := by
        unfold goodK
        rw [if_neg (by omega), if_neg (by omega), if_neg (by omega), if_neg (by omega), if_neg (by omega)]
        cases numK ws[k] least (b - 1) <;> rfl
      rw [g5] at q
      refine ifW_ok (fun h => ?_) (fun h => ?_)
      · have h := of_decide_eq_true h
        obtain ⟨m, em, el⟩ := h6 (by omega)
        have hk1 : k - 1 < ws.length := by omega
        have ew : ws.getD (k - 1) "" = ws[k - 1] := by rw [List.getD_eq_getElem?_getD, List.getElem?_eq_getElem hk1] <;> rfl
        rw [ew] at em
        obtain ⟨g1, g2, _⟩ := numK_some em
        refine ixW_ok (by omega) (x := ws[k - 1]) (by rw [show ((k : Int) - 1).toNat = k - 1 by omega]; exact List.getElem?_eq_getElem hk1) ?_
        refine sp_number_of (by decide) (by decide) (by omega) (by omega) ⟨m, em, ?_⟩
        subst el
        exact sp_number_of (by omega) (by omega) (by omega) (by omega) q
      · have h := of_decide_eq_false h
        have := h5 (by omega)
        subst this
        exact sp_number_of (by decide) (by decide) (by omega) (by omega) q
def chkK (b : Int) (ws : List Str) : (Int × List Int) ⊕ Xp := match lineK b ws with
  | some j => .inr ("InvalidText", [("word", .int (j : Int)), ("line", .int (b + 1))])
  | none => .inl ((numK (ws.getD 3 "") (-50) 50).getD 0, (ws.drop 5).map fun w => (numK w 0 10).getD 0)
theorem chkG_good {b : Int} {ws : List Str} {p : Int} {u s' : Unit} (e : chkG b ws p u = .inl s') : b ≠ 10 ∧ goodK b p.toNat (leastK b ws p.toNat) (ws.getD p.toNat "") = true := by
  unfold chkG at e
  by_cases h : b = 10
  · rw [if_pos h] at e; cases e
  · rw [if_neg h] at e
    by_cases hg : goodK b p.toNat (leastK b ws p.toNat) (ws.getD p.toNat "") = true
    · exact ⟨h, hg⟩
    · rw [if_neg hg] at e; cases e
theorem leastK_nn (b : Int) (ws : List Str) : ∀ i, 0 ≤ leastK b ws i
  | 0 => Int.le_refl 0
  | i + 1 => by
    have h := leastK_nn b ws i
    show 0 ≤ nextK b i (leastK b ws i) (ws.getD i "")
    unfold nextK
    split
    · cases e : numK (ws.getD i "") (leastK b ws i) (b - 1) with
      | none => exact h
      | some n =>
        obtain ⟨g1, _, _⟩ := numK_some e
        show 0 ≤ n + 1
        omega
    · exact h
def liftK (b : Int) (x : Int) : (Int × List Int) ⊕ Xp := .inr ("InvalidText", [("word", .int x), ("line", .int (b + 1))])
def chkG' (b : Int) (ws : List Str) (p : Int) (u : Unit) : Sum Unit ((Int × List Int) ⊕ Xp) := match chkG b ws p u with
  | .inl s => .inl s
  | .inr x => .inr (liftK b x)
theorem chkG'_run (b : Int) (ws : List Str) : ∀ (l : List Int) (u : Unit), runG (chkG' b ws) l u = match runG (chkG b ws) l u with
    | .inl s => .inl s
    | .inr x => .inr (liftK b x)
  | [], u => rfl
  | p :: l, u => by
    rw [runG, runG]
    unfold chkG'
    cases e : chkG b ws p u with
    | inl s => exact chkG'_run b ws l s
    | inr x => rfl
theorem chk_turn {b : Int} {ws : List Str} (h0 : 0 ≤ b) (h1 : b ≤ 10) {k : Nat} (hk : k < ws.length) (hI : ∀ j, j < k → b ≠ 10 ∧ goodK b j (leastK b ws j) (ws.getD j "") = true) (hne : b ≠ 10) {Q : Bool → Prop} (q : Q (goodK b k (leastK b ws k) ws[k])) : t_can_be ws k b Q := by
  refine sp_can_be hk h0 h1 (fun h => by subst h; exact leastK_five b ws 5 (Nat.le_refl 5)) (fun h6 => ?_) q
  obtain ⟨j, rfl⟩ : ∃ j, k = j + 1 := ⟨k - 1, by omega⟩
  obtain ⟨_, hg⟩ := hI j (by omega)
  have g5 : goodK b j (leastK b ws j) (ws.getD j "") = (numK (ws.getD j "") (leastK b ws j) (b - 1)).isSome := by
    unfold goodK
    rw [if_neg (by omega), if_neg (by omega), if_neg (by omega), if_neg (by omega), if_neg (by omega)]
  rw [g5] at hg
  cases e : numK (ws.getD j "") (leastK b ws j) (b - 1) with
  | none => rw [e] at hg; cases hg
  | some m =>
    refine ⟨m, ?_, ?_⟩
    · rw [Nat.add_sub_cancel]
      exact numK_wide e (leastK_nn b ws j) (by omega) (Int.le_refl 0) h1 (leastK_nn b ws j) (by omega)
    · show nextK b j (leastK b ws j) (ws.getD j "") = m + 1
      unfold nextK
      rw [if_pos (by omega), e]
theorem runK_step {b : Int} {i : Nat} {l : Int} {w : Str} {r : List Str} (h : runK b i l (w :: r) = none) : goodK b i l w = true ∧ runK b (i + 1) (nextK b i l w) r = none := by
  rw [runK] at h
  by_cases hg : goodK b i l w = true
  · rw [if_pos hg] at h; exact ⟨hg, h⟩
  · rw [if_neg hg] at h; cases h
theorem nextK_low {b : Int} {i : Nat} {l : Int} {w : Str} (h : i < 5) : nextK b i l w = l := by
  unfold nextK
  rw [if_neg (by omega)]
theorem runK_tail {b : Int} {ws : List Str} (h : runK b 0 0 ws = none) (h4 : ¬ (ws.length < 4 ∨ ws.length = 5)) : (∃ m, numK (ws.getD 3 "") (-50) 50 = some m) ∧ runK b 5 0 (ws.drop 5) = none ∧ 4 ≤ ws.length := by
  match ws, h, h4 with
  | [], _, h4 => exact absurd (Or.inl (by simp)) h4
  | [_], _, h4 => exact absurd (Or.inl (by simp)) h4
  | [_, _], _, h4 => exact absurd (Or.inl (by simp)) h4
  | [_, _, _], _, h4 => exact absurd (Or.inl (by simp)) h4
  | a0 :: a1 :: a2 :: a3 :: r, h, _ =>
    have s0 := (runK_step h).2
    rw [nextK_low (by decide)] at s0
    have s1 := (runK_step s0).2
    rw [nextK_low (by decide)] at s1
    have s2 := (runK_step s1).2
    rw [nextK_low (by decide)] at s2
    obtain ⟨g3, s3⟩ := runK_step s2
    rw [nextK_low (by decide)] at s3
    have g3 : (numK a3 (-50) 50).isSome = true := g3
    refine ⟨Option.isSome_iff_exists.mp g3, ?_, by simp⟩
    match r, s3 with
    | [], _ => rfl
    | a4 :: r, s3 =>
      have s4 := (runK_step s3).2
      rw [nextK_low (by decide)] at s4
      exact s4
theorem sp_checked {ws : List Str} {b n : Int} {Q : (Int × List Int) ⊕ Xp → Prop} (en : n = b + 1) (h0 : 0 ≤ b) (h1 : b ≤ 10) (hl : ws.length ≤ 2000000) (q : Q (chkK b ws)) : t_checked ws n Q := by
  subst en
  have eb : b + 1 - 1 = b := by omega
  unfold t_checked
  dsimp only [retW]
  rw [eb]
  refine rangeW_ok (by omega) (by omega) ?_
  rw [Int.toNat_natCast]
  refine forR_run (chkG' b ws) (fun k _ => ∀ j, j < k → j < ws.length → b ≠ 10 ∧ goodK b j (leastK b ws j) (ws.getD j "") = true) 0 (fun j h => absurd h (by omega)) (fun k p u hk hI => ⟨fun Q q => ?_, fun s' e => ?_⟩) ?_
  · obtain ⟨hj, ea⟩ := rangeL_get' hk
    subst ea
    have ew : ws.getD k "" = ws[k] := by rw [List.getD_eq_getElem?_getD, List.getElem?_eq_getElem hj] <;> rfl
    have e0 : (0 : Int) + (k : Int) = k := by omega
    rw [e0] at q ⊢
    refine orW_ok (decide (b = 10)) (!goodK b k (leastK b ws k) ws[k]) (fun Q q => q) (fun hne Q q => ?_) ?_
    · exact chk_turn h0 h1 hj (fun j hjk => hI j (by omega) (by omega)) (of_decide_eq_false hne) q
    · unfold chkG' chkG at q
      rw [Int.toNat_natCast, ew] at q
      by_cases h : b = 10
      · rw [if_pos h] at q
        rw [decide_eq_true h, Bool.true_or, if_pos rfl]
        exact q
      · rw [if_neg h] at q
        rw [decide_eq_false h, Bool.false_or]
        cases hg : goodK b k (leastK b ws k) ws[k] with
        | true => rw [hg] at q; exact q
        | false => rw [hg] at q; exact q
  · obtain ⟨hj, ea⟩ := rangeL_get' hk
    subst ea
    intro j hjk hjw
    by_cases hlt : j < 0 + k
    · exact hI j hlt hjw
    · have : j = k := by omega
      subst this
      unfold chkG' at e
      cases ec : chkG b ws (0 + (j : Int)) u with
      | inl s =>
        have := chkG_good ec
        rw [show ((0 : Int) + (j : Int)).toNat = j by omega] at this
        exact this
      | inr x => rw [ec] at e; cases e
  · rw [chkG'_run]
    unfold chkK lineK at q
    by_cases h10 : 10 ≤ b
    · have hb : b = 10 := by omega
      rw [if_pos h10] at q
      cases ws with
      | nil => exact q
      | cons w r =>
        have e : runG (chkG b (w :: r)) (rangeL 0 (w :: r).length) () = .inr 1 := by
          rw [List.length_cons, rangeL_consK, runG]
          have : chkG b (w :: r) 0 () = .inr (0 + 1) := by
            unfold chkG
            rw [if_pos hb]
          rw [this]; rfl
        rw [e]
        exact q
    · rw [if_neg h10] at q
      have e := chkG_run (b := b) (by omega) (ws := ws) ws 0 rfl
      cases er : runK b 0 0 ws with
      | some j =>
        rw [show leastK b ws 0 = 0 from rfl, er] at e
        rw [er] at q
        dsimp only at e q
        rw [show rangeL 0 ws.length = rangeL ((0 : Nat) : Int) ws.length from rfl, e]
        rw [show (((j + 1 : Nat)) : Int) = (j : Int) + 1 by omega] at q
        exact q
      | none =>
        rw [show leastK b ws 0 = 0 from rfl, er] at e
        rw [er] at q
        dsimp only at e q
        rw [show rangeL 0 ws.length = rangeL ((0 : Nat) : Int) ws.length from rfl, e]
        show (if ((decide ((ws.length : Int) < 4)) || (decide ((ws.length : Int) = 5))) = true then _ else _)
        by_cases h4 : ws.length < 4 ∨ ws.length = 5
        · rw [if_pos h4] at q
          rw [if_pos (by simp only [Bool.or_eq_true, decide_eq_true_eq]; omega)]
          exact q
        · rw [if_neg h4] at q
          rw [if_neg (by simp only [Bool.or_eq_true, decide_eq_true_eq]; omega)]
          obtain ⟨⟨m, em⟩, ht, hlen⟩ := runK_tail er h4
          obtain ⟨t1, t2⟩ := numsK_map (b := b) h1 (Nat.le_refl 5) (Int.le_refl 0) ht
          have ed : cutL ws (some 5) none = ws.drop 5 := by
            have e2 : HT.sIx ws.length 0 (some 5) = min 5 ws.length := by
              simp only [HT.sIx]; split <;> omega
            have e4 : HT.sIx ws.length ws.length none = ws.length := rfl
            rw [cutL, e2, e4]
            by_cases h5 : 5 ≤ ws.length
            · rw [Nat.min_eq_left h5]
              exact List.take_of_length_le (by simp)
            · rw [Nat.min_eq_right (by omega), List.drop_of_length_le (Nat.le_refl _), List.drop_of_length_le (by omega), List.take_nil]
          have e3 : ws[3]? = some (ws.getD 3 "") := by
            rw [List.getD_eq_getElem?_getD, List.getElem?_eq_getElem (by omega)] <;> rfl
          rw [ed]
          rw [em] at q
          refine mapW_ok (fun w => (numK w 0 10).getD 0) (by rw [List.length_drop]; omega) (fun w hw Q q => ?_) ?_
          · obtain ⟨y, ey⟩ := t1 w hw
            refine sp_number_of (by decide) (by decide) (by decide) (by decide) ⟨y, ey, ?_⟩
            rw [ey] at q
            exact q
          · refine ixW_ok (by decide) e3 ?_
            exact sp_number_of (by decide) (by decide) (by decide) (by decide) ⟨m, em, q⟩
theorem sp_is_from {v a b : Int} {Q : Bool → Prop} (q : Q (decide (a ≤ v) && decide (v ≤ b))) : t_is_from v a b Q := q
theorem sp_rises {l : Lt} {Q : Bool → Prop} (hl : l.length ≤ 1000) (hp : l.Pairwise (· < ·)) (q : Q true) : t_rises l Q := by
  refine range2W_ok (by decide) (by decide) (by omega) (by omega) (mapW_ok (fun _ => true) (by rw [rangeL_len]; omega) (fun x hx Q q => ?_) ?_)
  · have hx := mem_rangeL.mp hx
    have h1 : (x - 1).toNat < l.length := by omega
    have h2 : x.toNat < l.length := by omega
    refine ixW_ok (by omega) (List.getElem?_eq_getElem h1) (ixW_ok (by omega) (List.getElem?_eq_getElem h2) ?_)
    have := List.pairwise_iff_getElem.mp hp _ _ h1 h2 (by omega)
    rw [decide_eq_true this]; exact q
  · have e : ((rangeL 1 ((l.length : Int) - 1).toNat).map fun _ => true).all id = true := by simp
    rw [e]; exact q
theorem sp_is_cover {l : Lt} {b : Int} {Q : Bool → Prop} (hl : l.length ≤ 1000) (h1 : ∀ x ∈ l, 0 ≤ x ∧ x < b) (hp : l.Pairwise (· < ·)) (q : Q true) : t_is_cover l b Q := by
  refine andW_ok true true (fun Q q => mapW_ok (fun _ => true) (by omega) (fun x hx Q q => ?_) ?_) (fun _ Q q => sp_rises hl hp q) q
  · have := h1 x hx
    refine sp_is_from ?_
    rw [decide_eq_true this.1, decide_eq_true (by omega)]; exact q
  · have e : (l.map fun _ => true).all id = true := by simp
    rw [e]; exact q
theorem sp_Ground {c : Cv} {Q : Cv → Prop} (hv : Vcv c) (h1 : 1 ≤ c.length) (h2 : c.length ≤ 10) (q : Q c) : t_Ground___init__ c Q := by
  refine ⟨by simp; omega, forW_unit (fun p hp Q q => ?_) q⟩
  obtain ⟨i, hi⟩ := List.getElem?_of_mem hp
  rw [enumL_get] at hi
  cases e : c[i]? with
  | none => rw [e] at hi; simp at hi
  | some l =>
    rw [e] at hi
    simp at hi
    subst hi
    have hb := hv i l e
    have hlen := (List.getElem?_eq_some_iff.mp e).1
    have : Lot i l := ⟨hb.2, hb.1⟩
    have := asc_len this
    exact sp_is_cover (l := l) (b := i) (by omega) hb.1 hb.2 ⟨rfl, q⟩
def readG (p : Int × Str) (acc : List (Int × List Int)) : Sum (List (Int × List Int)) ((List (List Int) × List Int) ⊕ Xp) := match chkK p.1 (wordsK p.2) with
  | .inl a => .inl (acc ++ [a])
  | .inr y => .inr (.inr y)
def rowK (x : Str) : Int × List Int := ((numK ((wordsK x).getD 3 "") (-50) 50).getD 0, ((wordsK x).drop 5).map fun w => (numK w 0 10).getD 0)
theorem readG_run : ∀ (ls : List Str) (k : Nat) (acc : List (Int × List Int)), runG readG (enumFrom k ls) acc = match badK (k : Int) (ls.map wordsK) with
    | some x => .inr (.inr ("InvalidText", [("word", .int x.2), ("line", .int x.1)]))
    | none => .inl (acc ++ ls.map rowK)
  | [], k, acc => by
    show Sum.inl acc = Sum.inl (acc ++ [])
    rw [List.append_nil]
  | x :: r, k, acc => by
    rw [List.map_cons]
    unfold badK
    cases e : lineK (k : Int) (wordsK x) with
    | some j =>
      have ec : chkK (k : Int) (wordsK x) = .inr ("InvalidText", [("word", .int (j : Int)), ("line", .int ((k : Int) + 1))]) := by
        unfold chkK
        rw [e]
      show runG readG (((k : Int), x) :: enumFrom (k + 1) r) acc = _
      rw [runG]
      unfold readG
      dsimp only
      rw [ec]
    | none =>
      have ec : chkK (k : Int) (wordsK x) = .inl (rowK x) := by
        unfold chkK
        rw [e]
        rfl
      show runG readG (((k : Int), x) :: enumFrom (k + 1) r) acc = _
      rw [runG]
      have eg : readG ((k : Int), x) acc = .inl (acc ++ [rowK x]) := by
        unfold readG
        dsimp only
        rw [ec]
      rw [eg]
      dsimp only
      rw [readG_run r (k + 1) (acc ++ [rowK x])]
      rw [show ((k + 1 : Nat) : Int) = (k : Int) + 1 by omega]
      cases badK ((k : Int) + 1) (r.map wordsK) with
      | some y => rfl
      | none => simp
theorem sp_read {x : Str} {Q : ((List (List Int) × List Int) ⊕ Xp) → Prop} (hx : x.length ≤ 1000000) (q1 : ∀ y, badK 0 ((Txt.split x "\n").map wordsK) = some y → Q (.inr ("InvalidText", [("word", .int y.2), ("line", .int y.1)])))
    (q2 : badK 0 ((Txt.split x "\n").map wordsK) = none → ∀ c, Q (.inl c)) (hg : badK 0 ((Txt.split x "\n").map wordsK) = none → Vcv ((Txt.split x "\n").map fun l => (rowK l).2) ∧ 1 ≤ (Txt.split x "\n").length ∧ (Txt.split x "\n").length ≤ 10) : t_read x Q := by
  obtain ⟨hl, hp⟩ := nl_splitK x
  unfold t_read
  dsimp only [retW]
  refine ⟨⟨by decide +kernel, by rw [size_eq]; omega⟩, ?_⟩
  refine forR_run readG (fun k acc => k ≤ 10 ∧ acc.length ≤ k) 0 ⟨by decide, Nat.le_refl 0⟩ (fun k p acc hk hI => ?_) ?_
  · rw [enumL_get] at hk
    cases el : (Txt.split x "\n")[k]? with
    | none => rw [el] at hk; cases hk
    | some l =>
      rw [el] at hk
      cases hk
      have hlen := hp l (List.mem_of_getElem? el)
      have hw := wordsK_len l
      refine ⟨fun Q q => ?_, fun s' e => ?_⟩
      · refine ⟨⟨by decide +kernel, by rw [size_eq]; show l.length + 2 ≤ _; omega⟩, ?_⟩
        refine compW_ok (fun w => !decide (w = ("" : Str))) (fun w => w) (by have := (sp_splitK l).1; show (Txt.split l " ").length ≤ _; omega) (fun _ _ Q q => q) (fun _ _ _ Q q => q) ?_
        rw [List.map_id']
        refine sp_checked (b := (k : Int)) rfl (by omega) (by omega) (by show (wordsK l).length ≤ _; omega) ?_
        have eg : readG ((k : Int), l) acc = match chkK (k : Int) (wordsK l) with
          | .inl a => .inl (acc ++ [a])
          | .inr y => .inr (.inr y) := rfl
        rw [eg] at q
        show appM (chkK (k : Int) (wordsK l)) acc _ _
        cases ec : chkK (k : Int) (wordsK l) with
        | inl a =>
          rw [ec] at q
          exact ⟨by rw [size_eq]; omega, q⟩
        | inr y => rw [ec] at q; exact q
      · have eg : readG ((k : Int), l) acc = match chkK (k : Int) (wordsK l) with
          | .inl a => .inl (acc ++ [a])
          | .inr y => .inr (.inr y) := rfl
        rw [eg] at e
        have hk10 : (k : Int) < 10 := by
          by_cases h : (k : Int) < 10
          · exact h
          · have : chkK (k : Int) (wordsK l) = .inr ("InvalidText", [("word", .int ((1 : Nat) : Int)), ("line", .int ((k : Int) + 1))]) := by
              unfold chkK lineK
              rw [if_pos (by omega)]
            rw [this] at e
            cases e
        cases ec : chkK (k : Int) (wordsK l) with
        | inl a => rw [ec] at e; cases e; exact ⟨by omega, by rw [List.length_append, List.length_singleton]; omega⟩
        | inr y => rw [ec] at e; cases e
  · show (_ : Prop)
    have e := readG_run (Txt.split x "\n") 0 []
    rw [show enumL (Txt.split x "\n") = enumFrom 0 (Txt.split x "\n") from rfl, e]
    rw [show (((0 : Nat) : Int)) = 0 from rfl]
    cases eb : badK 0 ((Txt.split x "\n").map wordsK) with
    | some y => exact q1 y eb
    | none =>
      obtain ⟨g1, g2, g3⟩ := hg eb
      show mapW ([] ++ (Txt.split x "\n").map rowK) _ _
      rw [List.nil_append]
      refine mapW_ok (fun p => p.2) (by rw [List.length_map]; omega) (fun _ _ Q q => q) ?_
      rw [List.map_map]
      refine sp_Ground g1 (by rw [List.length_map]; exact g2) (by rw [List.length_map]; exact g3) ?_
      exact mapW_ok (fun p => p.1) (by rw [List.length_map]; omega) (fun _ _ Q q => q) (q2 eb _)
theorem read_okK (x : Str) (hb : badK 0 ((Txt.split x "\n").map wordsK) = none) : Vcv ((Txt.split x "\n").map fun l => (rowK l).2) ∧ 1 ≤ (Txt.split x "\n").length ∧ (Txt.split x "\n").length ≤ 10 := by
  have hn := nl_oneK x
  have hl : ∀ (k : Nat) (l : Str), (Txt.split x "\n")[k]? = some l → (k : Int) < 10 ∧ runK k 0 0 (wordsK l) = none ∧ ¬ ((wordsK l).length < 4 ∨ (wordsK l).length = 5) := fun k l h => by
    have := badK_none hb k (wordsK l) (by rw [List.getElem?_map, h]; rfl)
    rw [show (0 : Int) + (k : Int) = k by omega] at this
    exact lineK_none this
  refine ⟨fun b l h => ?_, hn, ?_⟩
  · rw [List.getElem?_map] at h
    cases e : (Txt.split x "\n")[b]? with
    | none => rw [e] at h; cases h
    | some t =>
      rw [e] at h
      obtain ⟨h1, h2, h3⟩ := hl b t e
      have r := (runK_tail h2 h3).2.1
      have m := numsK_map (b := (b : Int)) (by omega) (Nat.le_refl 5) (Int.le_refl 0) r
      have : l = numsK b 5 0 ((wordsK t).drop 5) := (Option.some.inj h).symm.trans m.2
      rw [this]
      exact numsK_asc r
  · have e := List.getElem?_eq_getElem (show (Txt.split x "\n").length - 1 < (Txt.split x "\n").length by omega)
    have := (hl _ _ e).1
    omega
theorem sp_l_told {x : Str} {Q : Option (Int × Int) → Prop} (hx : x.length ≤ 1000000) (q : Q (badK 0 ((Txt.split x "\n").map wordsK))) : t_l_told x Q := by
  unfold t_l_told
  dsimp only [retW]
  refine sp_read hx (fun y e => ?_) (fun e c => ?_) (read_okK x)
  · rw [e] at q
    exact ⟨by simp, by simp, rfl, y.1, y.2, rfl, q⟩
  · rw [e] at q
    exact q
theorem sp_l_number {w : Str} {lo hi : Int} {Q : Option Int → Prop} (h1 : -1000 ≤ lo) (h2 : lo ≤ 1000) (h3 : -1000 ≤ hi) (h4 : hi ≤ 1000) (q : Q (numK w lo hi)) : t_l_number w lo hi Q := by
  refine range2W_ok (by omega) (by omega) (by omega) (by omega) (compW_ok (fun n => decide (txtK n = w)) (fun n => n) (by rw [rangeL_len]; omega) (fun n hn Q q => ?_) (fun n _ _ Q q => q) ?_)
  · have hn := mem_rangeL.mp hn
    exact strW_ok (by omega) q
  · rw [List.map_id']
    unfold numK at q
    cases e : (rangeL lo (hi + 1 - lo).toNat).filter fun n => decide (txtK n = w) with
    | nil => rw [e] at q; exact q
    | cons x l => rw [e] at q; exact ixW_ok (by omega) rfl q
theorem nextK_bd {b : Int} {k : Nat} {least : Int} {w : Str} (h0 : 0 ≤ least) (h1 : least ≤ 1000) (hb : 5 ≤ k → b < 10) : 0 ≤ nextK b k least w ∧ nextK b k least w ≤ 1000 := by
  unfold nextK
  split
  · rename_i h5
    have := hb h5
    cases e : numK w least (b - 1) with
    | none => exact ⟨h0, h1⟩
    | some n =>
      obtain ⟨g1, g2, _⟩ := numK_some e
      show 0 ≤ n + 1 ∧ n + 1 ≤ 1000
      omega
  · exact ⟨h0, h1⟩
theorem dueG_inl {b p l s' : Int} {ws : List Str} (e : dueG b ws p l = .inl s') : s' = nextK b p.toNat l (ws.getD p.toNat "") ∧ (p < 3 → b < 10) := by
  unfold dueG at e
  by_cases hg : (if p < 3 then goodK b p.toNat l (ws.getD p.toNat "") && decide (b < 10) else goodK b p.toNat l (ws.getD p.toNat "")) = true
  · rw [if_pos hg] at e
    refine ⟨(Sum.inl.inj e).symm, fun h => ?_⟩
    rw [if_pos h, Bool.and_eq_true] at hg
    exact of_decide_eq_true hg.2
  · rw [if_neg hg] at e; cases e
theorem sp_l_due {x : Str} {Q : Option (Int × Int) → Prop} (hx : x.length ≤ 1000000) (q : Q (badK 0 ((Txt.split x "\n").map wordsK))) : t_l_due x Q := by
  obtain ⟨hl, hp⟩ := nl_splitK x
  refine ⟨⟨by decide +kernel, by rw [size_eq]; omega⟩, ?_⟩
  refine rangeW_ok (by omega) (by omega) ?_
  refine forR_run (lineG ((Txt.split x "\n").map wordsK)) (fun _ _ => True) 0 trivial (fun i at_ u hi _ => ⟨fun Q q => ?_, fun _ _ => trivial⟩) ?_
  · obtain ⟨hj, ea⟩ := rangeL_get' hi
    subst ea
    clear hi
    have hi : i < (Txt.split x "\n").length := by rw [Int.toNat_natCast] at hj; exact hj
    have hm := List.getElem_mem hi
    have hlen := hp _ hm
    refine ixW_ok (by omega) (x := (Txt.split x "\n")[i]) (by rw [show ((0 : Int) + (i : Int)).toNat = i by omega]; exact List.getElem?_eq_getElem hi) ?_
    refine ⟨⟨by decide +kernel, by rw [size_eq]; omega⟩, ?_⟩
    refine compW_ok (fun w => !decide (w = ("" : Str))) (fun w => w) (by have := (sp_splitK (Txt.split x "\n")[i]).1; omega) (fun _ _ Q q => q) (fun _ _ _ Q q => q) ?_
    rw [List.map_id']
    show (_ : Prop)
    have eg : lineG ((Txt.split x "\n").map wordsK) (0 + (i : Int)) u = match lineK (i : Int) (wordsK (Txt.split x "\n")[i]) with
        | some j => .inr (some ((i : Int) + 1, (j : Int)))
        | none => .inl () := by
      unfold lineG
      rw [show ((0 : Int) + (i : Int)).toNat = i by omega, show (0 : Int) + (i : Int) = i by omega, List.getD_eq_getElem?_getD, List.getElem?_map, List.getElem?_eq_getElem hi] <;> rfl
    rw [eg] at q
    have hw := wordsK_len (Txt.split x "\n")[i]
    have ew : (Txt.split (Txt.split x "\n")[i] " ").filter (fun w => !decide (w = ("" : Str))) = wordsK (Txt.split x "\n")[i] := rfl
    rw [show (0 : Int) + (i : Int) = i by omega]
    rw [ew]
    generalize wordsK (Txt.split x "\n")[i] = ws at q hw ⊢
    refine rangeW_ok (by show _ ≤ (ws.length : Int); omega) (by show (ws.length : Int) ≤ _; omega) ?_
    refine forR_run (dueG i ws) (fun k least => 0 ≤ least ∧ least ≤ 1000 ∧ (3 ≤ k → (i : Int) < 10)) 0 ⟨Int.le_refl 0, (by decide : (0 : Int) ≤ 1000), by omega⟩ (fun k pl least hk hI => ⟨fun Q q => ?_, fun s' e => ?_⟩) ?_
    · obtain ⟨i0, i1, i2⟩ := hI
      obtain ⟨hj, ea⟩ := rangeL_get' hk
      subst ea
      clear hk
      have hk2 : k < ws.length := by
        have : k < ((ws.length : Int)).toNat := hj
        omega
      have ew : ws.getD k "" = ws[k] := by rw [List.getD_eq_getElem?_getD, List.getElem?_eq_getElem hk2] <;> rfl
      have e0 : (0 : Int) + (k : Int) = k := by omega
      rw [e0] at q ⊢
      have fin : ∀ (gd : Bool) (nx : Int), (if (k : Int) < 3 then goodK i k least ws[k] && decide ((i : Int) < 10) else goodK i k least ws[k]) = gd → (gd = true → nextK i k least ws[k] = nx) → (if (!gd) = true then Q (.ret (some ((i : Int) + 1, (k : Int) + 1))) else Q (.go nx)) := fun gd nx e1 e2 => by
        unfold dueG at q
        rw [Int.toNat_natCast, ew, e1] at q
        cases gd with
        | true => rw [e2 rfl] at q; exact q
        | false => exact q
      refine ixW_ok (by omega) (x := ws[k]) (by rw [Int.toNat_natCast]; exact List.getElem?_eq_getElem hk2) ?_
      refine ifW_ok (fun h3 => ?_) (fun h3 => ?_)
      · have h3 := of_decide_eq_true h3
        refine andW_ok (goodK i k least ws[k]) (decide ((i : Int) < 10)) (fun Q q => strW_ok (by omega) ?_) (fun _ Q q => q) ?_
        · have : k = 0 ∨ k = 1 ∨ k = 2 := by omega
          rcases this with rfl | rfl | rfl
          · exact ixW_ok (by omega) rfl q
          · exact ixW_ok (by omega) rfl q
          · exact ixW_ok (by omega) rfl q
        · refine fin _ least (by rw [if_pos h3]) fun _ => ?_
          unfold nextK
          rw [if_neg (by omega)]
      · have h3 := of_decide_eq_false h3
        refine ifW_ok (fun h4 => ?_) (fun h4 => ?_)
        · have h4 := of_decide_eq_true h4
          refine sp_l_number (by decide) (by decide) (by decide) (by decide) ?_
          refine fin _ least ?_ fun _ => ?_
          · rw [if_neg h3]
            have : k = 3 := by omega
            subst this
            show (numK ws[3] (-50) 50).isSome = !(numK ws[3] (-50) 50).isNone
            cases numK ws[3] (-50) 50 <;> rfl
          · unfold nextK
            rw [if_neg (by omega)]
        · have h4 := of_decide_eq_false h4
          refine ifW_ok (fun h5 => ?_) (fun h5 => ?_)
          · have h5 := of_decide_eq_true h5
            refine fin _ least ?_ fun _ => ?_
            · rw [if_neg h3]
              have : k = 4 := by omega
              subst this
              rfl
            · unfold nextK
              rw [if_neg (by omega)]
          · have h5 := of_decide_eq_false h5
            have hb := i2 (by omega)
            have g5 : goodK i k least ws[k] = (numK ws[k] least (i - 1)).isSome := by
              unfold goodK
              rw [if_neg (by omega), if_neg (by omega), if_neg (by omega), if_neg (by omega), if_neg (by omega)]
            refine sp_l_number (by omega) (by omega) (by omega) (by omega) ?_
            refine ifW_ok (fun h6 => ?_) (fun h6 => ?_)
            · refine sp_l_number (by omega) (by omega) (by omega) (by omega) ?_
              cases e : numK ws[k] least ((i : Int) - 1) with
              | none => rw [e] at h6; cases h6
              | some n =>
                refine ⟨n, rfl, ?_⟩
                refine fin true (n + 1) (by rw [if_neg h3, g5, e]; rfl) fun _ => ?_
                unfold nextK
                rw [if_pos (by omega), e]
            · refine fin false least ?_ (fun z => by cases z)
              rw [if_neg h3, g5]
              cases e : numK ws[k] least ((i : Int) - 1) with
              | none => rfl
              | some n => rw [e] at h6; cases h6
    · obtain ⟨i0, i1, i2⟩ := hI
      obtain ⟨hj, ea⟩ := rangeL_get' hk
      subst ea
      obtain ⟨es, hg⟩ := dueG_inl e
      subst es
      have hb : 3 ≤ 0 + k + 1 → (i : Int) < 10 := fun h => by
        by_cases h3 : k < 3
        · exact hg (by omega)
        · exact i2 (by omega)
      rw [show ((0 : Int) + (k : Int)).toNat = k by omega]
      have := nextK_bd (b := (i : Int)) (k := k) (least := least) (w := ws.getD k "") i0 i1 (fun h => hb (by omega))
      exact ⟨this.1, this.2, hb⟩
    · have hlw : ((ws, (0 : Int), ()) : (List Str) × Int × Unit).1 = ws := rfl
      show (_ : Prop)
      by_cases hb : (i : Int) < 10
      · have e := dueG_run hb (ws := ws) ws 0 0 rfl
        unfold lineK at q
        rw [if_neg (by omega)] at q
        cases er : runK (i : Int) 0 0 ws with
        | some j =>
          rw [er] at e q
          dsimp only at e q
          rw [show rangeL 0 ((ws.length : Int)).toNat = rangeL ((0 : Nat) : Int) ws.length from by rw [Int.toNat_natCast]; rfl, e]
          rw [show (((j + 1 : Nat)) : Int) = (j : Int) + 1 by omega] at q
          exact q
        | none =>
          rw [er] at e q
          dsimp only at e q
          obtain ⟨l, e⟩ := e
          rw [show rangeL 0 ((ws.length : Int)).toNat = rangeL ((0 : Nat) : Int) ws.length from by rw [Int.toNat_natCast]; rfl, e]
          show (if ((decide ((ws.length : Int) < 4)) || (decide ((ws.length : Int) = 5))) = true then Q (.ret (some (((i : Int) + 1), ((ws.length : Int) + 1)))) else Q (.go ()))
          by_cases h4 : ws.length < 4 ∨ ws.length = 5
          · rw [if_pos h4] at q
            rw [if_pos (by simp only [Bool.or_eq_true, decide_eq_true_eq]; omega)]
            exact q
          · rw [if_neg h4] at q
            rw [if_neg (by simp only [Bool.or_eq_true, decide_eq_true_eq]; omega)]
            exact q
      · unfold lineK at q
        rw [if_pos (by omega)] at q
        cases hws : ws with
        | nil =>
          subst hws
          exact q
        | cons w r =>
          have e := dueG_late (b := (i : Int)) (by omega) (ws := ws) (by rw [hws]; exact List.cons_ne_nil _ _)
          rw [hws] at e
          rw [show rangeL 0 (((w :: r).length : Int)).toNat = rangeL 0 (w :: r).length from by rw [Int.toNat_natCast], e]
          exact q
  · rw [Int.toNat_natCast]
    have e := lineG_run (ls := (Txt.split x "\n").map wordsK) ((Txt.split x "\n").map wordsK) 0 rfl
    rw [List.length_map] at e
    rw [show rangeL 0 (Txt.split x "\n").length = rangeL ((0 : Nat) : Int) (Txt.split x "\n").length from rfl, e]
    rw [show (0 : Int) = ((0 : Nat) : Int) from rfl] at q
    cases e2 : badK ((0 : Nat) : Int) ((Txt.split x "\n").map wordsK) with
    | none => rw [e2] at q; exact q
    | some y => rw [e2] at q; exact q
theorem sp_l_pick_3 {l : List Str} {Q : Str → Prop} (h : l ≠ []) (hl : l.length < 1000000) (q : ∀ x ∈ l, Q x) : t_l_pick_3 l Q := by
  have := List.length_pos_iff.mpr h
  refine takenW_ok (by omega) (by omega) fun r h1 h2 => ?_
  have h3 : r.toNat < l.length := by omega
  exact ixW_ok h1 (List.getElem?_eq_getElem h3) (q _ (List.getElem_mem h3))
theorem odd_okK : ∀ w ∈ ([("block" : Str), ("Block" : Str), ("blocks" : Str), ("worth" : Str), ("needs" : Str), ("0" : Str), ("1" : Str), ("9" : Str), ("10" : Str), ("-1" : Str), ("-0" : Str), ("+1" : Str), ("01" : Str), ("51" : Str)] : List Str) ++ [("-51" : Str), ("50" : Str), ("" : Str), ("	" : Str), ("1.0" : Str), ("x" : Str), ("None" : Str), ("block 0" : Str), ("-50" : Str), ("2" : Str)], w.length ≤ 8 := by decide +kernel
theorem short_okK : ∀ w ∈ ([("" : Str), ("
" : Str), (" " : Str), ("block" : Str), ("block 0" : Str), ("block 0 worth" : Str), ("block 0 worth 1
" : Str)] : List Str), w.length ≤ 1000000 ∧ (badK 0 ((Txt.split w "\n").map wordsK)).isNone = false := by decide +kernel
theorem two_okK : ("block" : Str).length ≤ 8 ∧ ("worth" : Str).length ≤ 8 ∧ ("needs" : Str).length ≤ 8 ∧ ("0" : Str).length ≤ 8 ∧ ("1" : Str).length ≤ 8 := by decide +kernel
theorem law_t : t_law fun r => r = true := by
  obtain ⟨o1, o2, o3, o4, o5⟩ := two_okK
  unfold t_law
  refine rangeW_ok (by decide) (by decide) ?_
  refine forR_unit (fun _ _ Q q => ?_) ?_
  · refine sp_covers (by decide) (by decide) fun c hv h1 h2' => ?_
    have h2 : c.length ≤ 10 := by omega
    refine sp_l_worths (by omega) fun w hw => ?_
    have hwl := hw.len
    simp only [retW]
    refine rangeW_nat (by omega) ?_
    refine forW_inv (fun k ls => ls.length = k ∧ ∀ l ∈ ls, LnK 20 l) 0 ⟨rfl, fun _ h => by cases h⟩ (fun k b ls hk hI Q q => ?_) fun ls hls => ?_
    · obtain ⟨hj, rfl⟩ := rangeL_get' hk
      rw [Nat.zero_add] at hI q
      have e0 : (0 : Int) + (k : Int) = k := by omega
      rw [e0]
      have ew : w[k]? = some (w[k]'(by omega)) := List.getElem?_eq_getElem (by omega)
      have ec : c[k]? = some c[k] := List.getElem?_eq_getElem hj
      have bw := hw.bd _ (List.mem_of_getElem? ew)
      obtain ⟨bc, pc⟩ := hv k _ ec
      have lc : c[k].length ≤ k := asc_len ⟨pc, bc⟩
      refine strW_ok (by omega) ?_
      refine ixW_nat ew ?_
      refine strW_ok (by omega) ?_
      refine ixW_nat ec ?_
      refine ⟨⟨by split <;> decide, by split <;> decide, by decide⟩, ?_⟩
      have hr : LnK 1 (List.replicate (if (!decide (c[k] = ([] : List Int))) = true then 1 else 0 : Int).toNat [("needs" : Str)]).flatten := by
        split
        · exact ⟨by decide, fun w hw => by
            have : w = ("needs" : Str) := by simpa using hw
            rw [this]; exact o3⟩
        · exact ⟨by decide, fun w hw => by simp at hw⟩
      generalize (List.replicate (if (!decide (c[k] = ([] : List Int))) = true then 1 else 0 : Int).toNat [("needs" : Str)]).flatten = rs at hr ⊢
      have hb : LnK 4 [("block" : Str), txtK (k : Int), ("worth" : Str), txtK (w[k]'(by omega))] := ⟨by simp, fun x hx => by
        simp only [List.mem_cons, List.not_mem_nil, or_false] at hx
        rcases hx with rfl | rfl | rfl | rfl
        · exact o1
        · exact txtK_len (by omega) (by omega)
        · exact o2
        · exact txtK_len (by omega) (by omega)⟩
      have h3 := hb.app hr
      refine ⟨by rw [size_eq]; have := hr.1; show 4 + rs.length ≤ _; omega, ?_⟩
      refine ixW_nat ec ?_
      refine mapW_ok (fun one => txtK one) (by omega) (fun one h1 Q q => strW_ok (by have := bc one h1; omega) q) ?_
      have h4 : LnK 10 (c[k].map fun one => txtK one) := ⟨by rw [List.length_map]; omega, fun x hx => by
        obtain ⟨one, h, rfl⟩ := List.mem_map.mp hx
        have := bc one h
        exact txtK_len (by omega) (by omega)⟩
      have h5 := h3.app h4
      refine ⟨by
        rw [size_eq]
        have h31 := h3.1
        have h41 := h4.1
        show ([("block" : Str), txtK (k : Int), ("worth" : Str), txtK (w[k]'(by omega))] ++ rs).length + _ ≤ _
        omega, ?_⟩
      refine appW_ok (by omega) (q _ ⟨by rw [List.length_append, hI.1]; rfl, fun l hl => ?_⟩)
      rcases List.mem_append.mp hl with hl | hl
      · exact hI.2 l hl
      · rw [List.mem_singleton.mp hl]; exact h5.mono (by decide)
    · rw [rangeL_len, Nat.zero_add] at hls
      obtain ⟨hl1, hl2⟩ := hls
      refine ⟨by rw [size_eq]; decide, ?_⟩
      have hodd := odd_okK
      have hoddl : (([("block" : Str), ("Block" : Str), ("blocks" : Str), ("worth" : Str), ("needs" : Str), ("0" : Str), ("1" : Str), ("9" : Str), ("10" : Str), ("-1" : Str), ("-0" : Str), ("+1" : Str), ("01" : Str), ("51" : Str)] : List Str) ++ [("-51" : Str), ("50" : Str), ("" : Str), ("	" : Str), ("1.0" : Str), ("x" : Str), ("None" : Str), ("block 0" : Str), ("-50" : Str), ("2" : Str)]).length = 24 := rfl
      generalize (([("block" : Str), ("Block" : Str), ("blocks" : Str), ("worth" : Str), ("needs" : Str), ("0" : Str), ("1" : Str), ("9" : Str), ("10" : Str), ("-1" : Str), ("-0" : Str), ("+1" : Str), ("01" : Str), ("51" : Str)] : List Str) ++ [("-51" : Str), ("50" : Str), ("" : Str), ("	" : Str), ("1.0" : Str), ("x" : Str), ("None" : Str), ("block 0" : Str), ("-50" : Str), ("2" : Str)]) = odd at hodd hoddl ⊢
      have hoddn : odd ≠ [] := by rintro rfl; cases hoddl
      refine takenW_ok (by decide) (by decide) fun r r1 r2 => ?_
      refine rangeW_ok (by omega) (by omega) ?_
      refine forW_inv (fun k ls => TxK (20 * 3 ^ k) (10 + k) ls) 0 ⟨by omega, by omega, fun l hl => hl2 l hl⟩ (fun k z ls hk hI Q q => ?_) fun ls hls => ?_
      · obtain ⟨hj, rfl⟩ := rangeL_get' hk
        rw [Nat.zero_add] at hI q
        have hk2 : k < 2 := by omega
        obtain ⟨i1, i2, i3⟩ := id hI
        have hm : 20 * 3 ^ k * 2 + 1 ≤ 20 * 3 ^ (k + 1) ∧ 20 * 3 ^ k ≤ 60 ∧ 20 ≤ 20 * 3 ^ k := by
          have : k = 0 ∨ k = 1 := by omega
          rcases this with rfl | rfl <;> decide
        generalize 20 * 3 ^ (k + 1) = m' at hm q
        generalize 20 * 3 ^ k = m at hm hI i3
        refine takenW_ok (by omega) (by omega) fun at_ a1 a2 => ?_
        refine takenW_ok (by decide) (by decide) fun way w1 w2 => ?_
        have hat : at_.toNat < ls.length := by omega
        have ea : ls[at_.toNat]? = some ls[at_.toNat] := List.getElem?_eq_getElem hat
        have hl := i3 _ (List.getElem_mem hat)
        refine ixW_ok a1 ea ?_
        have hll := hl.1
        refine takenW_ok (by omega) (by omega) fun p p1 p2 => ?_
        have hcat : ∀ (lo hi lo' hi' : Option Int) (n : Nat) (mid : List Str), LnK n mid → n ≤ 1 → LnK m' ((cutL ls[at_.toNat] lo hi ++ mid) ++ cutL ls[at_.toNat] lo' hi') := fun lo hi lo' hi' n mid hm1 hn => (((hl.cut lo hi).app hm1).app (hl.cut lo' hi')).mono (by omega)
        have hcl : ∀ (lo hi : Option Int), (cutL ls[at_.toNat] lo hi).length ≤ 60 := fun lo hi => Nat.le_trans (hl.cut lo hi).1 hm.2.1
        have cat2 : ∀ {a b : List Str} {Q : List Str → Prop}, a.length ≤ 100 → b.length ≤ 100 → Q (a ++ b) → catW a b Q := fun h1 h2 q => ⟨by rw [size_eq]; omega, q⟩
        refine ifW_ok (fun _ => ?_) fun _ => ifW_ok (fun _ => ?_) fun _ => ifW_ok (fun _ => ?_) fun _ => ifW_ok (fun _ => ?_) fun _ => ?_
        · refine ixW_ok a1 ea (ixW_ok a1 ea ?_)
          refine cat2 (Nat.le_trans (hcl _ _) (by decide)) (Nat.le_trans (hcl _ _) (by decide)) ?_
          refine setW_ok a1 a2 (q _ (hI.set _ ?_ (by omega)))
          have := hcat none (some p) (some (p + 1)) none 0 [] ⟨Nat.le_refl _, fun _ h => by cases h⟩ (by decide)
          rw [List.append_nil] at this
          exact this
        · refine ixW_ok a1 ea ?_
          refine sp_l_pick hoddn (by omega) fun w hw => ?_
          refine cat2 (Nat.le_trans (hcl _ _) (by decide)) (by simp) ?_
          refine ixW_ok a1 ea ?_
          refine cat2 (by rw [List.length_append]; have := hcl none (some p); simp only [List.length_singleton]; omega) (Nat.le_trans (hcl _ _) (by decide)) ?_
          exact setW_ok a1 a2 (q _ (hI.set _ (hcat _ _ _ _ 1 [w] ⟨Nat.le_refl _, fun x hx => by rw [List.mem_singleton.mp hx]; exact hodd w hw⟩ (Nat.le_refl 1)) (by omega)))
        · refine ixW_ok a1 ea ?_
          refine sp_l_pick hoddn (by omega) fun w hw => ?_
          refine cat2 (Nat.le_trans (hcl _ _) (by decide)) (by simp) ?_
          refine ixW_ok a1 ea ?_
          refine cat2 (by rw [List.length_append]; have := hcl none (some p); simp only [List.length_singleton]; omega) (Nat.le_trans (hcl _ _) (by decide)) ?_
          exact setW_ok a1 a2 (q _ (hI.set _ (hcat _ _ _ _ 1 [w] ⟨Nat.le_refl _, fun x hx => by rw [List.mem_singleton.mp hx]; exact hodd w hw⟩ (Nat.le_refl 1)) (by omega)))
        · refine strW_ok (by omega) ?_
          refine ixW_ok a1 ea ?_
          refine sp_l_pick_2 (by simp) (by simp) fun l hl' => ?_
          refine ⟨⟨a1, by omega, by rw [size_eq]; omega⟩, q _ (hI.ins _ ?_ (by omega))⟩
          simp only [List.mem_cons, List.not_mem_nil, or_false] at hl'
          rcases hl' with rfl | rfl | rfl
          · exact ⟨Nat.zero_le _, fun _ h => by cases h⟩
          · refine ⟨by show 4 ≤ _; omega, fun x hx => ?_⟩
            simp only [List.mem_cons, List.not_mem_nil, or_false] at hx
            rcases hx with rfl | rfl | rfl | rfl
            · exact o1
            · exact txtK_len (by omega) (by omega)
            · exact o2
            · exact o4
          · exact hl.mono (by omega)
        · refine strW_ok (by omega) ?_
          refine appW_ok (by omega) (q _ (hI.app ?_ (show m ≤ m' by omega)))
          refine ⟨by show 4 ≤ _; omega, fun x hx => ?_⟩
          simp only [List.mem_cons, List.not_mem_nil, or_false] at hx
          rcases hx with rfl | rfl | rfl | rfl
          · exact o1
          · exact txtK_len (by omega) (by omega)
          · exact o2
          · exact o5
      · rw [rangeL_len, Nat.zero_add] at hls
        have hls : TxK 180 12 ls := by
          obtain ⟨g1, g2, g3⟩ := hls
          have : (1 + r).toNat ≤ 2 := by omega
          generalize (1 + r).toNat = k at *
          refine ⟨g1, by omega, fun l hl => (g3 l hl).mono ?_⟩
          have : k = 0 ∨ k = 1 ∨ k = 2 := by omega
          rcases this with rfl | rfl | rfl <;> decide
        obtain ⟨j1, j2⟩ := hls.joins (by decide) (by decide)
        refine mapW_ok (fun ws => Txt.join " " ws) (by have := hls.2.1; omega) (fun ws h Q q => ⟨by have := (hls.2.2 ws h).joins.1; omega, q⟩) ?_
        refine ⟨j1, ?_⟩
        refine sp_l_told j2 (sp_l_due j2 ?_)
        rw [decide_eq_true rfl]
        exact q
  · show (_ : Prop)
    refine sp_l_pick_3 (by simp) (by simp) fun w hw => ?_
    obtain ⟨s1, s2⟩ := short_okK w hw
    refine andW_ok true true (fun Q q => sp_l_due s1 (by rw [s2]; exact q)) (fun _ Q q => sp_l_told s1 (sp_l_due s1 (by rw [decide_eq_true rfl]; exact q))) rfl
theorem law_true (ns : List Int) (h : ns.length ≤ 63) : ∃ o, c_law [.val (flsD (ns.map .int))] = some (.val (.bool true), o) := by
  obtain ⟨a, o, rfl, e⟩ := tw_law ns _ law_t
  exact ⟨o, e⟩
end Lw

namespace Lw
open PySem PySem.Spec PyProof.Rows L2 Pv
abbrev RO : PySem.W.OpenRow := PySem.W.OpenLaw.row PySem.Challenge.rw_pitlots_k83_whole_texts_refused
abbrev hk : PySem.W.Hook := hookY 6 fa fn (exJ cs spJ)
def ob (s : PySem.W.SharedT) : He.AlX := obsY 6 fa fn (exJ cs spJ) (HandSHeadRun.getT s)
theorem ob_eq (s : PySem.W.SharedT) : ob s = hk.obs s.abs := obsY_eq (HandSHeadRun.getT_eq s)
def loose : List PySem.Str := [("PitError" : PySem.Str), ("BadCovers" : PySem.Str), ("InvalidText" : PySem.Str), ("MOST_BLOCKS" : PySem.Str), ("is_from" : PySem.Str), ("rises" : PySem.Str), ("is_cover" : PySem.Str), ("Ground" : PySem.Str), ("MOST_WORTH" : PySem.Str), ("number_of" : PySem.Str), ("can_be" : PySem.Str), ("checked" : PySem.Str), ("read" : PySem.Str), ("_law_taken" : PySem.Str), ("_law_pick" : PySem.Str), ("_law_covers" : PySem.Str), ("_law_worths" : PySem.Str), ("_law_number" : PySem.Str), ("_law_due" : PySem.Str), ("_law_told" : PySem.Str)]
theorem run (w : World) : HandSHeadRun.RunEq RO (PySem.W.view RO.prog [24]) hk ob 7000 loose w := by
  intro os
  kernel_rfl
theorem facts {P : Program} {w : World} {K : PySem.W.Frag} {h : Heap} {mg : Str → Option Value} {f : Addr} (X : K.In h) (G : h.Ns mainGlobals mg) (hfa : mg ("law" : Str) = some (.ref f)) (c : He.SaysX fa fn [] [] (exJ cs spJ) w h K) :
    ∃ fd : FuncData, (∀ (s : Shared) (v : Value), BindsTo s fd ⟨[v], []⟩ [("_law_script", v)]) ∧ ∀ base : Heap, K.In base → base.Ns mainGlobals mg → FnOk P w K mg base CX0 7 f fd ["_law_script"] (spF ⟨K, ctOf cs K⟩ false 1 c_law) := by
  have hF : FxJ spJ fa fn cs K mg := FxJ.of X G c
  have e := hfa.symm.trans (hF.glo 31 (x := "law"))
  cases e
  obtain ⟨fd, F⟩ := hF.def_ 15
  have b := FunD.bindsA (ps := ["_law_script"]) F fun _ _ _ _ _ _ us hl => match us, hl with | [_], _ => rfl
  refine ⟨fd, fun s v => b s [v] rfl, fun base _ _ => ?_⟩
  exact body_law hF F
end Lw
open PySem PySem.W PySem.Calls PyProof.Rows
theorem PySem.Challenge.cw_pitlots_k83_whole_texts_refused_holds : PySem.Challenge.rw_pitlots_k83_whole_texts_refused.Holds := by
  w_on; o_law
  refine HandSHeadRun.head_any (r := Lw.RO) (q := view Lw.RO.prog [24]) (H := Lw.hk) (ob := Lw.ob) (M := 7000) (loose := Lw.loose) (d := HandSHeadRun.topDef Lw.RO.prog 24) (kwd := []) Lw.ob_eq
    (by kernel_rfl) (fun s => by kernel_rfl) Lw.run (by kernel_rfl) (by kernel_rfl) (by kernel_rfl) (by rfl) (by first | assumption | decide +kernel) (by decide +kernel) ⟨rfl, rfl, rfl, rfl, rfl, by decide +kernel⟩ ?hw ?hc
  case hw => w_witness2
  case hc =>
    refine L2.walk_ofE (l := PySem.Challenge.rw_pitlots_k83_whole_texts_refused) (n := 63) (k := 7) (x := "_law_script") (CX := L2.CX0) rfl (by decide) (by kernel_rfl) ⟨rfl, by decide, by decide⟩ ?F (fun _ _ _ _ z => z)
    intro w mg fa h Y G hmg0
    obtain ⟨K, KX, c⟩ := Y
    have hmg : mg ("law" : PySem.Str) = some (.ref fa) := by
      have e : (HandSHeadRun.topDef Lw.RO.prog 24).name = ("law" : PySem.Str) := by kernel_rfl
      rw [← e]
      exact hmg0
    obtain ⟨fd, hb, hF⟩ := Lw.facts (P := (PySem.Challenge.rw_pitlots_k83_whole_texts_refused).prog) (w := w) KX G hmg c
    exact ⟨K, fd, _, KX, hb, fun H a ns hl hO hS => Pv.law_end hO hS (Lw.law_true ns hl), hF⟩


