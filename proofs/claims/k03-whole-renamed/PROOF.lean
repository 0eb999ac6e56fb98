import PyProof.Rows.All
import HandS.Dict
import HandS.More
import KE.KDictKeyed
import HandS.ForMost
import HandS.HeadHook1
import HandS.ForExc
import HandS.Star
import HandS.TupAny
import HandS.Walk
import HandS.IsInst
import HandS.Flow
import HandS.Defaults
import HandS.Wide
import KE.DataEq
import KE.DataCmp
import KE.DataMinMax
import KE.DataIsa
import KE.DataAny
import KE.SortData
import HandS.Strs
import PyProof.Rows.SetFrom
import HandS.SetFor
import KE.OsSetLaws
import PyProof.Draws
import KE.GoesEnum
import KE.GoesMore
import HandS.Style
import HandS.Conv
import HandS.HeadHook4
import HandS.HeadEnd
import HandS.Head2
import HandS.Property
import HandS.ExcIs
import KE.SortKeyHeap
import HandS.SortKw
import HandS.ExcValue
import HandS.TupMul
import HandS.Zip
import HandS.Iter
import HandS.TupLen
import KE.KDictDisplayH
import HandS.Deep
import HandS.TryOnly
import HandS.TryMany
import HandS.ExcOwn
import HandS.ExcBuiltin
import HandS.CallSlots
import PyProof.Rows.SumAny
import KE.DataFind
import HandS.ExcInit
import HandS.ExcField
import KE.KExcSuper
import KE.KSuper
import HandS.DictComp
import HandS.TupSets
import HandS.RaiseMore
import HandS.OwnEq
import HandS.DictTup
import KE.KDictSum
import KE.KDictCopyH
import KE.KDictLetter
import KE.KDictWalk
import HandS.Text
import PyProof.StrBlock2
import KE.KIndexOf
import HandS.Head0
import HandS.Head1
import HandS.HeadHook3
import PySem.Challenge.RW_pitlots_k03_whole_renamed
set_option Elab.async false
set_option linter.all false
set_option maxRecDepth 100000
set_option maxHeartbeats 0
/-! Pu1: dicts whose keys are numbers in tuples, nested; told as .ext, the keys' tuples are tracked beside it. -/
namespace L2
open PySem PySem.Spec PyProof.Rows
mutual
/-- the value v tells the key -/
inductive NKey (H : Hp) : NestedKey → V → Prop
  | num (i : Int) : NKey H (.num i) (.int i)
  | tup {b : Addr} {vs : List V} {ks : List NestedKey} : H b = some (.tup vs) → NKeys H ks vs → NKey H (.tup ks) (.ref b)
inductive NKeys (H : Hp) : List NestedKey → List V → Prop
  | nil : NKeys H [] []
  | cons {k : NestedKey} {v : V} {ks : List NestedKey} {vs : List V} : NKey H k v → NKeys H ks vs → NKeys H (k :: ks) (v :: vs)
end
mutual
theorem NKey.hash {H : Hp} (w w' : World) : ∀ {k : NestedKey} {v : V}, NKey H k v → k.hash w = k.hash w'
  | _, _, .num i => rfl
  | _, _, .tup _ r => by simp only [NestedKey.hash]; rw [NKeys.hash w w' r]
theorem NKeys.hash {H : Hp} (w w' : World) : ∀ {ks : List NestedKey} {vs : List V}, NKeys H ks vs → NestedKey.hashes w ks = NestedKey.hashes w' ks
  | _, _, .nil => rfl
  | _, _, .cons a b => by simp only [NestedKey.hashes]; rw [NKey.hash w w' a, NKeys.hash w w' b]
end
section
variable {P : Program} {w : World} {H H' : Hp} {h : Heap} {a : Addr}
mutual
theorem NKey.is (ok : HOk P w H h) : ∀ {k : NestedKey} {v : V} {u : Value}, NKey H k v → RelV v u → NestedIs h k u
  | _, _, _, .num i, r => by
    obtain ⟨t, rfl⟩ := (show ∃ t, _ = Value.int i t from r)
    exact .int i t
  | _, _, _, .tup (b := b) (vs := vs) e q, r => by
    cases (show _ = Value.ref b from r)
    obtain ⟨_, its, rv, o, h1, h2, n, h3⟩ := (show ObjOk P w H h b (.tup vs) from ok b _ e)
    exact .tup h1 h2 h3 (by simpa using NKeys.is ok q rv)
theorem NKeys.is (ok : HOk P w H h) : ∀ {ks : List NestedKey} {vs : List V} {us : List Value}, NKeys H ks vs → Vals vs us → NestedAll h ks us
  | _, _, _, .nil, r => by cases r; exact .nil
  | _, _, _, .cons a b, r => by
    cases r with
    | cons r1 r2 => exact .cons (NKey.is ok a r1) (NKeys.is ok b r2)
end
mutual
theorem NKey.mono (s : ∀ b xs, H b = some (.tup xs) → H' b = some (.tup xs)) : ∀ {k : NestedKey} {v : V}, NKey H k v → NKey H' k v
  | _, _, .num i => .num i
  | _, _, .tup e q => .tup (s _ _ e) (NKeys.mono s q)
theorem NKeys.mono (s : ∀ b xs, H b = some (.tup xs) → H' b = some (.tup xs)) : ∀ {ks : List NestedKey} {vs : List V}, NKeys H ks vs → NKeys H' ks vs
  | _, _, .nil => .nil
  | _, _, .cons a b => .cons (NKey.mono s a) (NKeys.mono s b)
end
abbrev Ents := List (NestedKey × Addr × V)
def DNO (a : Addr) (es : Ents) : Heap → Prop := fun h => (a == sysModules) = false ∧ es.length ≤ sizeLine ∧ (es.map (·.1)).Nodup ∧
  ∃ o as ep, h.get? a = some o ∧ o.ExactDict ∧ o.data = .dict as ep ∧ Paired (fun (p : NestedKey × Addr × V) (e : DictEntry) => (∀ w, e.hash = p.1.hash w) ∧ e.key = .ref p.2.1 ∧ RelV p.2.2 e.val) es as.toList
abbrev DN (a : Addr) (es : Ents) : HO := .ext (DNO a es)
abbrev KN : Ents → List (NestedKey × Addr × Value) → Prop := Paired fun p q => p.1 = q.1 ∧ p.2.1 = q.2.1 ∧ RelV p.2.2 q.2.2
theorem KN.keys : ∀ {es : Ents} {xs : List (NestedKey × Addr × Value)}, KN es xs → es.map (·.1) = xs.map (·.1)
  | _, _, .nil => rfl
  | _, _, .cons h t => by rw [List.map_cons, List.map_cons, KN.keys t, h.1]
def valN (es : Ents) (k : NestedKey) : Option V := (es.find? fun x => decide (x.1 = k)).map (·.2.2)
def putN (es : Ents) (k : NestedKey) (b : Addr) (v : V) : Ents := if (valN es k).isSome = true then es.map (fun x => if x.1 = k then (x.1, x.2.1, v) else x) else es ++ [(k, b, v)]
theorem KN.val (k : NestedKey) : ∀ {es : Ents} {xs : List (NestedKey × Addr × Value)}, KN es xs → RelO (valN es k) ((atKey xs k).map (·.2))
  | _, _, .nil => trivial
  | _, _, .cons (a := p) (b := q) h t => by
    have ih := KN.val k t
    unfold valN atKey at ih ⊢
    rw [List.find?_cons, List.find?_cons, h.1]
    by_cases e : q.1 = k
    · simp only [e, decide_true]
      exact h.2.2
    · simp only [e, decide_false]
      exact ih
theorem KN.at (k : NestedKey) {v : V} {u : Value} (r : RelV v u) : ∀ {es : Ents} {xs : List (NestedKey × Addr × Value)}, KN es xs → KN (es.map fun x => if x.1 = k then (x.1, x.2.1, v) else x) (xs.map (putAt k u))
  | _, _, .nil => .nil
  | _, _, .cons (a := p) (b := q) hh t => by
    rw [List.map_cons, List.map_cons]
    refine .cons ?_ (KN.at k r t)
    unfold putAt
    by_cases e : q.1 = k
    · rw [if_pos e, if_pos (hh.1.trans e)]
      exact ⟨hh.1, hh.2.1, r⟩
    · rw [if_neg e, if_neg (fun z => e (hh.1.symm.trans z))]
      exact hh
theorem KN.put (k : NestedKey) {b : Addr} {v : V} {u : Value} (r : RelV v u) {es : Ents} {xs : List (NestedKey × Addr × Value)} (h : KN es xs) : KN (putN es k b v) (storedH xs k b u) := by
  have q := (h.val k).isSome_eq
  rw [Option.isSome_map] at q
  unfold putN storedH
  rw [q]
  split
  · exact KN.at k r h
  · exact Paired.snoc h ⟨rfl, rfl, r⟩
end
section
variable {X : Cx} {pins : List (Addr × Obj)} {σ : St} {H : Hp} {s : Shared} {a : Addr} {y v : V} {u r : Value} {o : Option V} {A : Around} {E : Value → Shared → Prop}
end
section
variable {X : Cx} {o i e value : Expr} {pos pos' tpos : Pos} {td ty tv : TE}
end
end L2

/-! Pv1: pure values, what represents them in the abstract heap, frames. -/
namespace Pv
open PySem PySem.Spec L2

abbrev D := PyData
abbrev objD (c : Int) (fs : List D) : D := .dict [(.none, .int c), (.none, .tuple fs)]
abbrev dctD (t : Bool) (ks : List (List Int)) (ds : List D) : D := .dict [(.bool false, .tuple [.bool t, .list (ks.map fun k => .tuple (k.map .int)), .list ds])]
def tKey (k : List Int) : List Key := k.map Sum.inl
def iKey (k : List Int) : Key := .inl (k.headD 0)
def hoD (t : Bool) (ks : List (List Int)) (vs : List V) : HO := if t = true then .dT ((ks.map tKey).zip vs) else .dK ((ks.map iKey).zip vs)
abbrev flsD (xs : List D) : D := .dict [(.bool true, .list xs)]

abbrev fnD (x : Str) : D := .dict [(.bool true, .str x)]
abbrev tpD (xs : List D) : D := .dict [(.bool true, .tuple xs)]
mutual
/-- the key that data tell: numbers in tuples, nested -/
def nkD : D → Option NestedKey
  | .int i => some (.num i)
  | .tuple xs => (nkDs xs).map .tup
  | _ => none
def nkDs : List D → Option (List NestedKey)
  | [] => some []
  | d :: ds => (nkD d).bind fun k => (nkDs ds).map (k :: ·)
end
def nkE (d : D) : Option NestedKey := (nkD d).bind fun k => if k.depth ≤ 8 then some k else none
def nkL : List D → Option (List NestedKey)
  | [] => some []
  | d :: ds => (nkE d).bind fun k => (nkL ds).map (k :: ·)
abbrev dcnD (ks ds : List D) : D := .dict [(.bool false, .list [.list ks, .list ds])]
abbrev CTab := Int → Option (Addr × List Str)
structure Kx where
  K : PySem.W.Frag
  CT : CTab

def FzL (K : PySem.W.Frag) (F : Hp) (a : Addr) (vs : List V) : Prop := (∃ ob, F a = some (.frz ob (.lst vs))) ∨ SqL K (fun _ => none) a vs
def TpX (F : Hp) (a : Addr) (vs : List V) : Prop := ∃ ob, F a = some (.frz ob (.tup vs)) ∧ ob.cls = .type "tuple" ∧ ob.dict = none
mutual
inductive Rep (k : Kx) (F : Hp) : V → D → Prop
  | non : Rep k F .non .none
  | bl (b : Bool) : Rep k F (.bl b) (.bool b)
  | int (i : Int) : Rep k F (.int i) (.int i)
  | str (x : Str) : Rep k F (.str x) (.str x)
  | lst {a : Addr} {vs : List V} {xs : List D} : F a = some (.lst vs) → RepL k F vs xs → Rep k F (.ref a) (.list xs)
  | tup {a : Addr} {vs : List V} {xs : List D} : F a = some (.tup vs) → RepL k F vs xs → Rep k F (.ref a) (.tuple xs)
  | fls {a : Addr} {vs : List V} {xs : List D} : FzL k.K F a vs → RepL k F vs xs → Rep k F (.ref a) (flsD xs)
  | obj {a dx C : Addr} {c : Int} {ns : List Str} {vs : List V} {fs : List D} : k.CT c = some (C, ns) → F a = some (.ins C dx (ns.zip vs)) → F dx = some (.own a) → vs.length ≤ ns.length → RepL k F vs fs → Rep k F (.ref a) (objD c fs)
  | dnil {a : Addr} : Rd F a (.dK []) → Rep k F (.ref a) (.dict [])
  | dct {a : Addr} {t : Bool} {ks : List (List Int)} {vs : List V} {ds : List D} : Rd F a (hoD t ks vs) → ks.length = vs.length → RepL k F vs ds → Rep k F (.ref a) (dctD t ks ds)
  | fn (x : Str) : Rep k F (.ref (He.ga k.K x)) (fnD x)
  | dcn {a : Addr} {es : Ents} {ks ds : List D} : F a = some (DN a es) → nkL ks = some (es.map (·.1)) → RepL k F (es.map fun e => .ref e.2.1) ks → RepL k F (es.map (·.2.2)) ds → Rep k F (.ref a) (dcnD ks ds)
  | xt {a : Addr} {vs : List V} {xs : List D} : TpX F a vs → RepL k F vs xs → Rep k F (.ref a) (tpD xs)
inductive RepL (k : Kx) (F : Hp) : List V → List D → Prop
  | nil : RepL k F [] []
  | cons {v : V} {vs : List V} {d : D} {ds : List D} : Rep k F v d → RepL k F vs ds → RepL k F (v :: vs) (d :: ds)
end

def IsDc : HO → Prop
  | .dK _ => True
  | .dT _ => True
  | _ => False
def nlk : HO → HO
  | .frz od (.dK m) => .dK m
  | .frz od (.dT m) => .dT m
  | o => o
def Fx1 : HO → Prop
  | .dK _ => False
  | .dT _ => False
  | .frz _ (.dK _) => False
  | .frz _ (.dT _) => False
  | _ => True
def Sub (F F' : Hp) : Prop := ∀ a o, F a = some o → ∃ o', F' a = some o' ∧ nlk o' = nlk o
theorem Sub.refl (F : Hp) : Sub F F := fun _ o h => ⟨o, h, rfl⟩
theorem nlk_fx {o o' : HO} (h : nlk o' = nlk o) (hn : Fx1 o) : o' = o := by
  have e : nlk o = o := by
    cases o <;> first | rfl | exact hn.elim | skip
    rename_i od u
    cases u <;> first | rfl | exact hn.elim
  rw [e] at h
  subst h
  cases o' <;> first | rfl | skip
  rename_i od u
  cases u <;> first | rfl | exact hn.elim
theorem nlk_dc {o o' : HO} (h : nlk o' = nlk o) (hd : IsDc o) : o' = o ∨ ∃ od, o' = .frz od o := by
  have e : nlk o = o := by cases o <;> first | rfl | exact hd.elim
  rw [e] at h
  subst h
  cases o' <;> first | exact .inl rfl | exact hd.elim | skip
  rename_i od u
  cases u <;> first | exact .inr ⟨od, rfl⟩ | exact hd.elim
theorem Sub.ex {F F' : Hp} (s : Sub F F') {a : Addr} {o : HO} (h : F a = some o) (hn : Fx1 o := by exact True.intro) : F' a = some o := by
  obtain ⟨o', e, z⟩ := s a o h
  rw [e, nlk_fx z hn]
theorem Sub.some {F F' : Hp} (s : Sub F F') {a : Addr} {o : HO} (h : F a = some o) : ∃ u, F' a = some u := let ⟨u, e, _⟩ := s a o h; ⟨u, e⟩
theorem Sub.trans {F G H : Hp} (a : Sub F G) (b : Sub G H) : Sub F H := fun x o h => by
  obtain ⟨o1, e1, z1⟩ := a x o h
  obtain ⟨o2, e2, z2⟩ := b x o1 e1
  exact ⟨o2, e2, z2.trans z1⟩
def RdK : HO → Prop
  | .lst _ => True
  | .tup _ => True
  | .dK _ => True
  | .dT _ => True
  | _ => False
theorem Sub.rd {F F' : Hp} {a : Addr} {u : HO} (s : Sub F F') (h : Rd F a u) (hk : RdK u := by exact True.intro) : Rd F' a u := by
  rcases h with h | ⟨o, h⟩
  · obtain ⟨o', e, z⟩ := s a u h
    cases u with
    | lst xs => rw [nlk_fx z True.intro] at e; exact .inl e
    | tup xs => rw [nlk_fx z True.intro] at e; exact .inl e
    | dK m => rcases nlk_dc z True.intro with rfl | ⟨od, rfl⟩; exact .inl e; exact .inr ⟨od, e⟩
    | dT m => rcases nlk_dc z True.intro with rfl | ⟨od, rfl⟩; exact .inl e; exact .inr ⟨od, e⟩
    | _ => exact hk.elim
  · obtain ⟨o', e, z⟩ := s a _ h
    cases u with
    | lst xs => rw [nlk_fx z True.intro] at e; exact .inr ⟨o, e⟩
    | tup xs => rw [nlk_fx z True.intro] at e; exact .inr ⟨o, e⟩
    | dK m => rcases nlk_dc (o := .dK m) z True.intro with rfl | ⟨od, rfl⟩; exact .inl e; exact .inr ⟨od, e⟩
    | dT m => rcases nlk_dc (o := .dT m) z True.intro with rfl | ⟨od, rfl⟩; exact .inl e; exact .inr ⟨od, e⟩
    | _ => exact hk.elim
theorem Sub.sqL {K : PySem.W.Frag} {F F' : Hp} {a : Addr} {xs : List V} (s : Sub F F') (h : SqL K F a xs) : SqL K F' a xs := by
  rcases h with h | h
  · exact .inl (s.rd h)
  · exact .inr h
theorem Sub.sqT {K : PySem.W.Frag} {F F' : Hp} {a : Addr} {xs : List V} (s : Sub F F') (h : SqT K F a xs) : SqT K F' a xs := by
  rcases h with h | h
  · exact .inl (s.rd h)
  · exact .inr h
theorem Sub.upd {F : Hp} {p : Addr} {o : HO} (h : F p = none) : Sub F (upd F p o) := fun a u e => ⟨u, by
  rw [upd_ne (ne_of_none e h)]; exact e, rfl⟩
theorem rdK_hoD {t : Bool} {ks : List (List Int)} {vs : List V} : RdK (hoD t ks vs) := by unfold hoD; split <;> trivial

theorem FzL.mono {K : PySem.W.Frag} {F F' : Hp} {a : Addr} {vs : List V} (s : Sub F F') (h : FzL K F a vs) : FzL K F' a vs := h.elim (fun ⟨o, e⟩ => .inl ⟨o, s.ex e⟩) .inr
theorem FzL.sq {K : PySem.W.Frag} {F : Hp} {a : Addr} {vs : List V} (h : FzL K F a vs) : SqL K F a vs := by
  rcases h with ⟨o, e⟩ | (h | ⟨o, h⟩) | h
  · exact .inl (.inr ⟨o, e⟩)
  · cases h
  · cases h
  · exact .inr h
theorem FzL.of {K : PySem.W.Frag} {F : Hp} {a : Addr} {vs : List V} (hO : Only F) (h : SqL K F a vs) : FzL K F a vs := by
  rcases h with (h | ⟨o, h⟩) | h
  · rcases hO a with z | ⟨_, _, z⟩ <;> rw [z] at h <;> cases h
  · exact .inl ⟨o, h⟩
  · exact .inr (.inr h)
theorem TpX.mono {F F' : Hp} {a : Addr} {vs : List V} (s : Sub F F') (h : TpX F a vs) : TpX F' a vs :=
  let ⟨ob, e, c, d⟩ := h
  ⟨ob, s.ex e, c, d⟩
theorem TpX.sqT {K : PySem.W.Frag} {F : Hp} {a : Addr} {vs : List V} (h : TpX F a vs) : SqT K F a vs :=
  let ⟨ob, e, _, _⟩ := h
  .inl (.inr ⟨ob, e⟩)
mutual
theorem Rep.mono {k : Kx} {F F' : Hp} (s : Sub F F') : ∀ {v : V} {d : D}, Rep k F v d → Rep k F' v d
  | _, _, .non => .non
  | _, _, .bl b => .bl b
  | _, _, .int i => .int i
  | _, _, .str x => .str x
  | _, _, .lst h r => .lst (s.ex h) (r.mono s)
  | _, _, .tup h r => .tup (s.ex h) (r.mono s)
  | _, _, .fls h r => .fls (h.mono s) (r.mono s)
  | _, _, .obj h1 h2 h3 h4 r => .obj h1 (s.ex h2) (s.ex h3) h4 (r.mono s)
  | _, _, .dnil h => .dnil (s.rd h)
  | _, _, .dct h hl r => .dct (s.rd h rdK_hoD) hl (r.mono s)
  | _, _, .fn x => .fn x
  | _, _, .dcn h e r1 r2 => .dcn (s.ex h) e (r1.mono s) (r2.mono s)
  | _, _, .xt h r => .xt (h.mono s) (r.mono s)
theorem RepL.mono {k : Kx} {F F' : Hp} (s : Sub F F') : ∀ {vs : List V} {ds : List D}, RepL k F vs ds → RepL k F' vs ds
  | _, _, .nil => .nil
  | _, _, .cons a b => .cons (a.mono s) (b.mono s)
end
theorem RepL.length {k : Kx} {F : Hp} : ∀ {vs : List V} {ds : List D}, RepL k F vs ds → vs.length = ds.length
  | _, _, .nil => rfl
  | _, _, .cons _ b => by simp [b.length]
theorem RepL.append {k : Kx} {F : Hp} {ws : List V} {es : List D} : ∀ {vs : List V} {ds : List D}, RepL k F vs ds → RepL k F ws es → RepL k F (vs ++ ws) (ds ++ es)
  | _, _, .nil, h => h
  | _, _, .cons a b, h => .cons a (b.append h)
theorem RepL.get {k : Kx} {F : Hp} : ∀ {vs : List V} {ds : List D} {i : Nat} {d : D}, RepL k F vs ds → ds[i]? = some d → ∃ v, vs[i]? = some v ∧ Rep k F v d
  | _, _, _, _, .nil, h => by simp at h
  | _, _, 0, _, .cons a b, h => by simp at h; subst h; exact ⟨_, rfl, a⟩
  | _, _, i + 1, d, .cons a b, h => by
    obtain ⟨v, h1, h2⟩ := RepL.get (i := i) (d := d) b (by simpa using h)
    exact ⟨v, by simpa using h1, h2⟩
theorem RepL.getV {k : Kx} {F : Hp} : ∀ {vs : List V} {ds : List D} {i : Nat} {v : V}, RepL k F vs ds → vs[i]? = some v → ∃ d, ds[i]? = some d ∧ Rep k F v d
  | _, _, _, _, .nil, h => by simp at h
  | _, _, 0, _, .cons a b, h => by simp at h; subst h; exact ⟨_, rfl, a⟩
  | _, _, i + 1, v, .cons a b, h => by
    obtain ⟨d, h1, h2⟩ := RepL.getV (i := i) (v := v) b (by simpa using h)
    exact ⟨d, by simpa using h1, h2⟩
theorem RepL.set {k : Kx} {F : Hp} {v : V} {d : D} (r : Rep k F v d) : ∀ {vs : List V} {ds : List D} (i : Nat), RepL k F vs ds → RepL k F (vs.set i v) (ds.set i d)
  | _, _, _, .nil => .nil
  | _, _, 0, .cons _ b => .cons r b
  | _, _, i + 1, .cons a b => .cons a (b.set r i)
theorem RepL.take {k : Kx} {F : Hp} : ∀ {vs : List V} {ds : List D} (n : Nat), RepL k F vs ds → RepL k F (vs.take n) (ds.take n)
  | _, _, 0, _ => .nil
  | _, _, _ + 1, .nil => .nil
  | _, _, n + 1, .cons a b => .cons a (b.take n)
theorem RepL.drop {k : Kx} {F : Hp} : ∀ {vs : List V} {ds : List D} (n : Nat), RepL k F vs ds → RepL k F (vs.drop n) (ds.drop n)
  | _, _, 0, h => h
  | _, _, _ + 1, .nil => .nil
  | _, _, n + 1, .cons _ b => b.drop n
theorem RepL.eraseIdx {k : Kx} {F : Hp} : ∀ {vs : List V} {ds : List D} (n : Nat), RepL k F vs ds → RepL k F (vs.eraseIdx n) (ds.eraseIdx n)
  | _, _, _, .nil => .nil
  | _, _, 0, .cons _ b => b
  | _, _, n + 1, .cons a b => .cons a (b.eraseIdx n)
/-! ### plain data are the layer's -/
mutual
theorem Rep.dp {k : Kx} {F : Hp} : ∀ {v : V} {d : D}, Rep k F v d → d.plain = true → Dp k.K F v d
  | _, _, .non, _ => .non
  | _, _, .bl b, _ => .bl b
  | _, _, .int i, _ => .int i
  | _, _, .str x, _ => .str x
  | _, _, .lst h r, p => .lst (.inl (.inl h)) (r.dp (by simpa [PyData.plain] using p))
  | _, _, .tup h r, p => .tup (SqT.of h) (r.dp (by simpa [PyData.plain] using p))
  | _, _, .fls h r, p => by simp [PyData.plain] at p
  | _, _, .obj h1 h2 h3 h4 r, p => by simp [PyData.plain] at p
  | _, _, .dnil h, p => by simp [PyData.plain] at p
  | _, _, .dct h hl r, p => by simp [PyData.plain] at p
  | _, _, .fn x, p => by simp [PyData.plain] at p
  | _, _, .dcn h e r1 r2, p => by simp [PyData.plain] at p
  | _, _, .xt h r, p => by simp [PyData.plain] at p
theorem RepL.dp {k : Kx} {F : Hp} : ∀ {vs : List V} {ds : List D}, RepL k F vs ds → PyData.plainAll ds = true → DpAll k.K F vs ds
  | _, _, .nil, _ => .nil
  | _, _, .cons a b, p => by
    simp only [PyData.plainAll, Bool.and_eq_true] at p
    exact .cons (a.dp p.1) (b.dp p.2)
end
mutual
theorem dpMono {K : PySem.W.Frag} {F F' : Hp} (s : Sub F F') : ∀ {v : V} {d : D}, Dp K F v d → Dp K F' v d
  | _, _, .non => .non
  | _, _, .bl b => .bl b
  | _, _, .int i => .int i
  | _, _, .str x => .str x
  | _, _, .lst h r => .lst (s.sqL h) (dpAllMono s r)
  | _, _, .tup h r => .tup (s.sqT h) (dpAllMono s r)
theorem dpAllMono {K : PySem.W.Frag} {F F' : Hp} (s : Sub F F') : ∀ {vs : List V} {ds : List D}, DpAll K F vs ds → DpAll K F' vs ds
  | _, _, .nil => .nil
  | _, _, .cons a b => .cons (dpMono s a) (dpAllMono s b)
end

/-! ### mutable objects, slots -/
inductive OB where
  | lst (xs : List D) | ins (c : Int) (fs : List D) | dct (t : Bool) (ks : List (List Int)) (ds : List D) | dcn (ks ds : List D)
inductive SV where
  | val (d : D) | own (o : OB)
abbrev Rho := List (Option SV)
inductive Rv where
  | sv (s : SV) | plc (i : Nat)
abbrev OB.d : OB → D
  | .lst xs => .list xs
  | .ins c fs => objD c fs
  | .dct t ks ds => dctD t ks ds
  | .dcn ks ds => dcnD ks ds
abbrev SV.d : SV → D
  | .val d => d
  | .own o => o.d

def RepO (k : Kx) (F : Hp) (p : Addr) : OB → HO → Prop
  | .lst xs, ho => ∃ vs, ho = .lst vs ∧ RepL k F vs xs
  | .ins c fs, ho => ∃ (C : Addr) (ns : List Str) (dx : Addr) (vs : List V), k.CT c = some (C, ns) ∧ ho = .ins C dx (ns.zip vs) ∧ F dx = some (.own p) ∧ vs.length ≤ ns.length ∧ RepL k F vs fs
  | .dct t ks ds, ho => ∃ vs, ho = hoD t ks vs ∧ ks.length = vs.length ∧ RepL k F vs ds
  | .dcn ks ds, ho => ∃ es : Ents, ho = DN p es ∧ nkL ks = some (es.map (·.1)) ∧ RepL k F (es.map fun e => .ref e.2.1) ks ∧ RepL k F (es.map (·.2.2)) ds
theorem RepO.mono {k : Kx} {F F' : Hp} {p : Addr} (s : Sub F F') : ∀ {o : OB} {ho : HO}, RepO k F p o ho → RepO k F' p o ho
  | .lst _, _, ⟨vs, e, r⟩ => ⟨vs, e, r.mono s⟩
  | .ins _ _, _, ⟨C, ns, dx, vs, h1, h2, h3, h4, r⟩ => ⟨C, ns, dx, vs, h1, h2, s.ex h3, h4, r.mono s⟩
  | .dct _ _ _, _, ⟨vs, h1, h2, r⟩ => ⟨vs, h1, h2, r.mono s⟩
  | .dcn _ _, _, ⟨es, h1, h2, r1, r2⟩ => ⟨es, h1, h2, r1.mono s, r2.mono s⟩

def NoT : HO → Prop
  | .tup _ => False
  | _ => True
theorem RepO.nt {k : Kx} {F : Hp} {p : Addr} : ∀ {o : OB} {ho : HO}, RepO k F p o ho → NoT ho
  | .lst _, _, ⟨_, e, _⟩ => by subst e; trivial
  | .ins _ _, _, ⟨_, _, _, _, _, e, _⟩ => by subst e; trivial
  | .dct _ _ _, _, ⟨_, e, _⟩ => by subst e; unfold hoD; split <;> trivial
  | .dcn _ _, _, ⟨_, e, _⟩ => by subst e; trivial
structure FR (k : Kx) (F : Hp) (ρ : Rho) (σ : St) (H : Hp) : Prop where
  sub : Sub F H
  len : ρ.length = σ.length
  vals : ∀ (i : Nat) (d : D), ρ[i]? = some (some (.val d)) → ∃ v, σ[i]? = some (some v) ∧ Rep k F v d
  owns : ∀ (i : Nat) (o : OB), ρ[i]? = some (some (.own o)) → ∃ p ho, σ[i]? = some (some (.ref p)) ∧ H p = some ho ∧ F p = none ∧ RepO k F p o ho
  dist : ∀ (i j : Nat) (o o' : OB) (p : Addr), ρ[i]? = some (some (.own o)) → ρ[j]? = some (some (.own o')) → σ[i]? = some (some (.ref p)) → σ[j]? = some (some (.ref p)) → i = j

def Own (ρ : Rho) (σ : St) (p : Addr) : Prop := ∃ (i : Nat) (o : OB), ρ[i]? = some (some (.own o)) ∧ σ[i]? = some (some (.ref p))
theorem FR.own_none {k : Kx} {F : Hp} {ρ : Rho} {σ : St} {H : Hp} (f : FR k F ρ σ H) {p : Addr} (h : Own ρ σ p) : F p = none := by
  obtain ⟨i, o, e, e2⟩ := h
  obtain ⟨q, ho, s, _, n, _⟩ := f.owns i o e
  rw [e2] at s; cases s; exact n
theorem FR.own_some {k : Kx} {F : Hp} {ρ : Rho} {σ : St} {H : Hp} (f : FR k F ρ σ H) {p : Addr} (h : Own ρ σ p) : ∃ ho, H p = some ho := by
  obtain ⟨i, o, e, e2⟩ := h
  obtain ⟨q, ho, s, h, n, _⟩ := f.owns i o e
  rw [e2] at s; cases s; exact ⟨_, h⟩

structure Tr (I : Addr → Prop) (F H F' H' : Hp) : Prop where
  sub : Sub F F'
  keep : ∀ p o, H p = some o → ¬ I p → H' p = some o
  new : ∀ p o, H p = some o → NoT o → F p = none → ¬ I p → F' p = none
  there : ∀ p o, H p = some o → ∃ o', H' p = some o'
theorem Tr.refl {I : Addr → Prop} {F H : Hp} : Tr I F H F H := ⟨Sub.refl _, fun _ _ h _ => h, fun _ _ _ _ h _ => h, fun p o h => ⟨o, h⟩⟩
theorem Tr.trans {I J : Addr → Prop} {F H F1 H1 F2 H2 : Hp} (a : Tr I F H F1 H1) (b : Tr J F1 H1 F2 H2) (h : ∀ p, J p → I p ∨ H p = none) : Tr I F H F2 H2 where
  sub := a.sub.trans b.sub
  keep := fun p o e n => b.keep p o (a.keep p o e n) fun j => (h p j).elim n fun z => by rw [e] at z; cases z
  new := fun p o e m f n => b.new p o (a.keep p o e n) m (a.new p o e m f n) fun j => (h p j).elim n fun z => by rw [e] at z; cases z
  there := fun p o e => let ⟨o', e'⟩ := a.there p o e; b.there p o' e'
theorem Tr.mono {I J : Addr → Prop} {F H F' H' : Hp} (a : Tr I F H F' H') (h : ∀ p, I p → J p) : Tr J F H F' H' :=
  ⟨a.sub, fun p o e n => a.keep p o e fun i => n (h p i), fun p o e m f n => a.new p o e m f fun i => n (h p i), a.there⟩
theorem Tr.newF {I : Addr → Prop} {F H : Hp} {p : Addr} {o : HO} (s : Sub F H) (h : H p = none) : Tr I F H (upd F p o) (upd H p o) where
  sub := Sub.upd (by cases e : F p with
    | none => rfl
    | some u => obtain ⟨z, hz⟩ := s.some e; rw [hz] at h; cases h)
  keep := fun q u e _ => by rw [upd_ne (ne_of_none e h)]; exact e
  new := fun q u e _ f _ => by rw [upd_ne (ne_of_none e h)]; exact f
  there := fun q u e => ⟨u, by rw [upd_ne (ne_of_none e h)]; exact e⟩
theorem Tr.newO {I : Addr → Prop} {F H : Hp} {p : Addr} {o : HO} (h : H p = none) : Tr I F H F (upd H p o) where
  sub := Sub.refl _
  keep := fun q u e _ => by rw [upd_ne (ne_of_none e h)]; exact e
  new := fun q u e _ f _ => f
  there := fun q u e => ⟨u, by rw [upd_ne (ne_of_none e h)]; exact e⟩
theorem Sub.none_of {F H : Hp} {p : Addr} (s : Sub F H) (h : H p = none) : F p = none := by
  cases e : F p with
  | none => rfl
  | some u => obtain ⟨z, hz⟩ := s.some e; rw [hz] at h; cases h
theorem FR.newF {k : Kx} {F : Hp} {ρ : Rho} {σ : St} {H : Hp} (f : FR k F ρ σ H) {p : Addr} {o : HO} (h : H p = none) : FR k (upd F p o) ρ σ (upd H p o) where
  sub := fun a u e => by
    by_cases ha : a = p
    · subst ha; rw [upd_same] at e ⊢; exact ⟨_, e, rfl⟩
    · rw [upd_ne ha] at e ⊢; exact f.sub a u e
  len := f.len
  vals := fun i d e => let ⟨v, s, r⟩ := f.vals i d e; ⟨v, s, r.mono (Sub.upd (f.sub.none_of h))⟩
  owns := fun i ob e => by
    obtain ⟨q, ho, s, hq, n, r⟩ := f.owns i ob e
    have ne : q ≠ p := ne_of_none hq h
    exact ⟨q, ho, s, by rw [upd_ne ne]; exact hq, by rw [upd_ne ne]; exact n, r.mono (Sub.upd (f.sub.none_of h))⟩
  dist := f.dist
theorem FR.newO {k : Kx} {F : Hp} {ρ : Rho} {σ : St} {H : Hp} (f : FR k F ρ σ H) {p : Addr} {o : HO} (h : H p = none) : FR k F ρ σ (upd H p o) where
  sub := fun a u e => by
    obtain ⟨z, hz⟩ := f.sub.some e
    rw [upd_ne (ne_of_none hz h)]; exact f.sub a u e
  len := f.len
  vals := f.vals
  owns := fun i ob e => by
    obtain ⟨q, ho, s, hq, n, r⟩ := f.owns i ob e
    exact ⟨q, ho, s, by rw [upd_ne (ne_of_none hq h)]; exact hq, n, r⟩
  dist := f.dist
end Pv

/-! Pv2: simulation of readings by pure functions; operators. -/
namespace Pv
open PySem PySem.Spec L2

def wpo {α : Type} (o : Option α) (Q : α → Prop) : Prop := match o with
  | some a => Q a
  | none => False
theorem wpo_bind {α β : Type} {o : Option α} {f : α → Option β} {Q : β → Prop} : wpo (o.bind f) Q ↔ wpo o fun a => wpo (f a) Q := by
  cases o <;> exact Iff.rfl
theorem wpo.mono {α : Type} {o : Option α} {Q R : α → Prop} (h : wpo o Q) (f : ∀ a, o = some a → Q a → R a) : wpo o R := by
  cases o with
  | none => exact h
  | some a => exact f a rfl h

structure Aft (k : Kx) (ρ : Rho) (σ : L2.St) (F H : Hp) (ρ' : Rho) (F' H' : Hp) : Prop where
  fr : FR k F' ρ' σ H'
  tr : Tr (Own ρ σ) F H F' H'
  ow : ∀ p, Own ρ' σ p → Own ρ σ p
  sl : ∀ (i : Nat) (s : SV), ρ[i]? = some (some s) → ∃ s', ρ'[i]? = some (some s')
section
variable {k : Kx} {ρ ρ1 ρ2 : Rho} {σ : L2.St} {F H F1 H1 F2 H2 : Hp}
theorem Aft.refl (f : FR k F ρ σ H) : Aft k ρ σ F H ρ F H := ⟨f, Tr.refl, fun _ h => h, fun _ s h => ⟨s, h⟩⟩
theorem Aft.trans (a : Aft k ρ σ F H ρ1 F1 H1) (b : Aft k ρ1 σ F1 H1 ρ2 F2 H2) : Aft k ρ σ F H ρ2 F2 H2 :=
  ⟨b.fr, a.tr.trans b.tr fun p j => .inl (a.ow p j), fun p h => a.ow p (b.ow p h), fun i s h => let ⟨s', h'⟩ := a.sl i s h; b.sl i s' h'⟩
theorem Aft.newF (f : FR k F ρ σ H) {p : Addr} {o : HO} (h : H p = none) : Aft k ρ σ F H ρ (upd F p o) (upd H p o) := ⟨f.newF h, Tr.newF f.sub h, fun _ h => h, fun _ s h => ⟨s, h⟩⟩
theorem Aft.newO (f : FR k F ρ σ H) {p : Addr} {o : HO} (h : H p = none) : Aft k ρ σ F H ρ F (upd H p o) := ⟨f.newO h, Tr.newO h, fun _ h => h, fun _ s h => ⟨s, h⟩⟩
end

def RR (k : Kx) (H0 F : Hp) (ρ : Rho) (σ : L2.St) (H : Hp) : Rv → V → Prop
  | .sv (.val d), v => Rep k F v d
  | .sv (.own o), v => ∃ p ho, v = .ref p ∧ H0 p = none ∧ H p = some ho ∧ F p = none ∧ RepO k F p o ho
  | .plc i, v => σ[i]? = some (some v) ∧ ∃ s, ρ[i]? = some (some s)
def RdR (k : Kx) (F H : Hp) (v : V) (d : D) : Prop := Rep k F v d ∨ ∃ p o ho, v = .ref p ∧ H p = some ho ∧ RepO k F p o ho ∧ d = OB.d o
def rdD (ρ : Rho) : Rv → Option D
  | .sv s => some s.d
  | .plc i => match ρ[i]? with
    | some (some s) => some s.d
    | _ => none
section
variable {k : Kx} {ρ ρ0 ρ1 ρ2 : Rho} {σ : L2.St} {F H F0 H0 F1 H1 F2 H2 : Hp} {r : Rv} {v : V} {d : D}
theorem RR.step (f0 : FR k F0 ρ0 σ H0) (a : Aft k ρ0 σ F0 H0 ρ1 F1 H1) (b : Aft k ρ1 σ F1 H1 ρ2 F2 H2) (h : RR k H0 F1 ρ1 σ H1 r v) : RR k H0 F2 ρ2 σ H2 r v := by
  match r, h with
  | .sv (.val d), h => exact Rep.mono b.tr.sub h
  | .sv (.own o), ⟨p, ho, e, n, h1, n1, q⟩ =>
    have np : ¬ Own ρ1 σ p := fun z => by
      obtain ⟨u, hu⟩ := f0.own_some (a.ow p z)
      rw [n] at hu; cases hu
    exact ⟨p, ho, e, n, b.tr.keep p ho h1 np, b.tr.new p ho h1 q.nt n1 np, q.mono b.tr.sub⟩
  | .plc i, ⟨e, s, h⟩ => exact ⟨e, b.sl i s h⟩
theorem RR.back (a : Aft k ρ0 σ F0 H0 ρ1 F1 H1) (h : RR k H1 F2 ρ2 σ H2 r v) : RR k H0 F2 ρ2 σ H2 r v := by
  match r, h with
  | .sv (.val d), h => exact h
  | .sv (.own o), ⟨p, ho, e, n, q⟩ =>
    refine ⟨p, ho, e, ?_, q⟩
    cases z : H0 p with
    | none => rfl
    | some u =>
      obtain ⟨u', hu'⟩ := a.tr.there p u z
      rw [n] at hu'; cases hu'
  | .plc i, h => exact h
theorem RR.rd (f : FR k F ρ σ H) (h : RR k H0 F ρ σ H r v) (e : rdD ρ r = some d) : RdR k F H v d := by
  match r, h with
  | .sv (.val d'), h => simp only [rdD, Option.some.injEq] at e; subst e; exact .inl h
  | .sv (.own o), ⟨p, ho, e1, n, h1, n1, q⟩ => simp only [rdD, Option.some.injEq] at e; subst e; exact .inr ⟨p, o, ho, e1, h1, q, rfl⟩
  | .plc i, ⟨e1, s, h1⟩ =>
    simp only [rdD, h1, Option.some.injEq] at e
    subst e
    cases s with
    | val d' =>
      obtain ⟨v', h2, h3⟩ := f.vals i d' h1
      rw [e1] at h2; cases h2; exact .inl h3
    | own o =>
      obtain ⟨p, ho, h2, h3, _, h4⟩ := f.owns i o h1
      rw [e1] at h2; cases h2; exact .inr ⟨p, o, ho, rfl, h3, h4, rfl⟩
/-! ### reading -/
theorem RdR.dp (s : Sub F H) (h : RdR k F H v d) (p : d.plain = true) : Dp k.K H v d := by
  rcases h with h | ⟨q, o, ho, rfl, h1, h2, rfl⟩
  · exact dpMono s (h.dp p)
  · cases o with
    | lst xs =>
      obtain ⟨vs, rfl, r⟩ := h2
      exact .lst (.inl (.inl h1)) (dpAllMono s (r.dp (by simpa [PyData.plain] using p)))
    | ins c fs => simp [OB.d, PyData.plain] at p
    | dct t ks ds => simp [OB.d, PyData.plain] at p
    | dcn ks ds => simp [OB.d, PyData.plain] at p
theorem RdR.lst {xs : List D} (s : Sub F H) (h : RdR k F H v (.list xs)) : ∃ a vs, v = .ref a ∧ H a = some (.lst vs) ∧ RepL k F vs xs := by
  rcases h with h | ⟨q, o, ho, rfl, h1, h2, e⟩
  · cases h with
    | lst h r => exact ⟨_, _, rfl, s.ex h, r⟩
  · cases o with
    | lst ys =>
      cases e
      obtain ⟨vs, rfl, r⟩ := h2
      exact ⟨q, vs, rfl, h1, r⟩
    | ins c fs => cases e
    | dct t ks ds => cases e
    | dcn ks ds => cases e
theorem RdR.tup {xs : List D} (s : Sub F H) (h : RdR k F H v (.tuple xs)) : ∃ a vs, v = .ref a ∧ F a = some (.tup vs) ∧ SqT k.K H a vs ∧ RepL k F vs xs := by
  rcases h with h | ⟨q, o, ho, rfl, h1, h2, e⟩
  · cases h with
    | tup h r => exact ⟨_, _, rfl, h, SqT.of (s.ex h), r⟩
  · cases o with
    | lst ys => cases e
    | ins c fs => cases e
    | dct t ks ds => cases e
    | dcn ks ds => cases e
theorem RdR.fls {xs : List D} (s : Sub F H) (h : RdR k F H v (flsD xs)) : ∃ a vs, v = .ref a ∧ SqL k.K H a vs ∧ RepL k F vs xs := by
  rcases h with h | ⟨q, o, ho, rfl, h1, h2, e⟩
  · cases h with
    | fls h r => exact ⟨_, _, rfl, (h.mono s).sq, r⟩
  · cases o with
    | lst ys => cases e
    | ins c fs => cases e
    | dct t ks ds => cases e
    | dcn ks ds => cases e
theorem RdR.xtp {xs : List D} (s : Sub F H) (h : RdR k F H v (tpD xs)) : ∃ a vs, v = .ref a ∧ TpX F a vs ∧ SqT k.K H a vs ∧ RepL k F vs xs := by
  rcases h with h | ⟨q, o, ho, rfl, h1, h2, e⟩
  · cases h with
    | xt h r => exact ⟨_, _, rfl, h, (h.mono s).sqT, r⟩
  · cases o with
    | lst ys => cases e
    | ins c fs => cases e
    | dct t ks ds => cases e
    | dcn ks ds => cases e
theorem RdR.int {i : Int} (h : RdR k F H v (.int i)) : v = .int i := by
  rcases h with h | ⟨q, o, ho, rfl, h1, h2, e⟩
  · cases h; rfl
  · cases o with
    | lst ys => cases e
    | ins c fs => cases e
    | dct t ks ds => cases e
    | dcn ks ds => cases e
theorem RdR.bl {b : Bool} (h : RdR k F H v (.bool b)) : v = .bl b := by
  rcases h with h | ⟨q, o, ho, rfl, h1, h2, e⟩
  · cases h; rfl
  · cases o with
    | lst ys => cases e
    | ins c fs => cases e
    | dct t ks ds => cases e
    | dcn ks ds => cases e
theorem RdR.str {x : Str} (h : RdR k F H v (.str x)) : v = .str x := by
  rcases h with h | ⟨q, o, ho, rfl, h1, h2, e⟩
  · cases h; rfl
  · cases o with
    | lst ys => cases e
    | ins c fs => cases e
    | dct t ks ds => cases e
    | dcn ks ds => cases e
theorem RdR.non (h : RdR k F H v .none) : v = .non := by
  rcases h with h | ⟨q, o, ho, rfl, h1, h2, e⟩
  · cases h; rfl
  · cases o with
    | lst ys => cases e
    | ins c fs => cases e
    | dct t ks ds => cases e
    | dcn ks ds => cases e
end

abbrev EM := Rho → Option (Rv × Rho)
def SimE (k : Kx) (te : TE) (m : EM) : Prop := ∀ (F : Hp) (ρ : Rho) (σ : L2.St) (H : Hp) (Q : VK), FR k F ρ σ H →
  wpo (m ρ) (fun x => ∀ v F' H', Aft k ρ σ F H x.2 F' H' → RR k H F' x.2 σ H' x.1 v → Q v H') → te σ H Q
def SE (k : Kx) (X : Cx) (e : Expr) (m : EM) : Prop := ∃ te, PE X e te ∧ SimE k te m

/-! ### names, constants -/
def evVar (i : Nat) : EM := fun ρ => match ρ[i]? with
  | some (some (.val d)) => some (.sv (.val d), ρ)
  | some (some (.own _)) => some (.plc i, ρ)
  | _ => none
theorem simVar {k : Kx} {i : Nat} : SimE k (tVar i) (evVar i) := by
  intro F ρ σ H Q f h
  unfold evVar at h
  split at h
  · rename_i d e
    obtain ⟨v, s, r⟩ := f.vals i d e
    exact ⟨v, s, h v F H (Aft.refl f) r⟩
  · rename_i o e
    obtain ⟨p, ho, s, _⟩ := f.owns i o e
    exact ⟨_, s, h _ F H (Aft.refl f) ⟨s, _, e⟩⟩
  · exact h.elim
def evC (d : D) : EM := fun ρ => some (.sv (.val d), ρ)
theorem simC {k : Kx} {v : V} {d : D} (h : ∀ F, Rep k F v d) : SimE k (tC v) (evC d) := fun F ρ σ H Q f q => q v F H (Aft.refl f) (h F)

/-! ### operators on contents -/
def OpSim (k : Kx) (r : R2) (g : D → D → Option SV) : Prop := ∀ (F : Hp) (ρ : Rho) (σ : L2.St) (H : Hp) (x y : V) (dx dy : D) (Q : VK), FR k F ρ σ H → RdR k F H x dx → RdR k F H y dy →
  wpo (g dx dy) (fun s => ∀ v F' H', Aft k ρ σ F H ρ F' H' → RR k H F' ρ σ H' (.sv s) v → Q v H') → r x y H Q
def UnSim (k : Kx) (r : V → Hp → VK → Prop) (g : D → Option SV) : Prop := ∀ (F : Hp) (ρ : Rho) (σ : L2.St) (H : Hp) (x : V) (dx : D) (Q : VK), FR k F ρ σ H → RdR k F H x dx →
  wpo (g dx) (fun s => ∀ v F' H', Aft k ρ σ F H ρ F' H' → RR k H F' ρ σ H' (.sv s) v → Q v H') → r x H Q
def evBin (g : D → D → Option SV) (ma mb : EM) : EM := fun ρ => (ma ρ).bind fun a => (mb a.2).bind fun b => (rdD b.2 a.1).bind fun d1 => (rdD b.2 b.1).bind fun d2 => (g d1 d2).bind fun s => some (.sv s, b.2)
def evUn (g : D → Option SV) (ma : EM) : EM := fun ρ => (ma ρ).bind fun a => (rdD a.2 a.1).bind fun d => (g d).bind fun s => some (.sv s, a.2)
theorem simBin {k : Kx} {r : R2} {g : D → D → Option SV} {ta tb : TE} {ma mb : EM} (hr : OpSim k r g) (ha : SimE k ta ma) (hb : SimE k tb mb) : SimE k (tOp r ta tb) (evBin g ma mb) := by
  intro F ρ σ H Q f h
  unfold evBin at h
  refine ha F ρ σ H _ f ((wpo_bind.mp h).mono fun a _ h => ?_)
  intro v F1 H1 A1 R1
  refine hb F1 a.2 σ H1 _ A1.fr ((wpo_bind.mp h).mono fun b _ h => ?_)
  intro u F2 H2 A2 R2
  have R1' := R1.step f A1 A2
  have h := wpo_bind.mp h
  cases e1 : rdD b.2 a.1 with
  | none => rw [e1] at h; exact h.elim
  | some d1 =>
    rw [e1] at h
    have h := wpo_bind.mp h
    cases e2 : rdD b.2 b.1 with
    | none => rw [e2] at h; exact h.elim
    | some d2 =>
      rw [e2] at h
      refine hr F2 b.2 σ H2 v u d1 d2 Q A2.fr (R1'.rd A2.fr e1) (R2.rd A2.fr e2) ((wpo_bind.mp h).mono fun s _ h => ?_)
      intro z F3 H3 A3 R3
      exact h z F3 H3 ((A1.trans A2).trans A3) (R3.back (A1.trans A2))
theorem simUn {k : Kx} {r : V → Hp → VK → Prop} {g : D → Option SV} {ta : TE} {ma : EM} (hr : UnSim k r g) (ha : SimE k ta ma) : SimE k (tUn r ta) (evUn g ma) := by
  intro F ρ σ H Q f h
  unfold evUn at h
  refine ha F ρ σ H _ f ((wpo_bind.mp h).mono fun a _ h => ?_)
  intro v F1 H1 A1 R1
  have h := wpo_bind.mp h
  cases e1 : rdD a.2 a.1 with
  | none => rw [e1] at h; exact h.elim
  | some d1 =>
    rw [e1] at h
    refine hr F1 a.2 σ H1 v d1 Q A1.fr (R1.rd A1.fr e1) ((wpo_bind.mp h).mono fun s _ h => ?_)
    intro z F3 H3 A3 R3
    exact h z F3 H3 (A1.trans A3) (R3.back A1)
theorem OpSim.sc {k : Kx} {F : Hp} {ρ : Rho} {σ : L2.St} {H : Hp} {Q : VK} {d : D} {v : V} (f : FR k F ρ σ H) (r : Rep k F v d)
    (h : wpo (some (SV.val d)) (fun s => ∀ v F' H', Aft k ρ σ F H ρ F' H' → RR k H F' ρ σ H' (.sv s) v → Q v H')) : Q v H := h v F H (Aft.refl f) r

abbrev AM := Rho → Option (List Rv × Rho)
inductive RRs (k : Kx) (F : Hp) (ρ : Rho) (σ : L2.St) (H : Hp) : Hp → List Rv → List V → Prop
  | nil {H0 : Hp} : RRs k F ρ σ H H0 [] []
  | cons {r : Rv} {v : V} {rs : List Rv} {vs : List V} {H0 H1 : Hp} : RR k H0 F ρ σ H r v → RRs k F ρ σ H H1 rs vs → (∀ p, H0 p ≠ none → H1 p ≠ none) → (∀ o, r = .sv (.own o) → ∃ p, v = .ref p ∧ H1 p ≠ none) → RRs k F ρ σ H H0 (r :: rs) (v :: vs)
def SimA (k : Kx) (ta : TA) (m : AM) : Prop := ∀ (F : Hp) (ρ : Rho) (σ : L2.St) (H : Hp) (Q : List V → Hp → Prop), FR k F ρ σ H →
  wpo (m ρ) (fun x => ∀ vs F' H', Aft k ρ σ F H x.2 F' H' → RRs k F' x.2 σ H' H x.1 vs → Q vs H') → ta σ H Q
def SA (k : Kx) (X : Cx) (es : List Expr) (m : AM) : Prop := ∃ ta, PA X es ta ∧ SimA k ta m
def evNil : AM := fun ρ => some ([], ρ)
def evCons (ma : EM) (mr : AM) : AM := fun ρ => (ma ρ).bind fun a => (mr a.2).bind fun b => some (a.1 :: b.1, b.2)
theorem simNil {k : Kx} : SimA k tNil evNil := fun F ρ σ H Q f h => h [] F H (Aft.refl f) .nil
theorem simCons {k : Kx} {ta : TE} {tr : TA} {ma : EM} {mr : AM} (ha : SimE k ta ma) (hr : SimA k tr mr) : SimA k (tCons ta tr) (evCons ma mr) := by
  intro F ρ σ H Q f h
  unfold evCons at h
  refine ha F ρ σ H _ f ((wpo_bind.mp h).mono fun a _ h => ?_)
  intro v F1 H1 A1 R1
  refine hr F1 a.2 σ H1 _ A1.fr ((wpo_bind.mp h).mono fun b _ h => ?_)
  intro us F2 H2 A2 R2
  refine h (v :: us) F2 H2 (A1.trans A2) (.cons (R1.step f A1 A2) R2 (fun p e => ?_) fun o e => ?_)
  · cases z : H p with
    | none => exact absurd z e
    | some u => obtain ⟨u', hu'⟩ := A1.tr.there p u z; rw [hu']; simp
  · rw [e] at R1
    obtain ⟨p, ho, e1, _, h1, _⟩ := R1
    exact ⟨p, e1, by rw [h1]; simp⟩
def rdAll (ρ : Rho) : List Rv → Option (List D)
  | [] => some []
  | r :: rs => (rdD ρ r).bind fun d => (rdAll ρ rs).bind fun ds => some (d :: ds)
inductive RdRs (k : Kx) (F H : Hp) : List V → List D → Prop
  | nil : RdRs k F H [] []
  | cons {v : V} {vs : List V} {d : D} {ds : List D} : RdR k F H v d → RdRs k F H vs ds → RdRs k F H (v :: vs) (d :: ds)
theorem RRs.rd {k : Kx} {F : Hp} {ρ : Rho} {σ : L2.St} {H : Hp} (f : FR k F ρ σ H) : ∀ {H0 : Hp} {rs : List Rv} {vs : List V} {ds : List D}, RRs k F ρ σ H H0 rs vs → rdAll ρ rs = some ds → RdRs k F H vs ds
  | _, _, _, _, .nil, e => by simp only [rdAll, Option.some.injEq] at e; subst e; exact .nil
  | _, r :: rs, v :: vs, ds, .cons a b _ _, e => by
    simp only [rdAll, Option.bind_eq_some_iff] at e
    obtain ⟨d, e1, ds', e2, e3⟩ := e
    cases e3
    exact .cons (a.rd f e1) (RRs.rd f b e2)
def CallSim (k : Kx) (r : List V → Hp → VK → Prop) (g : List D → Option SV) : Prop := ∀ (F : Hp) (ρ : Rho) (σ : L2.St) (H : Hp) (vs : List V) (ds : List D) (Q : VK), FR k F ρ σ H → RdRs k F H vs ds →
  wpo (g ds) (fun s => ∀ v F' H', Aft k ρ σ F H ρ F' H' → RR k H F' ρ σ H' (.sv s) v → Q v H') → r vs H Q
def evCall (g : List D → Option SV) (ma : AM) : EM := fun ρ => (ma ρ).bind fun a => (rdAll a.2 a.1).bind fun ds => (g ds).bind fun s => some (.sv s, a.2)
theorem simCall {k : Kx} {r : List V → Hp → VK → Prop} {g : List D → Option SV} {ta : TA} {ma : AM} (hr : CallSim k r g) (ha : SimA k ta ma) : SimE k (tCB r ta) (evCall g ma) := by
  intro F ρ σ H Q f h
  unfold evCall at h
  refine ha F ρ σ H _ f ((wpo_bind.mp h).mono fun a _ h => ?_)
  intro vs F1 H1 A1 R1
  have h := wpo_bind.mp h
  cases e1 : rdAll a.2 a.1 with
  | none => rw [e1] at h; exact h.elim
  | some ds =>
    rw [e1] at h
    refine hr F1 a.2 σ H1 vs ds Q A1.fr (R1.rd A1.fr e1) ((wpo_bind.mp h).mono fun s _ h => ?_)
    intro z F3 H3 A3 R3
    exact h z F3 H3 (A1.trans A3) (R3.back A1)
end Pv

/-! Pv3: operators: rules over data, and their pure functions. -/
namespace Pv
open PySem PySem.Spec PySem.SeqAt L2

def rDat (K : PySem.W.Frag) (p : D → D → Bool) (g : D → D → Bool) : R2 := fun x y H Q => ∃ d e, Dp K H x d ∧ Dp K H y e ∧ p d e = true ∧ Q (.bl (g d e)) H
def pEq (d e : D) : Bool := d.plain && e.plain && decide (min d.depth e.depth ≤ 100)
def pLt (d e : D) : Bool := d.plain && e.plain && PySem.W.alike d e && (match d with | .none => false | _ => true) && decide (min d.depth e.depth ≤ 100)
section
variable {X : Cx}
theorem op_dat {f : Value → Value → Sem Value} {p g : D → D → Bool}
    (rule : ∀ (d e : D) (v u : Value) (as bs : List Addr) (s : Shared) (Q : Value → Shared → Prop), p d e = true → Reads s.heap v d as → Reads s.heap u e bs → Q (.bool (g d e)) s → wpAny (model X.prog X.w) X.A (f v u) Q X.xe s) : OpR X f (rDat X.K p g) := by
  intro pins s σ H x y v u Q I rx ry h
  obtain ⟨d, e, hd, he, hp, q⟩ := h
  obtain ⟨as, r1⟩ := Dp.reads I d x v hd rx
  obtain ⟨bs, r2⟩ := Dp.reads I e y u he ry
  exact rule d e v u as bs s _ hp r1 r2 ⟨.bl _, H, I, rfl, q⟩
theorem pEq_ok {d e : D} (h : pEq d e = true) : d.plain = true ∧ e.plain = true ∧ min d.depth e.depth ≤ 100 := by
  simp only [pEq, Bool.and_eq_true, decide_eq_true_eq] at h
  exact ⟨h.1.1, h.1.2, h.2⟩
theorem pLt_ok {d e : D} (h : pLt d e = true) : d.plain = true ∧ e.plain = true ∧ PySem.W.alike d e = true ∧ d ≠ .none ∧ min d.depth e.depth ≤ 100 := by
  simp only [pLt, Bool.and_eq_true, decide_eq_true_eq] at h
  exact ⟨h.1.1.1.1, h.1.1.1.2, h.1.1.2, by rintro rfl; simp at h, h.2⟩
variable (hu : X.A.units + 200 < cLine)
include hu
theorem op_eqP : OpR X (compareOp .Eq) (rDat X.K pEq PyData.eqv) := op_dat fun d e v u as bs s Q hp r1 r2 q => by
  obtain ⟨h1, h2, h3⟩ := pEq_ok hp
  exact eq_plain r1 r2 h1 h2 (by omega) q
theorem op_neP : OpR X (compareOp .NotEq) (rDat X.K pEq fun d e => !PyData.eqv d e) := op_dat fun d e v u as bs s Q hp r1 r2 q => by
  obtain ⟨h1, h2, h3⟩ := pEq_ok hp
  exact ne_plain r1 r2 h1 h2 (by omega) q
theorem op_ltP : OpR X (compareOp .Lt) (rDat X.K pLt PySem.W.dataLt) := op_dat fun d e v u as bs s Q hp r1 r2 q => by
  obtain ⟨_, _, h1, h2, h3⟩ := pLt_ok hp
  exact PySem.W.lt_data r1 r2 h1 h2 (by omega) q
theorem op_gtP : OpR X (compareOp .Gt) (rDat X.K pLt fun d e => PySem.W.dataLt e d) := op_dat fun d e v u as bs s Q hp r1 r2 q => by
  obtain ⟨_, _, h1, h2, h3⟩ := pLt_ok hp
  exact PySem.W.gt_data r1 r2 h1 h2 (by omega) q
theorem op_leP : OpR X (compareOp .LtE) (rDat X.K pLt fun d e => !PySem.W.dataLt e d) := op_dat fun d e v u as bs s Q hp r1 r2 q => by
  obtain ⟨_, _, h1, h2, h3⟩ := pLt_ok hp
  exact PySem.W.le_data r1 r2 h1 h2 (by omega) q
theorem op_geP : OpR X (compareOp .GtE) (rDat X.K pLt fun d e => !PySem.W.dataLt d e) := op_dat fun d e v u as bs s Q hp r1 r2 q => by
  obtain ⟨_, _, h1, h2, h3⟩ := pLt_ok hp
  exact PySem.W.ge_data r1 r2 h1 h2 (by omega) q
def pIn (d e : D) : Bool := match e with
  | .list xs => d.plain && PyData.plainAll xs && decide (min (PyData.depthAll xs) d.depth ≤ 100)
  | .tuple xs => d.plain && PyData.plainAll xs && decide (min (PyData.depthAll xs) d.depth ≤ 100)
  | _ => false
def gIn (d e : D) : Bool := match e with
  | .list xs => xs.any fun y => PyData.eqv y d
  | .tuple xs => xs.any fun y => PyData.eqv y d
  | _ => false
theorem op_inP : OpR X (compareOp .In) (rDat X.K pIn gIn) := op_dat fun d e v u as bs s Q hp r1 r2 q => by
  cases e with
  | list xs =>
    simp only [pIn, Bool.and_eq_true, decide_eq_true_eq] at hp
    exact in_list_data r2 r1 hp.1.2 hp.1.1 (by omega) q
  | tuple xs =>
    simp only [pIn, Bool.and_eq_true, decide_eq_true_eq] at hp
    exact in_tuple_data r2 r1 hp.1.2 hp.1.1 (by omega) q
  | _ => simp [pIn] at hp
theorem op_notInP : OpR X (compareOp .NotIn) (rDat X.K pIn fun d e => !gIn d e) := op_dat fun d e v u as bs s Q hp r1 r2 q => by
  cases e with
  | list xs =>
    simp only [pIn, Bool.and_eq_true, decide_eq_true_eq] at hp
    exact notIn_list_data r2 r1 hp.1.2 hp.1.1 (by omega) q
  | tuple xs =>
    simp only [pIn, Bool.and_eq_true, decide_eq_true_eq] at hp
    exact notIn_tuple_data r2 r1 hp.1.2 hp.1.1 (by omega) q
  | _ => simp [pIn] at hp
end

/-! ### the pure functions -/
def gDat (p g : D → D → Bool) (d e : D) : Option SV := if p d e = true then some (.val (.bool (g d e))) else none
theorem simDat {k : Kx} {p g : D → D → Bool} (hp : ∀ d e, p d e = true → d.plain = true ∧ e.plain = true) : OpSim k (rDat k.K p g) (gDat p g) := by
  intro F ρ σ H x y dx dy Q f rx ry h
  unfold gDat at h
  by_cases e : p dx dy = true
  · rw [if_pos e] at h
    obtain ⟨p1, p2⟩ := hp _ _ e
    exact ⟨dx, dy, rx.dp f.sub p1, ry.dp f.sub p2, e, h _ F H (Aft.refl f) (.bl _)⟩
  · rw [if_neg e] at h; exact h.elim
theorem pIn_plain {d e : D} (h : pIn d e = true) : d.plain = true ∧ e.plain = true := by
  cases e with
  | list xs => simp only [pIn, Bool.and_eq_true] at h; exact ⟨h.1.1, by simpa [PyData.plain] using h.1.2⟩
  | tuple xs => simp only [pIn, Bool.and_eq_true] at h; exact ⟨h.1.1, by simpa [PyData.plain] using h.1.2⟩
  | _ => simp [pIn] at h
abbrev gEqD := gDat pEq PyData.eqv
abbrev gNeD := gDat pEq fun d e => !PyData.eqv d e
abbrev gLtD := gDat pLt PySem.W.dataLt
abbrev gGtD := gDat pLt fun d e => PySem.W.dataLt e d
abbrev gLeD := gDat pLt fun d e => !PySem.W.dataLt e d
abbrev gGeD := gDat pLt fun d e => !PySem.W.dataLt d e
abbrev gInD := gDat pIn gIn
abbrev gNotInD := gDat pIn fun d e => !gIn d e

def gI2 (C : Int → Int → Bool) (g : Int → Int → D) : D → D → Option SV
  | .int i, .int j => if C i j = true then some (.val (g i j)) else none
  | _, _ => none
theorem simI2 {k : Kx} {C : Int → Int → Bool} {C' : Int → Int → Prop} {g : Int → Int → D} {g' : Int → Int → V} (hC : ∀ i j, C i j = true → C' i j) (hg : ∀ F i j, Rep k F (g' i j) (g i j)) : OpSim k (rI C' g') (gI2 C g) := by
  intro F ρ σ H x y dx dy Q f rx ry h
  unfold gI2 at h
  split at h
  · rename_i i j
    by_cases e : C i j = true
    · rw [if_pos e] at h
      exact ⟨i, j, rx.int, ry.int, hC _ _ e, h _ F H (Aft.refl f) (hg F i j)⟩
    · rw [if_neg e] at h; exact h.elim
  · exact h.elim
theorem simI0 {k : Kx} {g : Int → Int → D} {g' : Int → Int → V} (hg : ∀ F i j, Rep k F (g' i j) (g i j)) : OpSim k (rI0 g') (gI2 (fun _ _ => true) g) := by
  intro F ρ σ H x y dx dy Q f rx ry h
  unfold gI2 at h
  split at h
  · rename_i i j
    rw [if_pos rfl] at h
    exact ⟨i, j, rx.int, ry.int, h _ F H (Aft.refl f) (hg F i j)⟩
  · exact h.elim
def cMul (i j : Int) : Bool := Nat.ble i.natAbs 18446744073709551615 || Nat.ble j.natAbs 18446744073709551615
def cDiv (_ j : Int) : Bool := Nat.ble 1 j.toNat && Nat.ble j.toNat 1073741823
def cPos (_ j : Int) : Bool := Nat.ble 1 j.toNat
def cPow (i j : Int) : Bool := decide (0 ≤ j) && (Nat.ble j.toNat 1000000 && Nat.ble i.natAbs 18446744073709551615)
abbrev gSub := gI2 (fun _ _ => true) fun i j => .int (i - j)
abbrev gMulI := gI2 cMul fun i j => .int (i * j)
abbrev gFdiv := gI2 cDiv fun i j => .int (i / j)
abbrev gMod := gI2 cPos fun i j => .int (i % j)
abbrev gPow := gI2 cPow fun i j => .int (i ^ j.toNat)
theorem simSub {k : Kx} : OpSim k (rI0 fun i j => V.int (i - j)) gSub := simI0 fun F i j => .int _
theorem simMulI {k : Kx} : OpSim k (rI CMul fun i j => V.int (i * j)) gMulI := simI2 (fun i j h => by simp [cMul] at h; unfold CMul; omega) fun F i j => .int _
theorem simFdiv {k : Kx} : OpSim k (rI CDiv fun i j => V.int (i / j)) gFdiv := simI2 (fun i j h => by simp [cDiv] at h; unfold CDiv; omega) fun F i j => .int _
theorem simMod {k : Kx} : OpSim k (rI (fun _ j => 0 < j) fun i j => V.int (i % j)) gMod := simI2 (fun i j h => by simp [cPos] at h; omega) fun F i j => .int _
theorem simPow {k : Kx} : OpSim k (rI CPow fun i j => V.int (i ^ j.toNat)) gPow := simI2 (fun i j h => by simp [cPow] at h; unfold CPow; omega) fun F i j => .int _
def gNeg : D → Option SV
  | .int i => some (.val (.int (-i)))
  | _ => none
theorem simNeg {k : Kx} : UnSim k (rU fun i => V.int (-i)) gNeg := by
  intro F ρ σ H x dx Q f rx h
  unfold gNeg at h
  split at h
  · exact ⟨_, rx.int, h _ F H (Aft.refl f) (.int _)⟩
  · exact h.elim
/-! is None -/
def isNoneD : D → Bool
  | .none => true
  | _ => false
def gIs (d e : D) : Option SV := if isNoneD e = true then some (.val (.bool (isNoneD d))) else none
theorem RdR.isNon {k : Kx} {F H : Hp} {v : V} {d : D} (h : RdR k F H v d) : decide (v = .non) = isNoneD d := by
  rcases h with h | ⟨q, o, ho, rfl, h1, h2, rfl⟩
  · cases h <;> first | rfl | simp [isNoneD]
  · cases o <;> simp [isNoneD]
theorem isNoneD_eq {d : D} (h : isNoneD d = true) : d = .none := by cases d <;> first | rfl | simp [isNoneD] at h
theorem simIs {k : Kx} : OpSim k (fun x y H Q => y = .non ∧ Q (.bl (decide (x = .non))) H) gIs := by
  intro F ρ σ H x y dx dy Q f rx ry h
  unfold gIs at h
  by_cases e : isNoneD dy = true
  · rw [if_pos e] at h
    cases isNoneD_eq e
    exact ⟨ry.non, by rw [rx.isNon]; exact h _ F H (Aft.refl f) (.bl _)⟩
  · rw [if_neg e] at h; exact h.elim
/-! a + b -/
def gAdd : D → D → Option SV
  | .int i, .int j => some (.val (.int (i + j)))
  | .list xs, .list ys => if xs.length + ys.length ≤ sizeLine then some (.own (.lst (xs ++ ys))) else none
  | .tuple xs, .tuple ys => if xs.length + ys.length ≤ sizeLine then some (.val (.tuple (xs ++ ys))) else none
  | .str x, .str y => if x.length + y.length ≤ sizeLine then some (.val (.str (x ++ y))) else none
  | _, _ => none
def rAddA (K : PySem.W.Frag) : R2 := fun x y H Q => (((rI0 fun i j => .int (i + j)) x y H Q ∨ rCat x y H Q) ∨ (rCatA K x y H Q)) ∨ (fun x y H Q => ∃ i j, x = V.str i ∧ y = .str j ∧ i.length + j.length ≤ sizeLine ∧ Q (.str (i ++ j)) H) x y H Q
theorem op_addA {X : Cx} : OpR X (binaryOp .Add) (rAddA X.K) := (((op_add.or op_cat).or op_catA).or op_add_str)
theorem simAdd {k : Kx} : OpSim k (rAddA k.K) gAdd := by
  intro F ρ σ H x y dx dy Q f rx ry h
  unfold gAdd at h
  split at h
  · exact .inl (.inl (.inl ⟨_, _, rx.int, ry.int, h _ F H (Aft.refl f) (.int _)⟩))
  · rename_i xs ys
    split at h
    · rename_i hz
      obtain ⟨a, vs, rfl, ha, ra⟩ := rx.lst f.sub
      obtain ⟨b, us, rfl, hb, rb⟩ := ry.lst f.sub
      refine .inl (.inl (.inr ⟨a, b, vs, us, rfl, rfl, ha, hb, by rw [ra.length, rb.length]; exact hz, fun p hp => ?_⟩))
      exact h _ F _ (Aft.newO f hp) ⟨p, _, rfl, hp, upd_same, f.sub.none_of hp, _, rfl, ra.append rb⟩
    · exact h.elim
  · rename_i xs ys
    split at h
    · rename_i hz
      obtain ⟨a, vs, rfl, ha', ha, ra⟩ := rx.tup f.sub
      obtain ⟨b, us, rfl, hb', hb, rb⟩ := ry.tup f.sub
      refine .inl (.inr ⟨a, b, vs, us, rfl, rfl, ha, hb, by rw [ra.length, rb.length]; exact hz, fun e => ?_, fun e1 e2 => ?_, fun e1 e2 p hp => ?_⟩)
      · subst e
        cases ra
        exact h _ F H (Aft.refl f) (Rep.tup hb' rb)
      · subst e2
        cases rb
        rw [List.append_nil] at h
        exact h _ F H (Aft.refl f) (Rep.tup ha' ra)
      · exact h _ _ _ (Aft.newF f hp) (Rep.tup upd_same ((ra.append rb).mono (Sub.upd (f.sub.none_of hp))))
    · exact h.elim
  · split at h
    · rename_i hz
      exact .inr ⟨_, _, rx.str, ry.str, hz, h _ F H (Aft.refl f) (.str _)⟩
    · exact h.elim
  · exact h.elim
/-! a[i] -/
def gIx : D → D → Option SV
  | .list xs, .int i => (atI xs i).map SV.val
  | .tuple xs, .int i => (atI xs i).map SV.val
  | .dict [(.bool true, .list xs)], .int i => (atI xs i).map SV.val
  | .dict [(.bool true, .tuple xs)], .int i => (atI xs i).map SV.val
  | _, _ => none
def rIxA (K : PySem.W.Frag) : R2 := fun x y H Q => rIxL K x y H Q ∨ rIxT K x y H Q
theorem ix_A {X : Cx} : IxR X (rIxA X.K) := ix_list.or ix_tup
theorem RepL.atI {k : Kx} {F : Hp} {vs : List V} {ds : List D} {i : Int} {d : D} (h : RepL k F vs ds) (e : L2.atI ds i = some d) : ∃ v, L2.atI vs i = some v ∧ Rep k F v d := by
  unfold L2.atI at e ⊢
  rw [h.length]
  cases e1 : ixN ds.length i with
  | none => rw [e1] at e; simp at e
  | some j =>
    rw [e1] at e
    exact h.get e
theorem simIx {k : Kx} : OpSim k (rIxA k.K) gIx := by
  intro F ρ σ H x y dx dy Q f rx ry h
  unfold gIx at h
  split at h
  · rename_i xs i
    obtain ⟨a, vs, rfl, ha, ra⟩ := rx.lst f.sub
    cases e : L2.atI xs i with
    | none => rw [e] at h; exact h.elim
    | some d =>
      rw [e] at h
      obtain ⟨v, e1, r1⟩ := ra.atI e
      exact .inl ⟨a, vs, i, v, rfl, ry.int, .inl (.inl ha), e1, h v F H (Aft.refl f) r1⟩
  · rename_i xs i
    obtain ⟨a, vs, rfl, _, ha, ra⟩ := rx.tup f.sub
    cases e : L2.atI xs i with
    | none => rw [e] at h; exact h.elim
    | some d =>
      rw [e] at h
      obtain ⟨v, e1, r1⟩ := ra.atI e
      exact .inr ⟨a, vs, i, v, rfl, ry.int, ha, e1, h v F H (Aft.refl f) r1⟩
  · rename_i xs i
    obtain ⟨a, vs, rfl, ha, ra⟩ := rx.fls f.sub
    cases e : L2.atI xs i with
    | none => rw [e] at h; exact h.elim
    | some d =>
      rw [e] at h
      obtain ⟨v, e1, r1⟩ := ra.atI e
      exact .inl ⟨a, vs, i, v, rfl, ry.int, ha, e1, h v F H (Aft.refl f) r1⟩
  · rename_i xs i
    obtain ⟨a, vs, rfl, _, ha, ra⟩ := rx.xtp f.sub
    cases e : L2.atI xs i with
    | none => rw [e] at h; exact h.elim
    | some d =>
      rw [e] at h
      obtain ⟨v, e1, r1⟩ := ra.atI e
      exact .inr ⟨a, vs, i, v, rfl, ry.int, ha, e1, h v F H (Aft.refl f) r1⟩
  · exact h.elim
end Pv

/-! Pv4: freezing, displays, truth, tests, statements. -/
namespace Pv
open PySem PySem.Spec PySem.SeqAt L2

/-! ### freezing -/
def frz1 (ρ : Rho) : Rv → Option (D × Rho)
  | .sv s => some (s.d, ρ)
  | .plc i => match ρ[i]? with
    | some (some (.own o)) => some (o.d, ρ.set i (some (.val o.d)))
    | some (some (.val d)) => some (d, ρ)
    | _ => none
def frzs : Rho → List Rv → Option (List D × Rho)
  | ρ, [] => some ([], ρ)
  | ρ, r :: rs => (frz1 ρ r).bind fun a => (frzs a.2 rs).bind fun b => some (a.1 :: b.1, b.2)
theorem RepO.rep {k : Kx} {F : Hp} {o : OB} {ho : HO} {p : Addr} (h : RepO k F p o ho) (e : ∃ o, F p = some o ∧ nlk o = nlk ho) : Rep k F (.ref p) o.d := by
  cases o with
  | lst xs =>
    obtain ⟨vs, rfl, r⟩ := h
    obtain ⟨o, e, z⟩ := e
    rw [nlk_fx z True.intro] at e
    exact .lst e r
  | ins c fs =>
    obtain ⟨C, ns, dx, vs, h1, rfl, h3, h4, r⟩ := h
    obtain ⟨o, e, z⟩ := e
    rw [nlk_fx z True.intro] at e
    exact .obj h1 e h3 h4 r
  | dct t ks ds =>
    obtain ⟨vs, rfl, h2, r⟩ := h
    obtain ⟨o, e, z⟩ := e
    refine .dct ?_ h2 r
    rcases nlk_dc z (by unfold hoD; split <;> trivial) with rfl | ⟨od, rfl⟩
    · exact .inl e
    · exact .inr ⟨od, e⟩
  | dcn ks ds =>
    obtain ⟨es, rfl, h2, r1, r2⟩ := h
    obtain ⟨o, e, z⟩ := e
    rw [nlk_fx z True.intro] at e
    exact .dcn e h2 r1 r2
section
variable {k : Kx} {ρ ρ0 ρ1 ρ2 : Rho} {σ : L2.St} {F H F0 H0 F1 H1 F2 H2 : Hp} {r : Rv} {v : V} {d : D}
theorem set_get {α : Type} {l : List α} {i j : Nat} {x y : α} (h : (l.set i x)[j]? = some y) : (j = i ∧ y = x ∧ i < l.length) ∨ (j ≠ i ∧ l[j]? = some y) := by
  by_cases e : j = i
  · subst e
    by_cases hl : j < l.length
    · rw [List.getElem?_set_self hl] at h; cases h; exact .inl ⟨rfl, rfl, hl⟩
    · rw [List.getElem?_eq_none (by simpa using hl)] at h; cases h
  · rw [List.getElem?_set_ne (Ne.symm e)] at h; exact .inr ⟨e, h⟩
theorem Own.set_val {i : Nat} {d : D} {p : Addr} (h : Own (ρ.set i (some (.val d))) σ p) : Own ρ σ p := by
  obtain ⟨j, o, e, e2⟩ := h
  rcases set_get e with ⟨_, h, _⟩ | ⟨_, h⟩
  · cases h
  · exact ⟨j, o, h, e2⟩
theorem FR.freeze (f : FR k F ρ σ H) {i : Nat} {o : OB} (e : ρ[i]? = some (some (.own o))) : ∃ p ho, σ[i]? = some (some (.ref p)) ∧ H p = some ho ∧ F p = none ∧ Rep k (upd F p ho) (.ref p) o.d ∧ FR k (upd F p ho) (ρ.set i (some (.val o.d))) σ H := by
  obtain ⟨p, ho, s, hp, n, ro⟩ := f.owns i o e
  have rp : Rep k (upd F p ho) (.ref p) o.d := RepO.rep (ro.mono (Sub.upd n)) ⟨_, upd_same, rfl⟩
  refine ⟨p, ho, s, hp, n, rp, fun a u q => ?_, by simpa using f.len, fun j d' q => ?_, fun j o' q => ?_, fun j l o1 o2 q e1 e2 e3 e4 => ?_⟩
  · by_cases ha : a = p
    · subst ha; rw [upd_same] at q; cases q; exact ⟨_, hp, rfl⟩
    · rw [upd_ne ha] at q; exact f.sub a u q
  · rcases set_get q with ⟨rfl, h, _⟩ | ⟨_, h⟩
    · cases h; exact ⟨_, s, rp⟩
    · obtain ⟨v, s', r'⟩ := f.vals j d' h
      exact ⟨v, s', r'.mono (Sub.upd n)⟩
  · rcases set_get q with ⟨_, h, _⟩ | ⟨nj, h⟩
    · cases h
    · obtain ⟨p', ho', s', hp', n', ro'⟩ := f.owns j o' h
      have ne : p' ≠ p := fun z => nj (f.dist j i o' o p h e (z ▸ s') s)
      exact ⟨p', ho', s', hp', by rw [upd_ne ne]; exact n', ro'.mono (Sub.upd n)⟩
  · rcases set_get e1 with ⟨_, h, _⟩ | ⟨_, h1⟩
    · cases h
    · rcases set_get e2 with ⟨_, h, _⟩ | ⟨_, h2⟩
      · cases h
      · exact f.dist j l o1 o2 q h1 h2 e3 e4
theorem FR.freezeT (f : FR k F ρ σ H) {p : Addr} {ho : HO} (hp : H p = some ho) (n : F p = none) (no : ¬ Own ρ σ p) : FR k (upd F p ho) ρ σ H := by
  refine ⟨fun a u q => ?_, f.len, fun j d' q => ?_, fun j o' q => ?_, f.dist⟩
  · by_cases ha : a = p
    · subst ha; rw [upd_same] at q; cases q; exact ⟨_, hp, rfl⟩
    · rw [upd_ne ha] at q; exact f.sub a u q
  · obtain ⟨v, s', r'⟩ := f.vals j d' q
    exact ⟨v, s', r'.mono (Sub.upd n)⟩
  · obtain ⟨p', ho', s', hp', n', ro'⟩ := f.owns j o' q
    have ne : p' ≠ p := fun z => no (z ▸ ⟨j, o', q, s'⟩)
    exact ⟨p', ho', s', hp', by rw [upd_ne ne]; exact n', ro'.mono (Sub.upd n)⟩
theorem slots_set {i : Nat} {d : D} : ∀ (j : Nat) (s : SV), ρ[j]? = some (some s) → ∃ s', (ρ.set i (some (SV.val d)))[j]? = some (some s') := fun j s h => by
  by_cases e : j = i
  · subst e
    exact ⟨_, List.getElem?_set_self (List.getElem?_eq_some_iff.mp h).1⟩
  · exact ⟨s, by rw [List.getElem?_set_ne (Ne.symm e)]; exact h⟩
theorem frz1_ok {ρ' : Rho} (f0 : FR k F0 ρ0 σ H0) (A : Aft k ρ0 σ F0 H0 ρ F H) (R : RR k H0 F ρ σ H r v) (e : frz1 ρ r = some (d, ρ')) :
    ∃ F', Aft k ρ0 σ F0 H0 ρ' F' H ∧ Sub F F' ∧ Rep k F' v d ∧ (∀ p, F p = none → F' p ≠ none → v = .ref p ∧ (H0 p ≠ none ∨ ∃ o, r = .sv (.own o))) ∧ (∀ (i : Nat) (s : SV), ρ[i]? = some (some s) → ∃ s', ρ'[i]? = some (some s')) := by
  match r, R with
  | .sv (.val d'), R =>
    simp only [frz1, Option.some.injEq, Prod.mk.injEq] at e
    obtain ⟨rfl, rfl⟩ := e
    exact ⟨F, A, Sub.refl _, R, fun p h1 h2 => absurd h1 h2, fun i s h => ⟨s, h⟩⟩
  | .sv (.own o), ⟨p, ho, e1, n, h1, n1, q⟩ =>
    simp only [frz1, Option.some.injEq, Prod.mk.injEq] at e
    obtain ⟨rfl, rfl⟩ := e
    subst e1
    have no : ¬ Own ρ σ p := fun z => by
      obtain ⟨u, hu⟩ := f0.own_some (A.ow p z)
      rw [n] at hu; cases hu
    have ff := A.fr.freezeT h1 n1 no
    refine ⟨upd F p ho, ⟨ff, ⟨A.tr.sub.trans (Sub.upd n1), A.tr.keep, fun a u e m f nI => ?_, A.tr.there⟩, A.ow, A.sl⟩, Sub.upd n1, RepO.rep (q.mono (Sub.upd n1)) ⟨_, upd_same, rfl⟩, fun a h1 h2 => ?_, fun i s h => ⟨s, h⟩⟩
    · have ne : a ≠ p := fun z => by subst z; rw [n] at e; cases e
      rw [upd_ne ne]; exact A.tr.new a u e m f nI
    · by_cases ha : a = p
      · subst ha; exact ⟨rfl, .inr ⟨o, rfl⟩⟩
      · rw [upd_ne ha] at h2; exact absurd h1 h2
  | .plc i, ⟨e1, s, h1⟩ =>
    cases s with
    | val d' =>
      simp only [frz1, h1, Option.some.injEq, Prod.mk.injEq] at e
      obtain ⟨rfl, rfl⟩ := e
      obtain ⟨v', h2, h3⟩ := A.fr.vals i d' h1
      rw [e1] at h2; cases h2
      exact ⟨F, A, Sub.refl _, h3, fun p h1 h2 => absurd h1 h2, fun i s h => ⟨s, h⟩⟩
    | own o =>
      simp only [frz1, h1, Option.some.injEq, Prod.mk.injEq] at e
      obtain ⟨rfl, rfl⟩ := e
      obtain ⟨p, ho, s, hp, n, rp, ff⟩ := A.fr.freeze h1
      rw [e1] at s; cases s
      have op : Own ρ σ p := ⟨i, o, h1, e1⟩
      refine ⟨upd F p ho, ⟨ff, ⟨A.tr.sub.trans (Sub.upd n), A.tr.keep, fun a u e m f nI => ?_, A.tr.there⟩, fun a z => A.ow a z.set_val, fun j s h => ?_⟩, Sub.upd n, rp, fun a h1 h2 => ?_, slots_set⟩
      · have ne : a ≠ p := fun z => nI (z ▸ A.ow p op)
        rw [upd_ne ne]; exact A.tr.new a u e m f nI
      · obtain ⟨s', h'⟩ := A.sl j s h
        exact slots_set j s' h'
      · by_cases ha : a = p
        · subst ha
          refine ⟨rfl, .inl ?_⟩
          obtain ⟨u, hu⟩ := f0.own_some (A.ow a op)
          rw [hu]; simp
        · rw [upd_ne ha] at h2; exact absurd h1 h2
theorem RRs.frz {ρ' : Rho} {F' : Hp} (sb : Sub F F') (sl : ∀ (i : Nat) (s : SV), ρ[i]? = some (some s) → ∃ s', ρ'[i]? = some (some s')) : ∀ {H1 : Hp} {rs : List Rv} {vs : List V}, RRs k F ρ σ H H1 rs vs → (∀ p, F p = none → F' p ≠ none → H1 p ≠ none) → RRs k F' ρ' σ H H1 rs vs
  | _, _, _, .nil, _ => .nil
  | _, _, _, .cons (r := r) a b c d, hf => by
    refine .cons ?_ (RRs.frz sb sl b fun p h1 h2 => c p (hf p h1 h2)) c d
    match r, a with
    | .sv (.val _), a => exact Rep.mono sb a
    | .sv (.own o), ⟨p, ho, e, n, h1, n1, q⟩ =>
      refine ⟨p, ho, e, n, h1, ?_, q.mono sb⟩
      cases z : F' p with
      | none => rfl
      | some u => exact absurd n (hf p n1 (by rw [z]; simp))
    | .plc i, ⟨e, s, h⟩ => exact ⟨e, sl i s h⟩
theorem frzs_ok (f0 : FR k F0 ρ0 σ H0) : ∀ {rs : List Rv} {vs : List V} {ρ ρ' : Rho} {F Hs : Hp} {ds : List D}, Aft k ρ0 σ F0 H0 ρ F H → (∀ p, H0 p ≠ none → Hs p ≠ none) → RRs k F ρ σ H Hs rs vs → frzs ρ rs = some (ds, ρ') →
    ∃ F', Aft k ρ0 σ F0 H0 ρ' F' H ∧ Sub F F' ∧ RepL k F' vs ds
  | [], _, _, _, F, _, _, A, _, .nil, e => by
    simp only [frzs, Option.some.injEq, Prod.mk.injEq] at e
    obtain ⟨rfl, rfl⟩ := e
    exact ⟨F, A, Sub.refl _, .nil⟩
  | r :: rs, v :: vs, ρ, ρ', F, Hs, ds, A, hs, .cons (H1 := H1) a b c d, e => by
    simp only [frzs, Option.bind_eq_some_iff] at e
    obtain ⟨x, e1, y, e2, e3⟩ := e
    cases e3
    have a' : RR k H0 F ρ σ H r v := by
      match r, a with
      | .sv (.val _), a => exact a
      | .sv (.own o), ⟨p, ho, e, n, q⟩ =>
        refine ⟨p, ho, e, ?_, q⟩
        cases z : H0 p with
        | none => rfl
        | some u => exact absurd n (hs p (by rw [z]; simp))
      | .plc i, h => exact h
    obtain ⟨F1, A1, s1, r1, n1, l1⟩ := frz1_ok f0 A a' e1
    have b' := RRs.frz s1 l1 b fun p h1 h2 => by
      obtain ⟨e5, z⟩ := n1 p h1 h2
      rcases z with z | ⟨o, z⟩
      · exact c p (hs p z)
      · obtain ⟨q, e6, h6⟩ := d o z
        rw [e5] at e6; cases e6; exact h6
    obtain ⟨F2, A2, s2, r2⟩ := frzs_ok f0 A1 (fun p h => c p (hs p h)) b' e2
    exact ⟨F2, A2, s1.trans s2, .cons (r1.mono s2) r2⟩
end
/-! ### displays -/
def evTup (ma : AM) : EM := fun ρ => (ma ρ).bind fun a => (frzs a.2 a.1).bind fun b => if b.1.length ≤ sizeLine then some (.sv (.val (.tuple b.1)), b.2) else none
def evLst (ma : AM) : EM := fun ρ => (ma ρ).bind fun a => (frzs a.2 a.1).bind fun b => if b.1.length ≤ sizeLine then some (.sv (.own (.lst b.1)), b.2) else none
theorem Aft.new {k : Kx} {ρ ρ' : Rho} {σ : L2.St} {F H F' H' : Hp} (A : Aft k ρ σ F H ρ' F' H') {p : Addr} {o : HO} (h : H' p = none) : Aft k ρ σ F H ρ' (upd F' p o) (upd H' p o) := A.trans (Aft.newF A.fr h)
theorem Aft.newOw {k : Kx} {ρ ρ' : Rho} {σ : L2.St} {F H F' H' : Hp} (A : Aft k ρ σ F H ρ' F' H') {p : Addr} {o : HO} (h : H' p = none) : Aft k ρ σ F H ρ' F' (upd H' p o) := A.trans (Aft.newO A.fr h)
theorem Aft.none_of {k : Kx} {ρ ρ' : Rho} {σ : L2.St} {F H F' H' : Hp} (A : Aft k ρ σ F H ρ' F' H') {p : Addr} (h : H' p = none) : H p = none := by
  cases z : H p with
  | none => rfl
  | some u => obtain ⟨u', hu'⟩ := A.tr.there p u z; rw [h] at hu'; cases hu'
theorem simTup {k : Kx} {ta : TA} {ma : AM} (ha : SimA k ta ma) : SimE k (tTup ta) (evTup ma) := by
  intro F ρ σ H Q f h
  unfold evTup at h
  refine ha F ρ σ H _ f ((wpo_bind.mp h).mono fun a _ h => ?_)
  intro vs F1 H1 A1 R1
  have h := wpo_bind.mp h
  cases e1 : frzs a.2 a.1 with
  | none => rw [e1] at h; exact h.elim
  | some b =>
    rw [e1] at h
    obtain ⟨F2, A2, s2, r2⟩ := frzs_ok f A1 (fun _ h => h) R1 e1
    have h : wpo (if b.1.length ≤ sizeLine then some (Rv.sv (.val (.tuple b.1)), b.2) else none) _ := h
    split at h
    · rename_i hz
      refine ⟨by rw [r2.length]; exact hz, fun p hp => ?_⟩
      exact h _ _ _ (A2.new hp) (Rep.tup upd_same (r2.mono (Sub.upd (A2.fr.sub.none_of hp))))
    · exact h.elim
theorem simLst {k : Kx} {ta : TA} {ma : AM} (ha : SimA k ta ma) : SimE k (tLst ta) (evLst ma) := by
  intro F ρ σ H Q f h
  unfold evLst at h
  refine ha F ρ σ H _ f ((wpo_bind.mp h).mono fun a _ h => ?_)
  intro vs F1 H1 A1 R1
  have h := wpo_bind.mp h
  cases e1 : frzs a.2 a.1 with
  | none => rw [e1] at h; exact h.elim
  | some b =>
    rw [e1] at h
    obtain ⟨F2, A2, s2, r2⟩ := frzs_ok f A1 (fun _ h => h) R1 e1
    have h : wpo (if b.1.length ≤ sizeLine then some (Rv.sv (.own (.lst b.1)), b.2) else none) _ := h
    split at h
    · rename_i hz
      refine ⟨by rw [r2.length]; exact hz, fun p hp => ?_⟩
      exact h _ _ _ (A2.newOw hp) ⟨p, _, rfl, A2.none_of hp, upd_same, A2.fr.sub.none_of hp, _, rfl, r2⟩
    · exact h.elim

/-! ### tests -/
abbrev TM := Rho → Option (Bool × Rho)
def SimT (k : Kx) (tt : TT) (m : TM) : Prop := ∀ (F : Hp) (ρ : Rho) (σ : L2.St) (H : Hp) (Q : Bool → Hp → Prop), FR k F ρ σ H →
  wpo (m ρ) (fun x => ∀ F' H', Aft k ρ σ F H x.2 F' H' → Q x.1 H') → tt σ H Q
def ST (k : Kx) (X : Cx) (e : Expr) (m : TM) : Prop := ∃ tt, PT X e tt ∧ SimT k tt m
def toB : D → Option Bool
  | .bool b => some b
  | _ => none
def tvB (ma : EM) : TM := fun ρ => (ma ρ).bind fun a => (rdD a.2 a.1).bind fun d => (toB d).bind fun b => some (b, a.2)
theorem simTvB {k : Kx} {ta : TE} {ma : EM} (ha : SimE k ta ma) : SimT k (fun σ H Q => ta σ H fun x H1 => ∃ c, x = .bl c ∧ Q c H1) (tvB ma) := by
  intro F ρ σ H Q f h
  unfold tvB at h
  refine ha F ρ σ H _ f ((wpo_bind.mp h).mono fun a _ h => ?_)
  intro v F1 H1 A1 R1
  have h := wpo_bind.mp h
  cases e1 : rdD a.2 a.1 with
  | none => rw [e1] at h; exact h.elim
  | some d =>
    rw [e1] at h
    have h := wpo_bind.mp h
    cases e2 : toB d with
    | none => rw [e2] at h; exact h.elim
    | some b =>
      rw [e2] at h
      have : d = .bool b := by cases d <;> simp [toB] at e2; rw [e2]
      subst this
      exact ⟨b, (R1.rd A1.fr e1).bl, h F1 H1 A1⟩
def tvNot (mt : TM) : TM := fun ρ => (mt ρ).bind fun a => some (!a.1, a.2)
theorem simTNot {k : Kx} {tt : TT} {mt : TM} (h : SimT k tt mt) : SimT k (L2.tNot tt) (tvNot mt) := by
  intro F ρ σ H Q f q
  unfold tvNot at q
  refine h F ρ σ H _ f ((wpo_bind.mp q).mono fun a _ q => ?_)
  intro F1 H1 A1
  exact q F1 H1 A1
def tvAnd (ma mb : TM) : TM := fun ρ => (ma ρ).bind fun a => if a.1 = true then mb a.2 else some (false, a.2)
def tvOr (ma mb : TM) : TM := fun ρ => (ma ρ).bind fun a => if a.1 = true then some (true, a.2) else mb a.2
theorem simTAnd {k : Kx} {ta tb : TT} {ma mb : TM} (ha : SimT k ta ma) (hb : SimT k tb mb) : SimT k (L2.tAnd ta tb) (tvAnd ma mb) := by
  intro F ρ σ H Q f q
  unfold tvAnd at q
  refine ha F ρ σ H _ f ((wpo_bind.mp q).mono fun a _ q => ?_)
  intro F1 H1 A1
  split at q
  · rename_i e
    rw [e]
    refine hb F1 a.2 σ H1 _ A1.fr (q.mono fun b _ q => ?_)
    intro F2 H2 A2
    exact q F2 H2 (A1.trans A2)
  · rename_i e
    have e : a.1 = false := by simpa using e
    rw [e]
    exact q F1 H1 A1
theorem simTOr {k : Kx} {ta tb : TT} {ma mb : TM} (ha : SimT k ta ma) (hb : SimT k tb mb) : SimT k (L2.tOr ta tb) (tvOr ma mb) := by
  intro F ρ σ H Q f q
  unfold tvOr at q
  refine ha F ρ σ H _ f ((wpo_bind.mp q).mono fun a _ q => ?_)
  intro F1 H1 A1
  split at q
  · rename_i e
    rw [e]
    exact q F1 H1 A1
  · rename_i e
    have e : a.1 = false := by simpa using e
    rw [e]
    refine hb F1 a.2 σ H1 _ A1.fr (q.mono fun b _ q => ?_)
    intro F2 H2 A2
    exact q F2 H2 (A1.trans A2)
/-! ### and, or, not, conditional expressions as values -/
def evAnd (ma mb : EM) : EM := fun ρ => (tvB ma ρ).bind fun a => if a.1 = true then mb a.2 else some (.sv (.val (.bool false)), a.2)
def evOr (ma mb : EM) : EM := fun ρ => (tvB ma ρ).bind fun a => if a.1 = true then some (.sv (.val (.bool true)), a.2) else mb a.2
def evNot (ma : EM) : EM := fun ρ => (tvB ma ρ).bind fun a => some (.sv (.val (.bool (!a.1))), a.2)
def evIf (mt : TM) (ma mb : EM) : EM := fun ρ => (mt ρ).bind fun a => if a.1 = true then ma a.2 else mb a.2
theorem simAnd {k : Kx} {ta tb : TE} {ma mb : EM} (ha : SimE k ta ma) (hb : SimE k tb mb) : SimE k (tAndV ta tb) (evAnd ma mb) := by
  intro F ρ σ H Q f q
  unfold evAnd at q
  refine simTvB ha F ρ σ H (fun c H1 => if c = true then tb σ H1 Q else Q (.bl false) H1) f ((wpo_bind.mp q).mono fun a _ q => ?_)
  intro F1 H1 A1
  split at q
  · rename_i e
    rw [if_pos e]
    refine hb F1 a.2 σ H1 _ A1.fr (q.mono fun b _ q => ?_)
    intro v F2 H2 A2 R2
    exact q v F2 H2 (A1.trans A2) (R2.back A1)
  · rename_i e
    rw [if_neg e]
    exact q _ F1 H1 A1 (.bl _)
theorem simNot {k : Kx} {ta : TE} {ma : EM} (ha : SimE k ta ma) : SimE k (tNotV ta) (evNot ma) := by
  intro F ρ σ H Q f q
  unfold evNot at q
  refine simTvB ha F ρ σ H (fun c H1 => Q (.bl (!c)) H1) f ((wpo_bind.mp q).mono fun a _ q => ?_)
  intro F1 H1 A1
  exact q _ F1 H1 A1 (.bl _)
theorem simIf {k : Kx} {tt : TT} {ta tb : TE} {mt : TM} {ma mb : EM} (ht : SimT k tt mt) (ha : SimE k ta ma) (hb : SimE k tb mb) : SimE k (tIf tt ta tb) (evIf mt ma mb) := by
  intro F ρ σ H Q f q
  unfold evIf at q
  refine ht F ρ σ H _ f ((wpo_bind.mp q).mono fun a _ q => ?_)
  intro F1 H1 A1
  split at q
  · rename_i e
    rw [if_pos e]
    refine ha F1 a.2 σ H1 _ A1.fr (q.mono fun b _ q => ?_)
    intro v F2 H2 A2 R2
    exact q v F2 H2 (A1.trans A2) (R2.back A1)
  · rename_i e
    rw [if_neg e]
    refine hb F1 a.2 σ H1 _ A1.fr (q.mono fun b _ q => ?_)
    intro v F2 H2 A2 R2
    exact q v F2 H2 (A1.trans A2) (R2.back A1)
/-! chains a < b < c -/
def evChain (g g' : D → D → Option SV) (ma mb mc : EM) : EM := fun ρ => (ma ρ).bind fun a => (mb a.2).bind fun b => (rdD b.2 a.1).bind fun d1 => (rdD b.2 b.1).bind fun d2 => (g d1 d2).bind fun s => (toB s.d).bind fun c =>
  if c = true then (mc b.2).bind fun z => (rdD z.2 b.1).bind fun d2' => (rdD z.2 z.1).bind fun d3 => (g' d2' d3).bind fun s' => some (.sv s', z.2) else some (.sv (.val (.bool false)), b.2)
theorem simChain {k : Kx} {r r' : R2} {g g' : D → D → Option SV} {ta tb tc : TE} {ma mb mc : EM} (hr : OpSim k r g) (hr' : OpSim k r' g') (ha : SimE k ta ma) (hb : SimE k tb mb) (hc : SimE k tc mc) : SimE k (tChain r r' ta tb tc) (evChain g g' ma mb mc) := by
  intro F ρ σ H Q f h
  unfold evChain at h
  refine ha F ρ σ H _ f ((wpo_bind.mp h).mono fun a _ h => ?_)
  intro v F1 H1 A1 R1
  refine hb F1 a.2 σ H1 _ A1.fr ((wpo_bind.mp h).mono fun b _ h => ?_)
  intro u F2 H2 A2 R2
  have R1' := R1.step f A1 A2
  have R2' := R2.back A1
  have A12 := A1.trans A2
  have h := wpo_bind.mp h
  cases e1 : rdD b.2 a.1 with
  | none => rw [e1] at h; exact h.elim
  | some d1 =>
    rw [e1] at h
    have h := wpo_bind.mp h
    cases e2 : rdD b.2 b.1 with
    | none => rw [e2] at h; exact h.elim
    | some d2 =>
      rw [e2] at h
      refine hr F2 b.2 σ H2 v u d1 d2 _ A2.fr (R1'.rd A2.fr e1) (R2.rd A2.fr e2) ((wpo_bind.mp h).mono fun s _ h => ?_)
      intro z F3 H3 A3 R3
      have h := wpo_bind.mp h
      cases e3 : toB s.d with
      | none => rw [e3] at h; exact h.elim
      | some c =>
        rw [e3] at h
        have hs : s = .val (.bool c) := by
          cases s with
          | val d => cases d <;> simp [toB] at e3; rw [e3]
          | own o => cases o <;> simp [toB] at e3
        subst hs
        have hz : z = .bl c := by cases R3; rfl
        refine ⟨c, hz, ?_⟩
        have A123 := A12.trans A3
        have h : wpo (if c = true then (mc b.2).bind fun z => (rdD z.2 b.1).bind fun d2' => (rdD z.2 z.1).bind fun d3 => (g' d2' d3).bind fun s' => some (Rv.sv s', z.2) else some (.sv (.val (.bool false)), b.2)) _ := h
        by_cases ec : c = true
        · rw [if_pos ec] at h ⊢
          refine hc F3 b.2 σ H3 _ A3.fr ((wpo_bind.mp h).mono fun y _ h => ?_)
          intro w F4 H4 A4 R4
          have R2'' := R2'.step f A12 (A3.trans A4)
          have h := wpo_bind.mp h
          cases e4 : rdD y.2 b.1 with
          | none => rw [e4] at h; exact h.elim
          | some d4 =>
            rw [e4] at h
            have h := wpo_bind.mp h
            cases e5 : rdD y.2 y.1 with
            | none => rw [e5] at h; exact h.elim
            | some d5 =>
              rw [e5] at h
              refine hr' F4 y.2 σ H4 u w d4 d5 Q A4.fr (R2''.rd A4.fr e4) (R4.rd A4.fr e5) ((wpo_bind.mp h).mono fun s' _ h => ?_)
              intro x F5 H5 A5 R5
              exact h x F5 H5 ((A123.trans A4).trans A5) (R5.back (A123.trans A4))
        · rw [if_neg ec] at h ⊢
          exact h _ F3 H3 A123 (.bl _)
end Pv

/-! Pv5: statements, loops. -/
namespace Pv
open PySem PySem.Spec PySem.SeqAt L2

structure Ent where
  F : Hp
  H : Hp
  I : Addr → Prop
  pr : List (Nat × V)
structure SInv (k : Kx) (e : Ent) (ρ : Rho) (σ : L2.St) (F H : Hp) : Prop where
  fr : FR k F ρ σ H
  tr : Tr e.I e.F e.H F H
  ow : ∀ p, Own ρ σ p → e.I p ∨ e.H p = none
  pr : ∀ q ∈ e.pr, σ[q.1]? = some (some q.2)
inductive Fl where
  | nx | ret (r : Rv) | bk | ct
abbrev SM := Rho → Option (Fl × Rho)
abbrev excD (x : Str) (fs : List (Str × D)) : D := .dict ((.str x, .none) :: fs.map fun p => (.str p.1, p.2))
def ExcR (k : Kx) (F H : Hp) (x : Str) (fs : List (Str × D)) (cls : Value) (d : Option Addr) : Prop := ∃ vs : List V, cls = .ref (He.ga k.K x) ∧ RepL k F vs (fs.map (·.2)) ∧
  ((d = none ∧ fs = []) ∨ ∃ dd, fs ≠ [] ∧ d = some dd ∧ F dd = none ∧ H dd = some (.xd ((fs.map (·.1)).zip vs)))
def PostX (k : Kx) (e : Ent) (W : WX) (r : Rv) (ρ : Rho) : Prop := ∀ c fs, r = .sv (.val (excD c fs)) → ∀ cls d σ F H, SInv k e ρ σ F H → ExcR k F H c fs cls d → W cls d σ H
def Post (k : Kx) (e : Ent) (Wx : Option WX) (D : Ends) : Fl × Rho → Prop
  | (.nx, ρ) => ∀ σ F H, SInv k e ρ σ F H → D.nx σ H
  | (.ret r, ρ) => (∀ v σ F H, SInv k e ρ σ F H → RR k e.H F ρ σ H r v → D.rt v H) ∧ ∀ W, Wx = some W → PostX k e W r ρ
  | (.bk, ρ) => ∀ σ F H, SInv k e ρ σ F H → D.bk σ H
  | (.ct, ρ) => ∀ σ F H, SInv k e ρ σ F H → D.ct σ H
def SimS (k : Kx) (P : List Nat) (Wx : Option WX) (ts : TS) (m : SM) : Prop := ∀ (e : Ent) (ρ : Rho) (σ : L2.St) (F H : Hp) (D : Ends), (∀ q ∈ e.pr, q.1 ∈ P) → SInv k e ρ σ F H → wpo (m ρ) (Post k e Wx D) → ts D σ H
def SS (k : Kx) (P : List Nat) (Wx : Option WX) (X : Cx) (st : Stmt) (m : SM) : Prop := ∃ ts, PS X st ts ∧ SimS k P Wx ts m
def SSs (k : Kx) (P : List Nat) (Wx : Option WX) (X : Cx) (sts : List Stmt) (m : SM) : Prop := ∃ ts, PSs X sts ts ∧ SimS k P Wx ts m
section
variable {k : Kx} {P : List Nat} {Wx : Option WX} {e : Ent} {ρ ρ' : Rho} {σ : L2.St} {F H F' H' : Hp}
theorem SInv.aft (s : SInv k e ρ σ F H) (A : Aft k ρ σ F H ρ' F' H') : SInv k e ρ' σ F' H' :=
  ⟨A.fr, s.tr.trans A.tr s.ow, fun p h => s.ow p (A.ow p h), s.pr⟩
theorem SInv.back (s : SInv k e ρ σ F H) {r : Rv} {v : V} {ρ2 : Rho} {F2 H2 : Hp} (h : RR k H F2 ρ2 σ H2 r v) : RR k e.H F2 ρ2 σ H2 r v := by
  match r, h with
  | .sv (.val d), h => exact h
  | .sv (.own o), ⟨p, ho, e1, n, q⟩ =>
    refine ⟨p, ho, e1, ?_, q⟩
    cases z : e.H p with
    | none => rfl
    | some u =>
      obtain ⟨u', hu'⟩ := s.tr.there p u z
      rw [n] at hu'; cases hu'
  | .plc i, h => exact h

/-! ### storing to a slot -/
def stoS (P : List Nat) (i : Nat) (ρ : Rho) : Rv → Option Rho
  | .sv s => if i ∈ P then none else some (ρ.set i (some s))
  | .plc j => if i ∈ P then none else (frz1 ρ (.plc j)).bind fun a => some (a.2.set i (some (.val a.1)))
theorem get_set {α : Type} {l : List α} {i j : Nat} {x : α} (h : i ≠ j) : (l.set i x)[j]? = l[j]? := List.getElem?_set_ne h
theorem FR.setVal (f : FR k F ρ σ H) {i : Nat} {v : V} {d : D} (r : Rep k F v d) : FR k F (ρ.set i (some (.val d))) (σ.set i (some v)) H := by
  refine ⟨f.sub, by simpa using f.len, fun j d' q => ?_, fun j o' q => ?_, fun j l o1 o2 q e1 e2 e3 e4 => ?_⟩
  · rcases set_get q with ⟨rfl, h, hl⟩ | ⟨nj, h⟩
    · cases h; exact ⟨v, List.getElem?_set_self (f.len ▸ hl), r⟩
    · rw [get_set (Ne.symm nj)]; exact f.vals j d' h
  · rcases set_get q with ⟨_, h, _⟩ | ⟨nj, h⟩
    · cases h
    · rw [get_set (Ne.symm nj)]; exact f.owns j o' h
  · rcases set_get e1 with ⟨_, h, _⟩ | ⟨n1, h1⟩
    · cases h
    · rcases set_get e2 with ⟨_, h, _⟩ | ⟨n2, h2⟩
      · cases h
      · rw [get_set (Ne.symm n1)] at e3
        rw [get_set (Ne.symm n2)] at e4
        exact f.dist j l o1 o2 q h1 h2 e3 e4
theorem FR.setOwn (f : FR k F ρ σ H) {i : Nat} {p : Addr} {ho : HO} {o : OB} (hp : H p = some ho) (n : F p = none) (r : RepO k F p o ho) (no : ¬ Own ρ σ p) : FR k F (ρ.set i (some (.own o))) (σ.set i (some (.ref p))) H := by
  refine ⟨f.sub, by simpa using f.len, fun j d' q => ?_, fun j o' q => ?_, fun j l o1 o2 q e1 e2 e3 e4 => ?_⟩
  · rcases set_get q with ⟨_, h, _⟩ | ⟨nj, h⟩
    · cases h
    · rw [get_set (Ne.symm nj)]; exact f.vals j d' h
  · rcases set_get q with ⟨rfl, h, hl⟩ | ⟨nj, h⟩
    · cases h; exact ⟨p, ho, List.getElem?_set_self (f.len ▸ hl), hp, n, r⟩
    · rw [get_set (Ne.symm nj)]; exact f.owns j o' h
  · rcases set_get e1 with ⟨a1, b1, c1⟩ | ⟨n1, h1⟩
    · rcases set_get e2 with ⟨a2, b2, c2⟩ | ⟨n2, h2⟩
      · rw [a1, a2]
      · subst a1
        rw [List.getElem?_set_self (f.len ▸ c1)] at e3; cases e3
        rw [get_set (Ne.symm n2)] at e4
        exact absurd ⟨l, o2, h2, e4⟩ no
    · rcases set_get e2 with ⟨a2, b2, c2⟩ | ⟨n2, h2⟩
      · subst a2
        rw [List.getElem?_set_self (f.len ▸ c2)] at e4; cases e4
        rw [get_set (Ne.symm n1)] at e3
        exact absurd ⟨j, o1, h1, e3⟩ no
      · rw [get_set (Ne.symm n1)] at e3
        rw [get_set (Ne.symm n2)] at e4
        exact f.dist j l o1 o2 q h1 h2 e3 e4
theorem Own.of_setVal {i : Nat} {v : V} {d : D} {p : Addr} (h : Own (ρ.set i (some (.val d))) (σ.set i (some v)) p) : Own ρ σ p := by
  obtain ⟨j, o, e1, e2⟩ := h
  rcases set_get e1 with ⟨_, h, _⟩ | ⟨nj, h⟩
  · cases h
  · rw [get_set (Ne.symm nj)] at e2; exact ⟨j, o, h, e2⟩
theorem Own.of_setOwn {i : Nat} {q : Addr} {o : OB} {p : Addr} (h : Own (ρ.set i (some (.own o))) (σ.set i (some (.ref q))) p) : Own ρ σ p ∨ p = q := by
  obtain ⟨j, o', e1, e2⟩ := h
  rcases set_get e1 with ⟨rfl, h, _⟩ | ⟨nj, h⟩
  · rcases set_get e2 with ⟨_, h2, _⟩ | ⟨nn, _⟩
    · cases h2; exact .inr rfl
    · exact absurd rfl nn
  · rw [get_set (Ne.symm nj)] at e2; exact .inl ⟨j, o', h, e2⟩
theorem pr_set (hP : ∀ q ∈ e.pr, q.1 ∈ P) {i : Nat} {v : V} (hi : i ∉ P) (h : ∀ q ∈ e.pr, σ[q.1]? = some (some q.2)) : ∀ q ∈ e.pr, (σ.set i (some v))[q.1]? = some (some q.2) := fun q hq => by
  have ne : i ≠ q.1 := fun z => hi (z ▸ hP q hq)
  rw [get_set ne]; exact h q hq
theorem sto_ok (hP : ∀ q ∈ e.pr, q.1 ∈ P) (s : SInv k e ρ σ F H) {i : Nat} {r : Rv} {v : V} (R : RR k e.H F ρ σ H r v) (no : ∀ o, r = .sv (.own o) → ∀ p, v = .ref p → ¬ Own ρ σ p) (h : stoS P i ρ r = some ρ') :
    ∃ F', SInv k e ρ' (σ.set i (some v)) F' H ∧ Sub F F' := by
  match r, R with
  | .sv (.val d), R =>
    simp only [stoS] at h
    split at h
    · cases h
    · rename_i hi
      cases h
      exact ⟨F, ⟨s.fr.setVal R, s.tr, fun p z => s.ow p z.of_setVal, pr_set hP hi s.pr⟩, Sub.refl _⟩
  | .sv (.own o), ⟨p, ho, e1, n, h1, n1, q⟩ =>
    simp only [stoS] at h
    split at h
    · cases h
    · rename_i hi
      cases h
      subst e1
      refine ⟨F, ⟨s.fr.setOwn h1 n1 q (no o rfl p rfl), s.tr, fun a z => ?_, pr_set hP hi s.pr⟩, Sub.refl _⟩
      rcases z.of_setOwn with z | rfl
      · exact s.ow a z
      · exact .inr n
  | .plc j, ⟨e1, sv, h1⟩ =>
    simp only [stoS] at h
    split at h
    · cases h
    · rename_i hi
      obtain ⟨a, e2, e3⟩ := Option.bind_eq_some_iff.mp h
      cases e3
      obtain ⟨F1, A1, s1, r1, _⟩ := frz1_ok s.fr (Aft.refl s.fr) (r := .plc j) (v := v) ⟨e1, sv, h1⟩ e2
      have s' := s.aft A1
      exact ⟨F1, ⟨s'.fr.setVal r1, s'.tr, fun p z => s'.ow p z.of_setVal, pr_set hP hi s'.pr⟩, s1⟩
end

/-! ### statements -/
section
variable {k : Kx} {P : List Nat} {Wx : Option WX}
def exAsg (P : List Nat) (i : Nat) (me : EM) : SM := fun ρ => (me ρ).bind fun a => (stoS P i a.2 a.1).bind fun ρ' => some (.nx, ρ')
theorem simAsg {te : TE} {me : EM} {i : Nat} (he : SimE k te me) : SimS k P Wx (tAsg te (gName i)) (exAsg P i me) := by
  intro e ρ σ F H D hP s h
  unfold exAsg at h
  refine he F ρ σ H _ s.fr ((wpo_bind.mp h).mono fun a _ h => ?_)
  intro v F1 H1 A1 R1
  have h := wpo_bind.mp h
  cases e1 : stoS P i a.2 a.1 with
  | none => rw [e1] at h; exact h.elim
  | some ρ' =>
    rw [e1] at h
    have s1 := s.aft A1
    obtain ⟨F', s2, _⟩ := sto_ok hP s1 (s.back R1) (fun o ho p hp z => by
      rw [ho] at R1
      obtain ⟨q, _, e2, n, _⟩ := R1
      rw [hp] at e2; cases e2
      obtain ⟨u, hu⟩ := s.fr.own_some (A1.ow p z)
      rw [n] at hu; cases hu) e1
    exact h _ F' H1 s2
def exRet (me : EM) : SM := fun ρ => (me ρ).bind fun a => some (.ret a.1, a.2)
theorem simRet {te : TE} {me : EM} (he : SimE k te me) : SimS k P Wx (tRet te) (exRet me) := by
  intro e ρ σ F H D hP s h
  unfold exRet at h
  refine he F ρ σ H _ s.fr ((wpo_bind.mp h).mono fun a _ h => ?_)
  intro v F1 H1 A1 R1
  exact h.1 v σ F1 H1 (s.aft A1) (s.back R1)
def exRetN : SM := fun ρ => some (.ret (.sv (.val .none)), ρ)
def exExpr (me : EM) : SM := fun ρ => (me ρ).bind fun a => some (.nx, a.2)
theorem simExpr {te : TE} {me : EM} (he : SimE k te me) : SimS k P Wx (tDrop te) (exExpr me) := by
  intro e ρ σ F H D hP s h
  unfold exExpr at h
  refine he F ρ σ H _ s.fr ((wpo_bind.mp h).mono fun a _ h => ?_)
  intro v F1 H1 A1 R1
  exact h σ F1 H1 (s.aft A1)
def exPass : SM := fun ρ => some (.nx, ρ)
theorem simPass : SimS k P Wx tNext exPass := fun e ρ σ F H D hP s h => h σ F H s
def exBad : SM := fun _ => none
theorem simBad {ts : TS} : SimS k P Wx ts exBad := fun e ρ σ F H D hP s h => h.elim
def exSeq (m n : SM) : SM := fun ρ => (m ρ).bind fun a => match a.1 with
  | .nx => n a.2
  | fl => some (fl, a.2)
theorem simSeq {t u : TS} {m n : SM} (hm : SimS k P Wx t m) (hn : SimS k P Wx u n) : SimS k P Wx (tSeq t u) (exSeq m n) := by
  intro e ρ σ F H D hP s h
  unfold exSeq at h
  refine hm e ρ σ F H _ hP s ((wpo_bind.mp h).mono fun a _ h => ?_)
  obtain ⟨fl, ρ1⟩ := a
  cases fl with
  | nx => exact fun σ1 F1 H1 s1 => hn e ρ1 σ1 F1 H1 D hP s1 h
  | ret r => exact h
  | bk => exact h
  | ct => exact h
def exIf (mt : TM) (m n : SM) : SM := fun ρ => (mt ρ).bind fun a => if a.1 = true then m a.2 else n a.2
theorem simIfS {tt : TT} {t u : TS} {mt : TM} {m n : SM} (ht : SimT k tt mt) (hm : SimS k P Wx t m) (hn : SimS k P Wx u n) : SimS k P Wx (tIfS tt t u) (exIf mt m n) := by
  intro e ρ σ F H D hP s h
  unfold exIf at h
  refine ht F ρ σ H _ s.fr ((wpo_bind.mp h).mono fun a _ h => ?_)
  intro F1 H1 A1
  split at h
  · rename_i c
    rw [if_pos c]; exact hm e a.2 σ F1 H1 D hP (s.aft A1) h
  · rename_i c
    rw [if_neg c]; exact hn e a.2 σ F1 H1 D hP (s.aft A1) h
def kill (ks : List Nat) (ρ : Rho) : Rho := ks.foldl (fun ρ i => ρ.set i none) ρ
theorem FR.kill1 {F H : Hp} {ρ : Rho} {σ : L2.St} (f : FR k F ρ σ H) (i : Nat) : FR k F (ρ.set i none) σ H := by
  refine ⟨f.sub, by simpa using f.len, fun j d' q => ?_, fun j o' q => ?_, fun j l o1 o2 q e1 e2 e3 e4 => ?_⟩
  · rcases set_get q with ⟨_, h, _⟩ | ⟨nj, h⟩
    · cases h
    · exact f.vals j d' h
  · rcases set_get q with ⟨_, h, _⟩ | ⟨nj, h⟩
    · cases h
    · exact f.owns j o' h
  · rcases set_get e1 with ⟨_, h, _⟩ | ⟨n1, h1⟩
    · cases h
    · rcases set_get e2 with ⟨_, h, _⟩ | ⟨n2, h2⟩
      · cases h
      · exact f.dist j l o1 o2 q h1 h2 e3 e4
theorem Own.kill1 {ρ : Rho} {σ : L2.St} {i : Nat} {p : Addr} (h : Own (ρ.set i none) σ p) : Own ρ σ p := by
  obtain ⟨j, o, e1, e2⟩ := h
  rcases set_get e1 with ⟨_, h, _⟩ | ⟨nj, h⟩
  · cases h
  · exact ⟨j, o, h, e2⟩
theorem SInv.kill {e : Ent} {σ : L2.St} {F H : Hp} : ∀ (ks : List Nat) {ρ : Rho}, SInv k e ρ σ F H → SInv k e (kill ks ρ) σ F H
  | [], _, s => s
  | i :: ks, ρ, s => SInv.kill ks (ρ := ρ.set i none) ⟨s.fr.kill1 i, s.tr, fun p h => s.ow p h.kill1, s.pr⟩
def exKill (ks : List Nat) (m : SM) : SM := fun ρ => (m ρ).bind fun a => match a.1 with
  | .ret r => some (.ret r, a.2)
  | fl => some (fl, kill ks a.2)
theorem simKill {t : TS} {m : SM} (ks : List Nat) (hm : SimS k P Wx t m) : SimS k P Wx t (exKill ks m) := by
  intro e ρ σ F H D hP s h
  unfold exKill at h
  refine hm e ρ σ F H _ hP s ((wpo_bind.mp h).mono fun a _ h => ?_)
  obtain ⟨fl, ρ1⟩ := a
  cases fl with
  | nx => exact fun σ1 F1 H1 s1 => h σ1 F1 H1 (s1.kill ks)
  | ret r => exact h
  | bk => exact fun σ1 F1 H1 s1 => h σ1 F1 H1 (s1.kill ks)
  | ct => exact fun σ1 F1 H1 s1 => h σ1 F1 H1 (s1.kill ks)
/-! while -/
end
end Pv

/-! Pv6: what is walked; for; comprehensions. -/
namespace Pv
open PySem PySem.Spec PySem.SeqAt L2

/-! ### a list or a tuple -/
def iSeq (K : PySem.W.Frag) (tl : TE) : TI := fun σ H R => tl σ H fun x H1 => (∃ a, x = .ref a ∧ (∃ xs, SqL K H1 a xs) ∧ R (Itl K a) H1) ∨ (∃ a, x = .ref a ∧ (∃ xs, SqT K H1 a xs) ∧ R (Itt K a) H1)
theorem pi_seq {X : Cx} {tg l : Expr} {tl : TE} (hl : PE X l tl) : PI X tg l (iSeq X.K tl) := by
  constructor
  intro pins s σ H R I w
  refine thn (hl.run pins s σ H _ I w) fun u t g => ?_
  obtain ⟨x, G, J, rx, ⟨a, ea, ⟨xs, ha⟩, w⟩ | ⟨a, ea, ⟨xs, ha⟩, w⟩⟩ := g
  · subst ea
    obtain rfl : u = Value.ref a := rx
    obtain ⟨_, _, hp, _⟩ := J.list ha
    exact wpAny_pyIter_list hp.isList (pi_one (tk := t.toks) J _ (turn_list a _) ⟨_, Heap.get?_push_size _ rfl, rfl, rfl⟩ w)
  · subst ea
    obtain rfl : u = Value.ref a := rx
    obtain ⟨us, _, hp, _⟩ := J.tuple ha
    exact wpAny_pyIter_tuple (items := us.toArray) hp (pi_one (tk := t.toks) J _ (turn_tuple a _) ⟨_, Heap.get?_push_size _ rfl, rfl, rfl⟩ w)

/-! ### walks give data -/
def LkK (F H H' : Hp) : Prop := ∀ a od u, F a ≠ none → H a = some (.frz od u) → H' a = some (.frz od u)
def YOk (k : Kx) (F H : Hp) (x : V) (H' : Hp) (d : D) : Prop := (H' = H ∧ Rep k F x d) ∨ (∃ T o, H T = none ∧ H' = upd H T o ∧ Rep k (upd F T o) x d) ∨ (∃ T ws, H' = H ∧ H T = some (.tup ws) ∧ Rep k (upd F T (.tup ws)) x d) ∨ ∃ q qs T o, H q = some (.tup qs) ∧ H T = none ∧ H' = upd H T o ∧ Rep k (upd (upd F q (.tup qs)) T o) x d
theorem FR.adm {k : Kx} {F : Hp} {ρ : Rho} {σ : L2.St} {H : Hp} (f : FR k F ρ σ H) {T : Addr} {ws : List V} (h : H T = some (.tup ws)) : Sub F (upd F T (.tup ws)) ∧ FR k (upd F T (.tup ws)) ρ σ H := by
  have sb : Sub F (upd F T (.tup ws)) := fun a o e => by
    by_cases ha : a = T
    · subst ha
      obtain ⟨o', e', z⟩ := f.sub a o e
      rw [h] at e'; cases e'
      exact ⟨_, upd_same, z⟩
    · exact ⟨o, by rw [upd_ne ha]; exact e, rfl⟩
  refine ⟨sb, fun a o e => ?_, f.len, fun i d e => let ⟨v, q, r⟩ := f.vals i d e; ⟨v, q, r.mono sb⟩, fun i o e => ?_, f.dist⟩
  · by_cases ha : a = T
    · subst ha; rw [upd_same] at e; cases e; exact ⟨_, h, rfl⟩
    · rw [upd_ne ha] at e; exact f.sub a o e
  · obtain ⟨p, ho, q, hp, n, r⟩ := f.owns i o e
    have ne : p ≠ T := fun z => by
      subst z; rw [h] at hp; cases hp; exact r.nt.elim
    exact ⟨p, ho, q, hp, by rw [upd_ne ne]; exact n, r.mono sb⟩
theorem Aft.adm {k : Kx} {F : Hp} {ρ : Rho} {σ : L2.St} {H : Hp} (f : FR k F ρ σ H) {T : Addr} {ws : List V} (h : H T = some (.tup ws)) : Aft k ρ σ F H ρ (upd F T (.tup ws)) H :=
  ⟨(f.adm h).2, ⟨(f.adm h).1, fun _ _ e _ => e, fun p o e m n _ => by
    have ne : p ≠ T := fun z => by subst z; rw [h] at e; cases e; exact m.elim
    rw [upd_ne ne]; exact n, fun p o e => ⟨o, e⟩⟩, fun _ h => h, fun _ s h => ⟨s, h⟩⟩
theorem YOk.aft {k : Kx} {F : Hp} {ρ : Rho} {σ : L2.St} {H H' : Hp} {x : V} {d : D} (y : YOk k F H x H' d) (f : FR k F ρ σ H) : ∃ F', Aft k ρ σ F H ρ F' H' ∧ Rep k F' x d := by
  rcases y with ⟨rfl, r⟩ | ⟨T, o, n, rfl, r⟩ | ⟨T, ws, rfl, e, r⟩ | ⟨q, qs, T, o, e, n, rfl, r⟩
  · exact ⟨F, Aft.refl f, r⟩
  · exact ⟨_, Aft.newF f n, r⟩
  · exact ⟨_, Aft.adm f e, r⟩
  · exact ⟨_, (Aft.adm f e).trans (Aft.newF (f.adm e).2 n), r⟩
structure WalkD (k : Kx) (J : It) (F : Hp) (ds : List D) : Prop where
  w : ∃ G Y, Walk J ds.length G Y ∧ (∀ F' H', Sub F F' → Sub F' H' → G H') ∧
    ∀ (i : Nat) (d : D) (F' H' : Hp) (x : V) (H'' : Hp), ds[i]? = some d → Sub F F' → Sub F' H' → Y i H' x H'' → YOk k F' H' x H'' d
structure WalkL (k : Kx) (J : It) (F H : Hp) (ds : List D) : Prop where
  w : ∃ G Y, Walk J ds.length G Y ∧ (∀ F' H', Sub F F' → Sub F' H' → LkK F H H' → G H') ∧
    ∀ (i : Nat) (d : D) (F' H' : Hp) (x : V) (H'' : Hp), ds[i]? = some d → Sub F F' → Sub F' H' → LkK F H H' → Y i H' x H'' → YOk k F' H' x H'' d
theorem WalkD.l {k : Kx} {J : It} {F H : Hp} {ds : List D} (w : WalkD k J F ds) : WalkL k J F H ds :=
  let ⟨G, Y, a, b, c⟩ := w.w
  ⟨G, Y, a, fun F' H' s1 s2 _ => b F' H' s1 s2, fun i d F' H' x H'' e s1 s2 _ y => c i d F' H' x H'' e s1 s2 y⟩
abbrev IM := Rho → Option (List D × Rho)
def SimI (k : Kx) (wi : TI) (m : IM) : Prop := ∀ (F : Hp) (ρ : Rho) (σ : L2.St) (H : Hp) (R : It → Hp → Prop), FR k F ρ σ H →
  wpo (m ρ) (fun x => ∀ J F' H', Aft k ρ σ F H x.2 F' H' → WalkD k J F' x.1 → R J H') → wi σ H R
def seqD : D → Option (List D)
  | .list xs => some xs
  | .tuple xs => some xs
  | .dict [(.bool true, .list xs)] => some xs
  | .dict [(.bool true, .tuple xs)] => some xs
  | _ => none
def ivSeq (me : EM) : IM := fun ρ => (me ρ).bind fun a => (frz1 a.2 a.1).bind fun b => (seqD b.1).bind fun xs => some (xs, b.2)
theorem walkD_list {k : Kx} {F : Hp} {a : Addr} {vs : List V} {xs : List D} (h : SqL k.K F a vs) (r : RepL k F vs xs) : WalkD k (Itl k.K a) F xs := by
  refine ⟨fun H => SqL k.K H a vs, YAt vs, r.length ▸ walk_list, fun F' H' s1 s2 => s2.sqL (s1.sqL h), fun i d F' H' x H'' e s1 s2 y => .inl ⟨y.1, ?_⟩⟩
  obtain ⟨v, e1, r1⟩ := r.get e
  rw [y.2] at e1; cases e1
  exact r1.mono s1
theorem walkD_tup {k : Kx} {F : Hp} {a : Addr} {vs : List V} {xs : List D} (h : SqT k.K F a vs) (r : RepL k F vs xs) : WalkD k (Itt k.K a) F xs := by
  refine ⟨fun H => SqT k.K H a vs, YAt vs, r.length ▸ walk_tup, fun F' H' s1 s2 => s2.sqT (s1.sqT h), fun i d F' H' x H'' e s1 s2 y => .inl ⟨y.1, ?_⟩⟩
  obtain ⟨v, e1, r1⟩ := r.get e
  rw [y.2] at e1; cases e1
  exact r1.mono s1
theorem simSeqI {k : Kx} {tl : TE} {me : EM} (he : SimE k tl me) : SimI k (iSeq k.K tl) (ivSeq me) := by
  intro F ρ σ H R f h
  unfold ivSeq at h
  refine he F ρ σ H _ f ((wpo_bind.mp h).mono fun a _ h => ?_)
  intro v F1 H1 A1 R1
  have h := wpo_bind.mp h
  cases e1 : frz1 a.2 a.1 with
  | none => rw [e1] at h; exact h.elim
  | some b =>
    rw [e1] at h
    obtain ⟨F2, A2, s2, r2, _⟩ := frz1_ok f A1 R1 e1
    have h := wpo_bind.mp h
    obtain ⟨d, ρ2⟩ := b
    dsimp only at h r2 A2
    unfold seqD at h
    split at h
    · cases r2 with
      | lst h2 r3 => exact .inl ⟨_, rfl, ⟨_, .inl (.inl (A2.fr.sub.ex h2))⟩, h _ F2 H1 A2 (walkD_list (.inl (.inl h2)) r3)⟩
    · cases r2 with
      | tup h2 r3 => exact .inr ⟨_, rfl, ⟨_, A2.fr.sub.sqT (SqT.of h2)⟩, h _ F2 H1 A2 (walkD_tup (SqT.of h2) r3)⟩
    · cases r2 with
      | fls h2 r3 => exact .inl ⟨_, rfl, ⟨_, A2.fr.sub.sqL h2.sq⟩, h _ F2 H1 A2 (walkD_list h2.sq r3)⟩
    · cases r2 with
      | xt h2 r3 => exact .inr ⟨_, rfl, ⟨_, A2.fr.sub.sqT h2.sqT⟩, h _ F2 H1 A2 (walkD_tup h2.sqT r3)⟩
    · exact h.elim
/-! range -/
def rngD (lo : Int) (n : Nat) : List D := (List.range n).map fun (i : Nat) => .int (lo + (i : Int))
theorem walkD_range {k : Kx} {F : Hp} {lo : Int} {n : Nat} : WalkD k (Itr lo n) F (rngD lo n) := by
  have hl : (rngD lo n).length = n := by simp [rngD]
  refine ⟨fun _ => True, YFn fun i => .int (lo + i), by rw [hl]; exact walk_range, fun _ _ _ _ => trivial, fun i d F' H' x H'' e s1 s2 y => .inl ⟨y.1, ?_⟩⟩
  rw [y.2]
  have hi : i < n := by
    have := (List.getElem?_eq_some_iff.mp e).1
    omega
  simp [rngD, hi] at e
  rw [← e]
  exact .int _
def big62 (i : Int) : Bool := Nat.ble i.natAbs 4611686018427387903
theorem big62_ok {i : Int} (h : big62 i = true) : -(2 ^ 62) ≤ i ∧ i < 2 ^ 62 := by
  simp [big62] at h
  omega
def rng1 : List D → Option (List D)
  | [.int j] => if big62 j = true then some (rngD 0 j.toNat) else none
  | _ => none
def rng2 : List D → Option (List D)
  | [.int i, .int j] => if (big62 i && big62 j) = true then some (rngD i (j - i).toNat) else none
  | _ => none
def ivArgs (g : List D → Option (List D)) (ma : AM) : IM := fun ρ => (ma ρ).bind fun a => (rdAll a.2 a.1).bind fun ds => (g ds).bind fun xs => some (xs, a.2)
theorem simRng1 {k : Kx} {ta : TA} {ma : AM} (ha : SimA k ta ma) : SimI k (iRng1 ta) (ivArgs rng1 ma) := by
  intro F ρ σ H R f h
  unfold ivArgs at h
  refine ha F ρ σ H _ f ((wpo_bind.mp h).mono fun a _ h => ?_)
  intro vs F1 H1 A1 R1
  have h := wpo_bind.mp h
  cases e1 : rdAll a.2 a.1 with
  | none => rw [e1] at h; exact h.elim
  | some ds =>
    rw [e1] at h
    have rd := R1.rd A1.fr e1
    replace h : wpo (rng1 ds) _ := wpo_bind.mp h
    unfold rng1 at h
    split at h
    · rename_i j
      split at h
      · rename_i hb
        replace hb := big62_ok hb
        cases rd with
        | cons r1 r2 =>
          cases r2
          rw [r1.int]
          exact ⟨j, rfl, hb.1, hb.2, h _ F1 H1 A1 walkD_range⟩
      · exact h.elim
    · exact h.elim
theorem simRng2 {k : Kx} {ta : TA} {ma : AM} (ha : SimA k ta ma) : SimI k (iRng2 ta) (ivArgs rng2 ma) := by
  intro F ρ σ H R f h
  unfold ivArgs at h
  refine ha F ρ σ H _ f ((wpo_bind.mp h).mono fun a _ h => ?_)
  intro vs F1 H1 A1 R1
  have h := wpo_bind.mp h
  cases e1 : rdAll a.2 a.1 with
  | none => rw [e1] at h; exact h.elim
  | some ds =>
    rw [e1] at h
    have rd := R1.rd A1.fr e1
    replace h : wpo (rng2 ds) _ := wpo_bind.mp h
    unfold rng2 at h
    split at h
    · rename_i i j
      split at h
      · rename_i hb
        rw [Bool.and_eq_true] at hb
        replace hb := And.intro (big62_ok hb.1) (big62_ok hb.2)
        cases rd with
        | cons r1 r2 =>
          cases r2 with
          | cons r2 r3 =>
            cases r3
            rw [r1.int, r2.int]
            exact ⟨i, j, rfl, ⟨hb.1.1, hb.1.2, hb.2.1, hb.2.2⟩, h _ F1 H1 A1 walkD_range⟩
      · exact h.elim
    · exact h.elim

/-! ### targets -/
abbrev GM := D → Rho → Option Rho
def Sls (ρ ρ' : Rho) : Prop := ∀ (i : Nat) (s : SV), ρ[i]? = some (some s) → ∃ s', ρ'[i]? = some (some s')
def Agr (ts : List Nat) (σ σ' : L2.St) : Prop := σ'.length = σ.length ∧ ∀ j : Nat, j ∉ ts → σ'[j]? = σ[j]?
def SimG (k : Kx) (P ts : List Nat) (g : TG) (m : GM) : Prop := ∀ (e : Ent) (ρ : Rho) (σ : L2.St) (F H : Hp) (v : V) (d : D) (Q : L2.St → Hp → Prop), (∀ q ∈ e.pr, q.1 ∈ P) → SInv k e ρ σ F H → Rep k F v d →
  wpo (m d ρ) (fun ρ' => ∀ σ', SInv k e ρ' σ' F H → Agr ts σ σ' → (∀ p, Own ρ' σ' p → Own ρ σ p) → Sls ρ ρ' → Q σ' H) → g v σ H Q
def tgName (P : List Nat) (i : Nat) : GM := fun d ρ => if i ∈ P then none else some (ρ.set i (some (.val d)))
theorem simGName {k : Kx} {P : List Nat} {i : Nat} : SimG k P [i] (gName i) (tgName P i) := by
  intro e ρ σ F H v d Q hP s r h
  unfold tgName at h
  split at h
  · exact h.elim
  · rename_i hi
    exact h _ ⟨s.fr.setVal r, s.tr, fun p z => s.ow p z.of_setVal, pr_set hP hi s.pr⟩ ⟨by simp, fun j hj => get_set fun z => hj (by simp [z])⟩ (fun p z => z.of_setVal) slots_set
abbrev GsM := List D → Rho → Option Rho
def SimGs (k : Kx) (P ts : List Nat) (g : TGs) (m : GsM) : Prop := ∀ (e : Ent) (ρ : Rho) (σ : L2.St) (F H : Hp) (vs : List V) (ds : List D) (Q : L2.St → Hp → Prop), (∀ q ∈ e.pr, q.1 ∈ P) → SInv k e ρ σ F H → RepL k F vs ds →
  wpo (m ds ρ) (fun ρ' => ∀ σ', SInv k e ρ' σ' F H → Agr ts σ σ' → (∀ p, Own ρ' σ' p → Own ρ σ p) → Sls ρ ρ' → Q σ' H) → g vs σ H Q
def tgNil : GsM := fun ds ρ => match ds with
  | [] => some ρ
  | _ => none
def tgCons (m : GM) (n : GsM) : GsM := fun ds ρ => match ds with
  | d :: r => (m d ρ).bind fun ρ1 => n r ρ1
  | [] => none
theorem simGsNil {k : Kx} {P : List Nat} : SimGs k P [] gNil tgNil := by
  intro e ρ σ F H vs ds Q hP s r h
  unfold tgNil at h
  cases r with
  | nil => exact ⟨rfl, h σ s ⟨rfl, fun _ _ => rfl⟩ (fun _ z => z) fun _ s h => ⟨s, h⟩⟩
  | cons => exact h.elim
theorem simGsCons {k : Kx} {P ts us : List Nat} {g : TG} {u : TGs} {m : GM} {n : GsM} (h1 : SimG k P ts g m) (h2 : SimGs k P us u n) : SimGs k P (ts ++ us) (gCons g u) (tgCons m n) := by
  intro e ρ σ F H vs ds Q hP s r h
  unfold tgCons at h
  cases r with
  | nil => exact h.elim
  | cons r1 r2 =>
    refine ⟨_, _, rfl, h1 e ρ σ F H _ _ _ hP s r1 ((wpo_bind.mp h).mono fun ρ1 _ h => ?_)⟩
    intro σ' s' a1 o1 l1
    refine h2 e ρ1 σ' F H _ _ Q hP s' r2 (h.mono fun ρ2 _ h => ?_)
    intro σ2 s2 a2 o2 l2
    exact h σ2 s2 ⟨a2.1.trans a1.1, fun j hj => (a2.2 j fun z => hj (List.mem_append_right _ z)).trans (a1.2 j fun z => hj (List.mem_append_left _ z))⟩ (fun p z => o1 p (o2 p z)) fun i s h => let ⟨s', h'⟩ := l1 i s h; l2 i s' h'
def tgTup (n : Nat) (m : GsM) : GM := fun d ρ => match d with
  | .tuple xs => if xs.length = n then m xs ρ else none
  | _ => none
theorem simGTup {k : Kx} {P ts : List Nat} {n : Nat} {g : TGs} {m : GsM} (h1 : SimGs k P ts g m) : SimG k P ts (gTup k.K n g) (tgTup n m) := by
  intro e ρ σ F H v d Q hP s r h
  unfold tgTup at h
  split at h
  · split at h
    · rename_i hl
      cases r with
      | tup h2 r3 => exact ⟨_, _, rfl, s.fr.sub.sqT (SqT.of h2), by rw [r3.length]; exact hl, h1 e ρ σ F H _ _ Q hP s r3 h⟩
    · exact h.elim
  · exact h.elim

/-! ### for -/
def goFor (mg : GM) (mb : SM) : List D → SM
  | [], ρ => some (.nx, ρ)
  | d :: ds, ρ => (mg d ρ).bind fun ρ1 => (mb ρ1).bind fun b => (match b.1 with
      | .nx => goFor mg mb ds b.2
      | .ct => goFor mg mb ds b.2
      | .bk => some (.nx, b.2)
      | .ret r => some (.ret r, b.2))
def exFor (mi : IM) (mg : GM) (mb : SM) : SM := fun ρ => (mi ρ).bind fun a => goFor mg mb a.1 a.2
theorem SInv.newF {k : Kx} {e : Ent} {ρ : Rho} {σ : L2.St} {F H : Hp} {T : Addr} {o : HO} (s : SInv k e ρ σ F H) (h : H T = none) : SInv k e ρ σ (upd F T o) (upd H T o) := s.aft (Aft.newF s.fr h)
abbrev Ent.new (e : Ent) (ρ : Rho) (σ : L2.St) (F H : Hp) : Ent := ⟨F, H, Own ρ σ, e.pr⟩
section
variable {k : Kx} {e : Ent} {ρ ρ' : Rho} {σ σ' : L2.St} {F H F' H' : Hp}
theorem SInv.fresh (s : SInv k e ρ σ F H) : SInv k (e.new ρ σ F H) ρ σ F H := ⟨s.fr, Tr.refl, fun p h => .inl h, s.pr⟩
theorem SInv.unfresh (s : SInv k e ρ σ F H) (s' : SInv k (e.new ρ σ F H) ρ' σ' F' H') : SInv k e ρ' σ' F' H' :=
  ⟨s'.fr, s.tr.trans s'.tr s.ow, fun p h => (s'.ow p h).elim (s.ow p) fun z => .inr (by
    cases q : e.H p with
    | none => rfl
    | some u => obtain ⟨u', hu⟩ := s.tr.there p u q; exact absurd hu (by rw [show H p = none from z]; simp)), s'.pr⟩
theorem SInv.backR (s : SInv k e ρ σ F H) {r : Rv} {v : V} (h : RR k H F' ρ' σ' H' r v) : RR k e.H F' ρ' σ' H' r v := by
  match r, h with
  | .sv (.val d), h => exact h
  | .sv (.own o), ⟨p, ho, e1, n, q⟩ =>
    refine ⟨p, ho, e1, ?_, q⟩
    cases z : e.H p with
    | none => rfl
    | some u => obtain ⟨u', hu'⟩ := s.tr.there p u z; rw [n] at hu'; cases hu'
  | .plc i, h => exact h
theorem Post.fresh (s : SInv k e ρ σ F H) {Wx : Option WX} {D : Ends} : ∀ {x : Fl × Rho}, Post k e Wx D x → Post k (e.new ρ σ F H) Wx D x
  | (.nx, _), h => fun σ' F' H' s' => h σ' F' H' (s.unfresh s')
  | (.ret _, _), h => ⟨fun v σ' F' H' s' r => h.1 v σ' F' H' (s.unfresh s') (s.backR r), fun W hW c fs er cls d σ' F' H' s' x => h.2 W hW c fs er cls d σ' F' H' (s.unfresh s') x⟩
  | (.bk, _), h => fun σ' F' H' s' => h σ' F' H' (s.unfresh s')
  | (.ct, _), h => fun σ' F' H' s' => h σ' F' H' (s.unfresh s')
end
theorem simFor_at {k : Kx} {P ts : List Nat} {Wx : Option WX} {wi : TI} {g : TG} {tb : TS} {mi : IM} {mg : GM} {mb : SM} (hg : SimG k P ts g mg) (hb : SimS k P Wx tb mb) {e : Ent} {ρ : Rho} {σ : L2.St} {F H : Hp} {D : Ends} (hP : ∀ q ∈ e.pr, q.1 ∈ P) (s : SInv k e ρ σ F H)
    (hi : ∀ R : It → Hp → Prop, wpo (mi ρ) (fun x => ∀ J F' H', Aft k ρ σ F H x.2 F' H' → WalkL k J F' H' x.1 → R J H') → wi σ H R) (h : wpo (exFor mi mg mb ρ) (Post k e Wx D)) : tFor wi g tb D σ H := by
  unfold exFor at h
  refine hi _ ((wpo_bind.mp h).mono fun a _ h => ?_)
  intro J F1 H1 A1 W
  obtain ⟨G, Y, w, hG, hY⟩ := W.w
  have s0 : SInv k e a.2 σ F1 H1 := s.aft A1
  let e0 : Ent := e.new a.2 σ F1 H1
  have lk : ∀ {ρ' : Rho} {σ' : L2.St} {F' H' : Hp}, SInv k e0 ρ' σ' F' H' → LkK F1 H1 H' := fun {ρ' σ' F' H'} s' b od u h1 h2 => s'.tr.keep b _ h2 fun z => h1 (s0.fr.own_none z)
  refine for_it w (fun i σ H => ∃ ρ F, SInv k e0 ρ σ F H ∧ wpo (goFor mg mb (a.1.drop i) ρ) (Post k e0 Wx D)) ⟨a.2, F1, s0.fresh, h.mono fun _ _ => Post.fresh s0⟩ (fun i σ H hi ⟨ρ, F, s', _⟩ => hG F H s'.tr.sub s'.fr.sub (lk s')) ?_ ?_
  · rintro i x σ H H' hi ⟨ρ, F, s', h⟩ y
    have e1 : a.1[i]? = some a.1[i] := List.getElem?_eq_getElem hi
    rw [List.drop_eq_getElem_cons hi] at h
    unfold goFor at h
    have fin : ∀ (F2 H2 : Hp), SInv k e0 ρ σ F2 H2 → Rep k F2 x a.1[i] → g x σ H2 fun σ2 H2 => tb { D with nx := fun σ H => ∃ ρ F, SInv k e0 ρ σ F H ∧ wpo (goFor mg mb (a.1.drop (i + 1)) ρ) (Post k e0 Wx D), ct := fun σ H => ∃ ρ F, SInv k e0 ρ σ F H ∧ wpo (goFor mg mb (a.1.drop (i + 1)) ρ) (Post k e0 Wx D), bk := D.nx } σ2 H2 := by
      intro F2 H2 s2 rp
      refine hg e0 ρ σ F2 H2 x _ _ hP s2 rp ((wpo_bind.mp h).mono fun ρ1 _ h => ?_)
      intro σ3 s3 _ _ _
      refine hb e0 ρ1 σ3 F2 H2 _ hP s3 ((wpo_bind.mp h).mono fun b _ h => ?_)
      obtain ⟨fl, ρ2⟩ := b
      cases fl with
      | nx => exact fun σ1 F1 H1 s1 => ⟨ρ2, F1, s1, h⟩
      | ret r => exact h
      | bk => exact h
      | ct => exact fun σ1 F1 H1 s1 => ⟨ρ2, F1, s1, h⟩
    obtain ⟨F2, A2, rp⟩ := (hY i _ F H x H' e1 s'.tr.sub s'.fr.sub (lk s') y).aft s'.fr
    exact fin F2 H' (s'.aft A2) rp
  · rintro σ H ⟨ρ, F, s', h⟩
    rw [List.drop_length] at h
    exact h σ F H s'
theorem simFor {k : Kx} {P ts : List Nat} {Wx : Option WX} {wi : TI} {g : TG} {tb : TS} {mi : IM} {mg : GM} {mb : SM} (hi : SimI k wi mi) (hg : SimG k P ts g mg) (hb : SimS k P Wx tb mb) : SimS k P Wx (tFor wi g tb) (exFor mi mg mb) :=
  fun e ρ σ F H D hP s h => simFor_at hg hb hP s (fun R q => hi F ρ σ H R s.fr (q.mono fun x _ q J F1 H1 A W => q J F1 H1 A W.l)) h
end Pv

/-! Pv7: list comprehensions. -/
namespace Pv
open PySem PySem.Spec PySem.SeqAt L2

def goComp (mg : GM) (mt : TM) (me : EM) (vs : List Nat) : List D → Rho → Option (List D × Rho)
  | [], ρ => some ([], ρ)
  | d :: r, ρ => (mg d ρ).bind fun ρ1 => (mt ρ1).bind fun b => if b.1 = true then (me b.2).bind fun x => (frz1 x.2 x.1).bind fun y => (goComp mg mt me vs r (kill vs y.2)).bind fun z => some (y.1 :: z.1, z.2)
      else goComp mg mt me vs r (kill vs b.2)
def restore (vs : List Nat) (ρ1 ρ : Rho) : Rho := vs.foldl (fun ρ v => ρ.set v ρ1[v]?.join) ρ
def evComp (mi : IM) (mg : GM) (mt : TM) (me : EM) (vs : List Nat) : EM := fun ρ => (mi ρ).bind fun a => if a.1.length ≤ sizeLine then (goComp mg mt me vs a.1 (kill vs a.2)).bind fun z => some (.sv (.own (.lst z.1)), restore vs a.2 z.2) else none

/-! slots -/
theorem kill_get : ∀ {vs : List Nat} {ρ : Rho} {i : Nat} {s : SV}, (kill vs ρ)[i]? = some (some s) → ρ[i]? = some (some s) ∧ i ∉ vs
  | [], _, _, _, h => ⟨h, by simp⟩
  | v :: vs, ρ, i, s, h => by
    obtain ⟨h1, h2⟩ := kill_get (vs := vs) (ρ := ρ.set v none) h
    rcases set_get h1 with ⟨_, h, _⟩ | ⟨ne, h⟩
    · cases h
    · exact ⟨h, by simp only [List.mem_cons, not_or]; exact ⟨ne, h2⟩⟩
theorem kill_len : ∀ {vs : List Nat} {ρ : Rho}, (kill vs ρ).length = ρ.length
  | [], _ => rfl
  | v :: vs, ρ => by
    show (kill vs (ρ.set v none)).length = _
    rw [kill_len]; simp
theorem wipe_ne {σ : L2.St} {i : Nat} : ∀ {vs : List Nat}, i ∉ vs → (wipe σ vs)[i]? = σ[i]?
  | [], _ => rfl
  | v :: vs, h => by
    simp only [List.mem_cons, not_or] at h
    unfold wipe
    rw [List.getElem?_set_ne (Ne.symm h.1)]
    exact wipe_ne h.2
theorem wipe_in {σ : L2.St} {i : Nat} : ∀ {vs : List Nat}, i ∈ vs → (wipe σ vs)[i]? = if i < σ.length then some none else none
  | v :: vs, h => by
    unfold wipe
    by_cases e : i = v
    · subst e
      by_cases hl : i < σ.length
      · rw [List.getElem?_set_self (by rw [wipe_length]; exact hl), if_pos hl]
      · rw [List.getElem?_eq_none (by rw [List.length_set, wipe_length]; omega), if_neg hl]
    · rw [List.getElem?_set_ne (Ne.symm e)]
      rcases List.mem_cons.mp h with h | h
      · exact absurd h e
      · exact wipe_in h
theorem wipe_agr {σ σ' : L2.St} {ts vs : List Nat} (h : Agr ts σ σ') (hs : ∀ t ∈ ts, t ∈ vs) : wipe σ' vs = wipe σ vs := by
  apply List.ext_getElem?
  intro i
  by_cases hi : i ∈ vs
  · rw [wipe_in hi, wipe_in hi, h.1]
  · rw [wipe_ne hi, wipe_ne hi]
    exact h.2 i fun z => hi (hs i z)
theorem wipe_wipe {σ : L2.St} {vs : List Nat} : wipe (wipe σ vs) vs = wipe σ vs := by
  apply List.ext_getElem?
  intro i
  by_cases hi : i ∈ vs
  · rw [wipe_in hi, wipe_in hi, wipe_length]
  · rw [wipe_ne hi]
theorem restore_get {ρ1 : Rho} : ∀ {vs : List Nat} {ρ : Rho} {i : Nat} {s : SV}, (restore vs ρ1 ρ)[i]? = some (some s) → (i ∈ vs ∧ ρ1[i]? = some (some s)) ∨ (i ∉ vs ∧ ρ[i]? = some (some s))
  | [], _, _, _, h => .inr ⟨by simp, h⟩
  | v :: vs, ρ, i, s, h => by
    rcases restore_get (vs := vs) (ρ := ρ.set v ρ1[v]?.join) h with ⟨h1, h2⟩ | ⟨h1, h2⟩
    · exact .inl ⟨List.mem_cons_of_mem _ h1, h2⟩
    · rcases set_get h2 with ⟨e, h, _⟩ | ⟨ne, h⟩
      · subst e
        refine .inl ⟨List.mem_cons_self, ?_⟩
        cases z : ρ1[i]? with
        | none => rw [z] at h; cases h
        | some x => rw [z] at h; cases x with
          | none => cases h
          | some s' => cases h; rfl
      · exact .inr ⟨by simp only [List.mem_cons, not_or]; exact ⟨ne, h1⟩, h⟩
theorem restore_len {ρ1 : Rho} : ∀ {vs : List Nat} {ρ : Rho}, (restore vs ρ1 ρ).length = ρ.length
  | [], _ => rfl
  | v :: vs, ρ => by
    show (restore vs ρ1 (ρ.set v ρ1[v]?.join)).length = _
    rw [restore_len]; simp
theorem restore_in {ρ1 : Rho} {i : Nat} {s : SV} (h1 : ρ1[i]? = some (some s)) : ∀ {vs : List Nat} {ρ : Rho}, i < ρ.length → (i ∈ vs ∨ ρ[i]? = some (some s)) → (restore vs ρ1 ρ)[i]? = some (some s)
  | [], _, _, h => h.elim (fun z => by cases z) id
  | v :: vs, ρ, hl, h => by
    refine restore_in h1 (vs := vs) (ρ := ρ.set v ρ1[v]?.join) (by simpa using hl) ?_
    by_cases e : i = v
    · subst e
      exact .inr (by rw [List.getElem?_set_self hl, h1]; rfl)
    · rcases h with h | h
      · rcases List.mem_cons.mp h with h | h
        · exact absurd h e
        · exact .inl h
      · exact .inr (by rw [List.getElem?_set_ne (Ne.symm e)]; exact h)
theorem restore_out {ρ1 : Rho} {i : Nat} : ∀ {vs : List Nat} {ρ : Rho}, i ∉ vs → (restore vs ρ1 ρ)[i]? = ρ[i]?
  | [], _, _ => rfl
  | v :: vs, ρ, h => by
    simp only [List.mem_cons, not_or] at h
    show (restore vs ρ1 (ρ.set v ρ1[v]?.join))[i]? = _
    rw [restore_out h.2, List.getElem?_set_ne (Ne.symm h.1)]
theorem kill_out {i : Nat} : ∀ {ws : List Nat} {ρ : Rho}, i ∉ ws → (kill ws ρ)[i]? = ρ[i]?
  | [], _, _ => rfl
  | w :: ws, ρ, hw => by
    simp only [List.mem_cons, not_or] at hw
    show (kill ws (ρ.set w none))[i]? = _
    rw [kill_out hw.2, List.getElem?_set_ne (Ne.symm hw.1)]
section
variable {k : Kx} {F H F1 H1 : Hp} {ρ ρ1 : Rho} {σ : L2.St} {vs : List Nat}
theorem FR.wiped (f : FR k F ρ σ H) : FR k F (kill vs ρ) (wipe σ vs) H := by
  refine ⟨f.sub, by rw [kill_len, wipe_length]; exact f.len, fun j d q => ?_, fun j o q => ?_, fun j l o1 o2 q e1 e2 e3 e4 => ?_⟩
  · obtain ⟨h1, h2⟩ := kill_get q
    rw [wipe_ne h2]; exact f.vals j d h1
  · obtain ⟨h1, h2⟩ := kill_get q
    rw [wipe_ne h2]; exact f.owns j o h1
  · obtain ⟨h1, h2⟩ := kill_get e1
    obtain ⟨h3, h4⟩ := kill_get e2
    rw [wipe_ne h2] at e3
    rw [wipe_ne h4] at e4
    exact f.dist j l o1 o2 q h1 h3 e3 e4
theorem Own.wiped {p : Addr} (h : Own (kill vs ρ) (wipe σ vs) p) : Own ρ σ p := by
  obtain ⟨j, o, e1, e2⟩ := h
  obtain ⟨h1, h2⟩ := kill_get e1
  rw [wipe_ne h2] at e2
  exact ⟨j, o, h1, e2⟩
theorem FR.restored (f1 : FR k F1 ρ1 σ H1) (tr : Tr (Own (kill vs ρ1) (wipe σ vs)) F1 H1 F H) (ow : ∀ p, Own ρ (wipe σ vs) p → Own (kill vs ρ1) (wipe σ vs) p) (f : FR k F ρ (wipe σ vs) H) : FR k F (restore vs ρ1 ρ) σ H := by
  have out : ∀ (j : Nat) (o : OB) (p : Addr), j ∈ vs → ρ1[j]? = some (some (.own o)) → σ[j]? = some (some (.ref p)) → ¬ Own (kill vs ρ1) (wipe σ vs) p := fun j o p hj e1 e2 z => by
    obtain ⟨l, o', e3, e4⟩ := z
    obtain ⟨h1, h2⟩ := kill_get e3
    rw [wipe_ne h2] at e4
    exact h2 (f1.dist l j o' o p h1 e1 e4 e2 ▸ hj)
  refine ⟨f.sub, by rw [restore_len, f.len, wipe_length], fun j d q => ?_, fun j o q => ?_, fun j l o1 o2 q e1 e2 e3 e4 => ?_⟩
  · rcases restore_get q with ⟨h1, h2⟩ | ⟨h1, h2⟩
    · obtain ⟨v, e, r⟩ := f1.vals j d h2
      exact ⟨v, e, r.mono tr.sub⟩
    · obtain ⟨v, e, r⟩ := f.vals j d h2
      rw [wipe_ne h1] at e
      exact ⟨v, e, r⟩
  · rcases restore_get q with ⟨h1, h2⟩ | ⟨h1, h2⟩
    · obtain ⟨p, ho, e, hp, n, r⟩ := f1.owns j o h2
      have no := out j o p h1 h2 e
      exact ⟨p, ho, e, tr.keep p ho hp no, tr.new p ho hp r.nt n no, r.mono tr.sub⟩
    · obtain ⟨p, ho, e, r⟩ := f.owns j o h2
      rw [wipe_ne h1] at e
      exact ⟨p, ho, e, r⟩
  · rcases restore_get e1 with ⟨h1, h2⟩ | ⟨h1, h2⟩
    · rcases restore_get e2 with ⟨h3, h4⟩ | ⟨h3, h4⟩
      · exact f1.dist j l o1 o2 q h2 h4 e3 e4
      · exact absurd (ow q ⟨l, o2, h4, by rw [wipe_ne h3]; exact e4⟩) (out j o1 q h1 h2 e3)
    · rcases restore_get e2 with ⟨h3, h4⟩ | ⟨h3, h4⟩
      · exact absurd (ow q ⟨j, o1, h2, by rw [wipe_ne h1]; exact e3⟩) (out l o2 q h3 h4 e4)
      · exact f.dist j l o1 o2 q h2 h4 (by rw [wipe_ne h1]; exact e3) (by rw [wipe_ne h3]; exact e4)
theorem Own.restored (ow : ∀ p, Own ρ (wipe σ vs) p → Own (kill vs ρ1) (wipe σ vs) p) {p : Addr} (h : Own (restore vs ρ1 ρ) σ p) : Own ρ1 σ p := by
  obtain ⟨j, o, e1, e2⟩ := h
  rcases restore_get e1 with ⟨h1, h2⟩ | ⟨h1, h2⟩
  · exact ⟨j, o, h2, e2⟩
  · exact (ow p ⟨j, o, h2, by rw [wipe_ne h1]; exact e2⟩).wiped
end
theorem SInv.temp {k : Kx} {e : Ent} {ρ : Rho} {σ : L2.St} {F H : Hp} {T : Addr} {o : HO} (s : SInv k e ρ σ F H) (n : e.H T = none) (f : F T = none) (no : ¬ Own ρ σ T) : SInv k e ρ σ F (upd H T o) := by
  refine ⟨⟨fun a u q => ?_, s.fr.len, s.fr.vals, fun i ob q => ?_, s.fr.dist⟩, ⟨s.tr.sub, fun p u q nI => ?_, s.tr.new, fun p u q => ?_⟩, s.ow, s.pr⟩
  · rw [upd_ne (fun z => by rw [z, f] at q; cases q)]; exact s.fr.sub a u q
  · obtain ⟨p, ho, e1, e2, e3, e4⟩ := s.fr.owns i ob q
    have ne : p ≠ T := fun z => no (by rw [← z]; exact ⟨i, ob, q, e1⟩)
    exact ⟨p, ho, e1, by rw [upd_ne ne]; exact e2, e3, e4⟩
  · rw [upd_ne (fun z => by rw [z, n] at q; cases q)]; exact s.tr.keep p u q nI
  · rw [upd_ne (fun z => by rw [z, n] at q; cases q)]; exact s.tr.there p u q
structure CI (k : Kx) (e : Ent) (ρ0 ρ : Rho) (σ : L2.St) (F H : Hp) (T : Addr) (acc : List V) (ds : List D) : Prop where
  s : SInv k e ρ σ F H
  ow : ∀ p, Own ρ σ p → Own ρ0 σ p
  sl : ∀ (i : Nat) (x : SV), ρ0[i]? = some (some x) → ∃ x', ρ[i]? = some (some x')
  hT : H T = some (.lst acc)
  fT : F T = none
  r : RepL k F acc ds
theorem CI.aft {k : Kx} {e : Ent} {ρ0 ρ ρ' : Rho} {σ : L2.St} {F H F' H' : Hp} {T : Addr} {acc : List V} {ds : List D} (c : CI k e ρ0 ρ σ F H T acc ds) (nO : ¬ Own ρ0 σ T) (A : Aft k ρ σ F H ρ' F' H') : CI k e ρ0 ρ' σ F' H' T acc ds :=
  ⟨c.s.aft A, fun p z => c.ow p (A.ow p z), fun i x q => let ⟨x', q'⟩ := c.sl i x q; A.sl i x' q', A.tr.keep T _ c.hT fun z => nO (c.ow T z), A.tr.new T _ c.hT trivial c.fT fun z => nO (c.ow T z), c.r.mono A.tr.sub⟩
theorem simComp_at {k : Kx} {ts vs : List Nat} {wi : TI} {g : TG} {tt : TT} {te : TE} {mi : IM} {mg : GM} {mt : TM} {me : EM} (hg : SimG k [] ts g mg) (ht : SimT k tt mt) (he : SimE k te me) (hv : ∀ t ∈ ts, t ∈ vs) {F : Hp} {ρ : Rho} {σ : L2.St} {H : Hp} {Q : VK} (f : FR k F ρ σ H)
    (hi : ∀ R : It → Hp → Prop, wpo (mi ρ) (fun x => ∀ J F' H', Aft k ρ σ F H x.2 F' H' → WalkL k J F' H' x.1 → R J H') → wi σ H R)
    (h : wpo (evComp mi mg mt me vs ρ) (fun x => ∀ v F' H', Aft k ρ σ F H x.2 F' H' → RR k H F' x.2 σ H' x.1 v → Q v H')) : tLc wi g tt te vs σ H Q := by
  unfold evComp at h
  refine hi _ ((wpo_bind.mp h).mono fun a _ h => ?_)
  intro J F1 H1 A1 W T hT
  obtain ⟨G, Y, w, hG, hY⟩ := W.w
  split at h
  · rename_i hz
    let e : Ent := ⟨F1, H1, Own (kill vs a.2) (wipe σ vs), []⟩
    have s0 : SInv k e (kill vs a.2) (wipe σ vs) F1 H1 := ⟨A1.fr.wiped, Tr.refl, fun p z => .inl z, fun q hq => by cases hq⟩
    have nT : F1 T = none := A1.fr.sub.none_of hT
    have eT : e.H T = none := hT
    have noT : ¬ Own (kill vs a.2) (wipe σ vs) T := fun z => by
      obtain ⟨u, hu⟩ := s0.fr.own_some z
      rw [hT] at hu; cases hu
    have lk : ∀ {ρ' : Rho} {F' H' : Hp}, SInv k e ρ' (wipe σ vs) F' H' → LkK F1 H1 H' := fun {ρ' F' H'} s' b od u h1 h2 => s'.tr.keep b _ h2 fun z => h1 (s0.fr.own_none z)
    let C : List D → List D × Rho → Prop := fun ds z => ∀ v F' H', Aft k ρ σ F H (restore vs a.2 z.2) F' H' → RR k H F' (restore vs a.2 z.2) σ H' (.sv (.own (.lst (ds ++ z.1)))) v → Q v H'
    refine lc_it w (fun i H => ∃ ρ F acc ds, CI k e (kill vs a.2) ρ (wipe σ vs) F H T acc ds ∧ acc.length ≤ i ∧ wpo (goComp mg mt me vs (a.1.drop i) ρ) (C ds)) ?_ ?_ ?_ ?_
    · exact ⟨kill vs a.2, F1, [], [], ⟨s0.temp hT nT noT, fun p z => z, fun i x q => ⟨x, q⟩, upd_same, nT, .nil⟩, Nat.zero_le _, (wpo_bind.mp h).mono fun z _ h => fun v F' H' A R => h v F' H' A R⟩
    · rintro i H hi ⟨ρ', F', acc, ds, c, _⟩
      exact hG F' H c.s.tr.sub c.s.fr.sub (lk c.s)
    · rintro i x H H' hi ⟨ρ', F', acc, ds, c, hl, h⟩ y
      have e1 : a.1[i]? = some a.1[i] := List.getElem?_eq_getElem hi
      rw [List.drop_eq_getElem_cons hi] at h
      unfold goComp at h
      have fin : ∀ (F2 H2 : Hp), CI k e (kill vs a.2) ρ' (wipe σ vs) F2 H2 T acc ds → Rep k F2 x a.1[i] → g x (wipe σ vs) H2 fun σ2 H2 => wipe σ2 vs = wipe σ vs ∧ tt σ2 H2 fun b H3 =>
          if b = true then te σ2 H3 fun y H4 => ∃ acc, H4 T = some (.lst acc) ∧ acc.length < sizeLine ∧ ∃ ρ F acc' ds, CI k e (kill vs a.2) ρ (wipe σ vs) F (upd H4 T (.lst (acc ++ [y]))) T acc' ds ∧ acc'.length ≤ i + 1 ∧ wpo (goComp mg mt me vs (a.1.drop (i + 1)) ρ) (C ds)
          else ∃ ρ F acc ds, CI k e (kill vs a.2) ρ (wipe σ vs) F H3 T acc ds ∧ acc.length ≤ i + 1 ∧ wpo (goComp mg mt me vs (a.1.drop (i + 1)) ρ) (C ds) := by
        intro F2 H2 c rp
        refine hg e ρ' (wipe σ vs) F2 H2 x _ _ (fun q hq => by cases hq) c.s rp ((wpo_bind.mp h).mono fun ρ1 em h => ?_)
        intro σ3 s3 ag ow3 sl3
        have ew : wipe σ3 vs = wipe σ vs := (wipe_agr ag hv).trans wipe_wipe
        refine ⟨ew, ht F2 ρ1 σ3 H2 _ s3.fr ((wpo_bind.mp h).mono fun b _ h => ?_)⟩
        intro F3 H3 A3
        have s3' := s3.aft A3
        have no3 : ¬ Own ρ1 σ3 T := fun z => noT (c.ow T (ow3 T z))
        have hT3 := A3.tr.keep T _ c.hT no3
        have fT3 := A3.tr.new T _ c.hT trivial c.fT no3
        -- the slots outside of vs stay
        have slk : ∀ {ρ4 : Rho}, (∀ (i : Nat) (x : SV), ρ1[i]? = some (some x) → ∃ x', ρ4[i]? = some (some x')) → ∀ (i : Nat) (x : SV), (kill vs a.2)[i]? = some (some x) → ∃ x', (kill vs ρ4)[i]? = some (some x') := by
          intro ρ4 h4 j x0 q
          obtain ⟨q1, q2⟩ := kill_get q
          obtain ⟨x1, q3⟩ := c.sl j x0 q
          obtain ⟨x2, q4⟩ := sl3 j x1 q3
          obtain ⟨x3, q5⟩ := h4 j x2 q4
          exact ⟨x3, by rw [kill_out q2]; exact q5⟩
        have wip : ∀ {ρ4 : Rho} {F4 H4 : Hp}, SInv k e ρ4 σ3 F4 H4 → SInv k e (kill vs ρ4) (wipe σ vs) F4 H4 := fun {ρ4 F4 H4} s4 => by
          rw [← ew]
          exact ⟨s4.fr.wiped, s4.tr, fun p z => s4.ow p z.wiped, fun q hq => by cases hq⟩
        have wow : ∀ {ρ4 : Rho}, (∀ p, Own ρ4 σ3 p → Own ρ1 σ3 p) → ∀ p, Own (kill vs ρ4) (wipe σ vs) p → Own (kill vs a.2) (wipe σ vs) p := fun {ρ4} h4 p z => by
          rw [← ew] at z
          exact c.ow p (ow3 p (h4 p z.wiped))
        split at h
        · rename_i eb
          rw [if_pos eb]
          refine he F3 b.2 σ3 H3 _ s3'.fr ((wpo_bind.mp h).mono fun z _ h => ?_)
          intro v F4 H4 A4 R4
          have h := wpo_bind.mp h
          cases ef : frz1 z.2 z.1 with
          | none => rw [ef] at h; exact h.elim
          | some y =>
            rw [ef] at h
            obtain ⟨F5, A5, s5, r5, _⟩ := frz1_ok s3'.fr A4 R4 ef
            have no3' : ¬ Own b.2 σ3 T := fun z => no3 (A3.ow T z)
            have hT5 := A5.tr.keep T _ hT3 no3'
            have fT5 := A5.tr.new T _ hT3 trivial fT3 no3'
            have sub5 : Sub F2 F5 := A3.tr.sub.trans A5.tr.sub
            have s5' := s3'.aft A5
            have no5 : ¬ Own (kill vs y.2) (wipe σ vs) T := fun z => noT (wow (fun p q => A3.ow p (A5.ow p q)) T z)
            refine ⟨acc, hT5, by omega, kill vs y.2, F5, acc ++ [v], ds ++ [y.1], ⟨(wip s5').temp eT fT5 no5, wow fun p q => A3.ow p (A5.ow p q), slk fun i x q => let ⟨x', q'⟩ := A3.sl i x q; A5.sl i x' q', upd_same, fT5, (c.r.mono sub5).append (.cons r5 .nil)⟩, by simp; omega, ?_⟩
            refine (wpo_bind.mp h).mono fun z _ h => ?_
            intro v F' H' A R
            rw [List.append_assoc] at R
            exact h v F' H' A R
        · rename_i eb
          rw [if_neg eb]
          exact ⟨kill vs b.2, F3, acc, ds, ⟨wip s3', wow A3.ow, slk A3.sl, hT3, fT3, c.r.mono A3.tr.sub⟩, by omega, h⟩
      obtain ⟨F2, A2, rp⟩ := (hY i _ F' H x H' e1 c.s.tr.sub c.s.fr.sub (lk c.s) y).aft c.s.fr
      exact fin F2 H' (c.aft noT A2) rp
    · rintro H' ⟨ρ', F', acc, ds, c, hl, h⟩
      rw [List.drop_length] at h
      have h : C ds ([], ρ') := h
      refine h _ F' H' ?_ ?_
      · refine A1.trans ⟨FR.restored A1.fr c.s.tr c.ow c.s.fr, ⟨c.s.tr.sub, fun p o q nI => c.s.tr.keep p o q fun z => nI z.wiped, fun p o q m f nI => c.s.tr.new p o q m f fun z => nI z.wiped, c.s.tr.there⟩, fun p z => z.restored c.ow, fun i s q => ?_⟩
        by_cases hi : i ∈ vs
        · refine ⟨s, restore_in q ?_ (.inl hi)⟩
          have l1 := (List.getElem?_eq_some_iff.mp q).1
          have l2 : ρ'.length = (wipe σ vs).length := c.s.fr.len
          rw [wipe_length] at l2
          show i < ρ'.length
          have l3 := A1.fr.len
          omega
        · obtain ⟨x', q'⟩ := c.sl i s (by rw [kill_out hi]; exact q)
          exact ⟨x', by rw [restore_out hi]; exact q'⟩
      · exact ⟨T, _, rfl, A1.none_of hT, c.hT, c.fT, acc, rfl, by rw [List.append_nil]; exact c.r⟩
  · exact h.elim
theorem simComp {k : Kx} {ts vs : List Nat} {wi : TI} {g : TG} {tt : TT} {te : TE} {mi : IM} {mg : GM} {mt : TM} {me : EM} (hi : SimI k wi mi) (hg : SimG k [] ts g mg) (ht : SimT k tt mt) (he : SimE k te me) (hv : ∀ t ∈ ts, t ∈ vs) :
    SimE k (tLc wi g tt te vs) (evComp mi mg mt me vs) := fun F ρ σ H Q f h => simComp_at hg ht he hv f (fun R q => hi F ρ σ H R f (q.mono fun x _ q J F1 H1 A W => q J F1 H1 A W.l)) h
end Pv

/-! Pv8: defs and their calls. -/
namespace Pv
open PySem PySem.Spec PySem.SeqAt L2

abbrev CM := List SV → Option (SV × SV)
def ArgR (k : Kx) (F H : Hp) : SV → V → Prop
  | .val d, v => Rep k F v d
  | .own o, v => ∃ p ho, v = .ref p ∧ H p = some ho ∧ F p = none ∧ RepO k F p o ho
inductive ArgsR (k : Kx) (F H : Hp) : List SV → List V → Prop
  | nil : ArgsR k F H [] []
  | cons {s : SV} {v : V} {ss : List SV} {vs : List V} : ArgR k F H s v → ArgsR k F H ss vs → (∀ o, s = .own o → ∀ (j : Nat) (o' : OB), ss[j]? = some (.own o') → vs[j]? ≠ some v) → ArgsR k F H (s :: ss) (v :: vs)
def ArgOwn (ss : List SV) (vs : List V) (p : Addr) : Prop := ∃ (i : Nat) (o : OB), ss[i]? = some (.own o) ∧ vs[i]? = some (.ref p)
def ArgGiv (io : Bool) (ss : List SV) (vs : List V) (p : Addr) : Prop := ∃ (i : Nat) (o : OB), (io = true → i ≠ 0) ∧ ss[i]? = some (.own o) ∧ vs[i]? = some (.ref p)
def ResR (k : Kx) (A : Addr → Prop) (H F' H' : Hp) : SV → V → Prop
  | .val d, v => Rep k F' v d
  | .own o, v => ∃ p ho, v = .ref p ∧ (H p = none ∨ A p) ∧ H' p = some ho ∧ F' p = none ∧ RepO k F' p o ho
def spF (k : Kx) (io : Bool) (np : Nat) (cm : CM) : Sp := fun vs H Q _ => ∃ F args, Sub F H ∧ ArgsR k F H args vs ∧ vs.length = np ∧
  wpo (cm args) (fun x => ∀ v F' H', Sub F' H' → Tr (ArgOwn args vs) F H F' H' → ResR k (ArgGiv io args vs) H F' H' x.1 v → (io = true → ∃ u, vs[0]? = some u ∧ ArgR k F' H' x.2 u) → Q v H')
def excOut (k : Kx) (F H : Hp) (args : List SV) (vs : List V) (W : Value → Option Addr → Hp → Prop) (x : SV × SV) : Prop := ∀ c fs, x.1 = .val (excD c fs) → ∀ cls d F' H', Sub F' H' → Tr (ArgOwn args vs) F H F' H' → ExcR k F' H' c fs cls d → W cls d H'
def spX (k : Kx) (io : Bool) (np : Nat) (cm : CM) : Sp := fun vs H Q E => ∃ F args, Sub F H ∧ ArgsR k F H args vs ∧ vs.length = np ∧
  wpo (cm args) (fun x => (∀ v F' H', Sub F' H' → Tr (ArgOwn args vs) F H F' H' → ResR k (ArgGiv io args vs) H F' H' x.1 v → (io = true → ∃ u, vs[0]? = some u ∧ ArgR k F' H' x.2 u) → Q v H') ∧ excOut k F H args vs E x)
def retS (io : Bool) (ρ : Rho) : Rv → Option (SV × Rho)
  | .sv s => some (s, ρ)
  | .plc j => match ρ[j]? with
    | some (some (.val d)) => some (.val d, ρ)
    | some (some (.own o)) => if io = true then (match ρ[(0 : Nat)]? with
        | some (some (.own _)) => if j = 0 then some (.val o.d, ρ.set j (some (.val o.d))) else some (.own o, ρ)
        | _ => some (.val o.d, ρ.set j (some (.val o.d)))) else some (.own o, ρ)
    | _ => none
def out0 (io : Bool) (ρ : Rho) : Option SV := if io = true then (match ρ[(0 : Nat)]? with
    | some (some s) => some s
    | _ => none) else some (.val .none)
def runB (io : Bool) (nl : Nat) (mb : SM) : CM := fun args => (mb (args.map some ++ List.replicate (nl - args.length) none)).bind fun a => match a.1 with
  | .nx => (out0 io a.2).bind fun o => some (.val .none, o)
  | .ret r => (retS io a.2 r).bind fun b => (out0 io b.2).bind fun o => some (b.1, o)
  | _ => none
section
variable {k : Kx} {F H : Hp}
theorem ArgsR.len : ∀ {ss : List SV} {vs : List V}, ArgsR k F H ss vs → ss.length = vs.length
  | _, _, .nil => rfl
  | _, _, .cons _ b _ => by simp [b.len]
theorem ArgsR.get : ∀ {ss : List SV} {vs : List V} {i : Nat} {s : SV}, ArgsR k F H ss vs → ss[i]? = some s → ∃ v, vs[i]? = some v ∧ ArgR k F H s v
  | _, _, _, _, .nil, h => by simp at h
  | _, _, 0, _, .cons a _ _, h => by simp at h; subst h; exact ⟨_, rfl, a⟩
  | _, _, i + 1, s, .cons _ b _, h => by
    obtain ⟨v, h1, h2⟩ := ArgsR.get (i := i) (s := s) b (by simpa using h)
    exact ⟨v, by simpa using h1, h2⟩
theorem ArgsR.dist : ∀ {ss : List SV} {vs : List V} {i j : Nat} {o o' : OB} {v : V}, ArgsR k F H ss vs → ss[i]? = some (.own o) → ss[j]? = some (.own o') → vs[i]? = some v → vs[j]? = some v → i = j
  | _, _, _, _, _, _, _, .nil, h, _, _, _ => by simp at h
  | _, _, 0, 0, _, _, _, .cons _ _ _, _, _, _, _ => rfl
  | _, _, 0, j + 1, o, o', v, .cons _ _ c, h1, h2, h3, h4 => by
    simp at h1 h3; subst h3
    exact absurd (by simpa using h4) (c o h1 j o' (by simpa using h2))
  | _, _, i + 1, 0, o, o', v, .cons _ _ c, h1, h2, h3, h4 => by
    simp at h2 h4; subst h4
    exact absurd (by simpa using h3) (c o' h2 i o (by simpa using h1))
  | _, _, i + 1, j + 1, o, o', v, .cons _ b _, h1, h2, h3, h4 => by
    have := ArgsR.dist (i := i) (j := j) b (by simpa using h1) (by simpa using h2) (by simpa using h3) (by simpa using h4)
    omega
theorem start_get {α : Type} {l : List α} {n : Nat} {i : Nat} {x : α} (h : (l.map some ++ List.replicate n none)[i]? = some (some x)) : l[i]? = some x := by
  by_cases hi : i < l.length
  · rw [List.getElem?_append_left (by simpa using hi), List.getElem?_map] at h
    cases e : l[i]? with
    | none => rw [e] at h; cases h
    | some y => rw [e] at h; cases h; rfl
  · rw [List.getElem?_append_right (by simpa using hi), List.getElem?_replicate] at h
    split at h <;> cases h
theorem start_of {α : Type} {l : List α} {n : Nat} {i : Nat} {x : α} (h : l[i]? = some x) : (l.map some ++ List.replicate n none)[i]? = some (some x) := by
  have hi : i < l.length := (List.getElem?_eq_some_iff.mp h).1
  rw [List.getElem?_append_left (by simpa using hi), List.getElem?_map, h]; rfl
theorem runB_gen {Wx : Option WX} {io : Bool} {np nl : Nat} {ts : TS} {mb : SM} {N : List Str} (hN : N.length = nl) (hio : io = true → 0 < np) (hb : SimS k (if io = true then [0] else []) Wx ts mb) {vs : List V} {Q : VK} {args : List SV} (sb : Sub F H) (ar : ArgsR k F H args vs) (hl : vs.length = np)
    (h : wpo (runB io nl mb args) (fun x => (∀ v F' H', Sub F' H' → Tr (ArgOwn args vs) F H F' H' → ResR k (ArgGiv io args vs) H F' H' x.1 v → (io = true → ∃ u, vs[0]? = some u ∧ ArgR k F' H' x.2 u) → Q v H') ∧ ∀ W, Wx = some W → excOut k F H args vs (fun cls d H' => ∀ σ, W cls d σ H') x)) :
    ts { nx := fun _ H' => Q .non H', rt := Q } (L2.start N vs) H := by
  unfold runB at h
  have al := ar.len
  let e : Ent := ⟨F, H, ArgOwn args vs, if io = true then (match vs[0]? with | some u => [(0, u)] | none => []) else []⟩
  have s0 : SInv k e (args.map some ++ List.replicate (nl - args.length) none) (L2.start N vs) F H := by
    refine ⟨⟨sb, ?_, fun i d q => ?_, fun i o q => ?_, fun i j o o' p e1 e2 e3 e4 => ?_⟩, Tr.refl, fun p z => .inl ?_, fun q hq => ?_⟩
    · unfold L2.start; simp; omega
    · obtain ⟨v, h1, h2⟩ := ar.get (start_get q)
      exact ⟨v, start_of h1, h2⟩
    · obtain ⟨v, h1, p, ho, rfl, h2⟩ := ar.get (start_get q)
      exact ⟨p, ho, start_of h1, h2⟩
    · exact ar.dist (start_get e1) (start_get e2) (start_get e3) (start_get e4)
    · obtain ⟨i, o, e1, e2⟩ := z
      exact ⟨i, o, start_get e1, start_get e2⟩
    · have hq : q ∈ (if io = true then (match vs[0]? with | some u => [(0, u)] | none => []) else [] : List (Nat × V)) := hq
      split at hq
      · split at hq
        · rename_i u hu
          simp at hq; subst hq
          exact start_of hu
        · cases hq
      · cases hq
  have hP : ∀ q ∈ e.pr, q.1 ∈ (if io = true then [0] else [] : List Nat) := fun q hq => by
    have hq : q ∈ (if io = true then (match vs[0]? with | some u => [(0, u)] | none => []) else [] : List (Nat × V)) := hq
    split at hq
    · rename_i hio
      rw [if_pos hio]
      split at hq
      · simp at hq; subst hq; simp
      · cases hq
    · cases hq
  -- what is given back
  have outs : ∀ {ρ : Rho} {σ : L2.St} {F' H' : Hp} {s : SV}, SInv k e ρ σ F' H' → out0 io ρ = some s → (io = true → ∃ u, vs[0]? = some u ∧ ArgR k F' H' s u) := by
    intro ρ σ F' H' s si ho hi
    unfold out0 at ho
    rw [if_pos hi] at ho
    split at ho
    · rename_i s' hs
      cases ho
      have h0 : 0 < σ.length := by rw [← si.fr.len]; exact (List.getElem?_eq_some_iff.mp hs).1
      cases hu : vs[0]? with
      | none =>
        have := hio hi
        rw [List.getElem?_eq_none_iff] at hu
        omega
      | some u =>
        refine ⟨u, rfl, ?_⟩
        have hp : σ[0]? = some (some u) := si.pr (0, u) (by
          show _ ∈ (if io = true then (match vs[0]? with | some u => [(0, u)] | none => []) else [] : List (Nat × V))
          rw [if_pos hi, hu]; simp)
        cases s with
        | val d =>
          obtain ⟨v, h1, h2⟩ := si.fr.vals 0 d hs
          rw [hp] at h1; cases h1; exact h2
        | own o =>
          obtain ⟨p, ho, h1, h2⟩ := si.fr.owns 0 o hs
          rw [hp] at h1; cases h1; exact ⟨p, ho, rfl, h2⟩
    · cases ho
  refine hb e _ _ F H _ hP s0 ((wpo_bind.mp h).mono fun a _ h => ?_)
  obtain ⟨fl, ρ1⟩ := a
  cases fl with
  | nx =>
    intro σ F' H' s'
    have h := wpo_bind.mp h
    cases eo : out0 io ρ1 with
    | none => rw [eo] at h; exact h.elim
    | some o =>
      rw [eo] at h
      exact h.1 .non F' H' s'.fr.sub s'.tr .non (outs s' eo)
  | ret r =>
    refine ⟨?_, fun W hW c fs er cls d σ F' H' s' x => ?_⟩
    rotate_left
    · subst er
      have h := wpo_bind.mp h
      have h : wpo ((out0 io ρ1).bind fun o => some ((SV.val (excD c fs), o) : SV × SV)) _ := h
      have h := wpo_bind.mp h
      cases eo : out0 io ρ1 with
      | none => rw [eo] at h; exact h.elim
      | some o =>
        rw [eo] at h
        exact h.2 W hW c fs rfl cls d F' H' s'.fr.sub s'.tr x σ
    replace h : wpo (match Fl.ret r with
      | .nx => (out0 io ρ1).bind fun o => some ((SV.val .none, o) : SV × SV)
      | .ret r => (retS io ρ1 r).bind fun b => (out0 io b.2).bind fun o => some (b.1, o)
      | _ => none) (fun x => ∀ v F' H', Sub F' H' → Tr (ArgOwn args vs) F H F' H' → ResR k (ArgGiv io args vs) H F' H' x.1 v → (io = true → ∃ u, vs[0]? = some u ∧ ArgR k F' H' x.2 u) → Q v H') := h.mono fun x _ q => q.1
    intro v σ F' H' s' R
    have h := wpo_bind.mp h
    cases er : retS io ρ1 r with
    | none => rw [er] at h; exact h.elim
    | some b =>
      rw [er] at h
      have h := wpo_bind.mp h
      cases eo : out0 io b.2 with
      | none => rw [eo] at h; exact h.elim
      | some o =>
        rw [eo] at h
        have h : ∀ v F' H', Sub F' H' → Tr (ArgOwn args vs) F H F' H' → ResR k (ArgGiv io args vs) H F' H' b.1 v → (io = true → ∃ u, vs[0]? = some u ∧ ArgR k F' H' o u) → Q v H' := h
        have frz : ∀ (j : Nat) (ob : OB), σ[j]? = some (some v) → ρ1[j]? = some (some (.own ob)) → b = (.val ob.d, ρ1.set j (some (.val ob.d))) → Q v H' := fun j ob R1 R2 eb => by
          subst eb
          obtain ⟨F2, A2, _, r2, _⟩ := frz1_ok (r := .plc j) (v := v) s'.fr (Aft.refl s'.fr) ⟨R1, _, R2⟩ (show frz1 ρ1 (.plc j) = some (ob.d, ρ1.set j (some (.val ob.d))) by simp [frz1, R2])
          have s2 := s'.aft A2
          exact h v F2 H' s2.fr.sub s2.tr r2 (outs s2 eo)
        have giv : ∀ (j : Nat) (ob : OB), σ[j]? = some (some v) → ρ1[j]? = some (some (.own ob)) → (io = true → j ≠ 0 ∧ ∃ o0, ρ1[0]? = some (some (.own o0))) → b = (.own ob, ρ1) → Q v H' := fun j ob R1 R2 hj eb => by
          subst eb
          obtain ⟨p, ho, h1, h2, h3, h4⟩ := s'.fr.owns j ob R2
          rw [R1] at h1; cases h1
          refine h (.ref p) F' H' s'.fr.sub s'.tr ⟨p, ho, rfl, ?_, h2, h3, h4⟩ (outs s' eo)
          rcases s'.ow p ⟨j, ob, R2, R1⟩ with ⟨i, o', q1, q2⟩ | z
          · refine .inr ⟨i, o', fun hi ei => ?_, q1, q2⟩
            subst ei
            obtain ⟨nj, o0, h0⟩ := hj hi
            have hp : σ[0]? = some (some (.ref p)) := s'.pr (0, .ref p) (by
              show _ ∈ (if io = true then (match vs[0]? with | some u => [(0, u)] | none => []) else [] : List (Nat × V))
              rw [if_pos hi, q2]; simp)
            exact nj (s'.fr.dist j 0 ob o0 p R2 h0 R1 hp)
          · exact .inl z
        match r, R, er with
        | .sv (.val d), R, er =>
          cases er
          exact h v F' H' s'.fr.sub s'.tr R (outs s' eo)
        | .sv (.own ob), ⟨p, ho, e1, e2, e3⟩, er =>
          cases er
          exact h v F' H' s'.fr.sub s'.tr ⟨p, ho, e1, .inl e2, e3⟩ (outs s' eo)
        | .plc j, ⟨R1, sv, R2⟩, er =>
          cases sv with
          | val d =>
            simp only [retS, R2, Option.some.injEq] at er
            subst er
            obtain ⟨v', h1, h2⟩ := s'.fr.vals j d R2
            rw [R1] at h1; cases h1
            exact h v F' H' s'.fr.sub s'.tr h2 (outs s' eo)
          | own ob =>
            simp only [retS, R2] at er
            split at er
            · rename_i hi
              split at er
              · rename_i o0 h0
                split at er
                · cases er; exact frz j ob R1 R2 rfl
                · rename_i nj
                  cases er; exact giv j ob R1 R2 (fun _ => ⟨nj, o0, h0⟩) rfl
              · cases er; exact frz j ob R1 R2 rfl
            · rename_i hi
              cases er; exact giv j ob R1 R2 (fun z => absurd z hi) rfl
  | bk => exact h.elim
  | ct => exact h.elim
theorem runB_ok {io : Bool} {np nl : Nat} {ts : TS} {mb : SM} {N : List Str} (hN : N.length = nl) (hio : io = true → 0 < np) (hb : SimS k (if io = true then [0] else []) none ts mb) {vs : List V} {Q : VK} {E : XK} (h : spF k io np (runB io nl mb) vs H Q E) :
    ts { nx := fun _ H' => Q .non H', rt := Q } (L2.start N vs) H := by
  obtain ⟨F, args, sb, ar, hl, h⟩ := h
  exact runB_gen hN hio hb sb ar hl (h.mono fun x _ q => ⟨q, fun W hW => nomatch hW⟩)
theorem runB_okX {W : WX} {io : Bool} {np nl : Nat} {ts : TS} {mb : SM} {N : List Str} (hN : N.length = nl) (hio : io = true → 0 < np) (hb : SimS k (if io = true then [0] else []) (some W) ts mb) {vs : List V} {Q : VK} {E : XK} (hE : ∀ cls d σ H', E cls d H' → W cls d σ H') (h : spX k io np (runB io nl mb) vs H Q E) :
    ts { nx := fun _ H' => Q .non H', rt := Q } (L2.start N vs) H := by
  obtain ⟨F, args, sb, ar, hl, h⟩ := h
  exact runB_gen hN hio hb sb ar hl (h.mono fun x _ q => ⟨q.1, fun W' hW => by cases hW; exact fun c fs e cls d F' H' s t x σ => hE _ _ _ _ (q.2 c fs e cls d F' H' s t x)⟩)
end
end Pv

/-! Pv9: a def called. -/
namespace Pv
open PySem PySem.Spec PySem.SeqAt L2

def flat0 : D → Bool
  | .none => true
  | .bool _ => true
  | .int _ => true
  | .str _ => true
  | _ => false
mutual
def nl : D → Bool
  | .none => true
  | .bool _ => true
  | .int _ => true
  | .str _ => true
  | .tuple xs => nlAll xs
  | .list _ => false
  | .dict kvs => (match kvs with
    | [(.bool true, .list xs)] => xs.all flat0
    | [(.bool true, .tuple xs)] => xs.all flat0
    | _ => false)
def nlAll : List D → Bool
  | [] => true
  | x :: xs => nl x && nlAll xs
end
def nlS : SV → Bool
  | .val d => nl d
  | .own (.lst xs) => nlAll xs
  | .own (.ins _ fs) => nlAll fs
  | .own (.dct _ _ _) => false
  | .own (.dcn _ _) => false
def Mu : HO → Prop
  | .lst _ => True
  | .ins _ _ _ => True
  | .dK _ => True
  | .dT _ => True
  | .frz _ (.dK _) => True
  | .frz _ (.dT _) => True
  | .ext _ => True
  | _ => False
theorem Mu.sub {F F' : Hp} (s : Sub F F') {p : Addr} {o : HO} (e : F p = some o) (m : Mu o) : ∃ o, F' p = some o ∧ Mu o := by
  obtain ⟨o', e', z⟩ := s p o e
  refine ⟨o', e', ?_⟩
  cases o with
  | lst xs => rw [nlk_fx z True.intro]; trivial
  | ins a b c => rw [nlk_fx z True.intro]; trivial
  | ext a => rw [nlk_fx z True.intro]; trivial
  | dK x => rcases nlk_dc z True.intro with rfl | ⟨od, rfl⟩ <;> trivial
  | dT x => rcases nlk_dc z True.intro with rfl | ⟨od, rfl⟩ <;> trivial
  | frz od u =>
    cases u with
    | dK x => rcases nlk_dc (o := .dK x) z True.intro with rfl | ⟨od, rfl⟩ <;> trivial
    | dT x => rcases nlk_dc (o := .dT x) z True.intro with rfl | ⟨od, rfl⟩ <;> trivial
    | _ => exact m.elim
  | _ => exact m.elim
theorem rep_flat {k : Kx} {F F2 : Hp} {v : V} {d : D} (h : flat0 d = true) (r : Rep k F v d) : Rep k F2 v d := by
  cases r <;> first | exact .non | exact .bl _ | exact .int _ | exact .str _ | simp [flat0] at h
theorem repL_flat {k : Kx} {F F2 : Hp} : ∀ {vs : List V} {ds : List D}, ds.all flat0 = true → RepL k F vs ds → RepL k F2 vs ds
  | _, _, _, .nil => .nil
  | _, _, h, .cons a b => by
    simp only [List.all_cons, Bool.and_eq_true] at h
    exact .cons (rep_flat h.1 a) (repL_flat h.2 b)
section
variable {k : Kx} {F F2 : Hp} {B : Addr → Prop} (hB : ∀ a, B a → ∃ o, F a = some o ∧ Mu o) (h2 : ∀ a, ¬ B a → F2 a = F a)
include hB h2
mutual
theorem nl_del : ∀ {v : V} {d : D}, nl d = true → Rep k F v d → Rep k F2 v d
  | _, _, _, .non => .non
  | _, _, _, .bl b => .bl b
  | _, _, _, .int i => .int i
  | _, _, _, .str x => .str x
  | _, _, h, .lst _ _ => by simp [nl] at h
  | _, .tuple xs, h, .tup (a := a) e r => by
    have h' : nlAll xs = true := by simpa [nl] using h
    refine .tup ?_ (nlAll_del h' r)
    rw [h2 a fun z => by obtain ⟨o, q, m⟩ := hB a z; rw [e] at q; cases q; exact m.elim]; exact e
  | _, .dict [(.bool true, .list xs)], h, .fls (a := a) e r => by
    have h' : xs.all flat0 = true := by simpa [nl] using h
    refine .fls ?_ (repL_flat h' r)
    rcases e with ⟨ob, e⟩ | e
    · exact .inl ⟨ob, by rw [h2 a fun z => by obtain ⟨o, q, m⟩ := hB a z; rw [e] at q; cases q; exact m.elim]; exact e⟩
    · exact .inr e
  | _, .dict [(.bool true, .tuple xs)], h, .xt (a := a) e r => by
    have h' : xs.all flat0 = true := by simpa [nl] using h
    refine .xt ?_ (repL_flat h' r)
    obtain ⟨ob, e, c1, c2⟩ := e
    exact ⟨ob, by rw [h2 a fun z => by obtain ⟨o, q, m⟩ := hB a z; rw [e] at q; cases q; exact m.elim]; exact e, c1, c2⟩
  | _, _, h, .obj _ _ _ _ _ => by simp [nl] at h
  | _, _, h, .dnil _ => by simp [nl] at h
  | _, _, h, .dct _ _ _ => by simp [nl] at h
  | _, _, h, .fn _ => by simp [nl] at h
  | _, _, h, .dcn _ _ _ _ => by simp [nl] at h
theorem nlAll_del : ∀ {vs : List V} {ds : List D}, nlAll ds = true → RepL k F vs ds → RepL k F2 vs ds
  | _, _, _, .nil => .nil
  | _, _, h, .cons a b => by
    simp only [nlAll, Bool.and_eq_true] at h
    exact .cons (nl_del h.1 a) (nlAll_del h.2 b)
end
end
def passB (ρ : Rho) : List Rv → Option (List SV)
  | [] => some []
  | .sv s :: rs => (passB ρ rs).bind fun ss => some (s :: ss)
  | .plc j :: rs => match ρ[j]? with
    | some (some s) => (passB ρ rs).bind fun ss => some (.val s.d :: ss)
    | _ => none
def frAll (ρ : Rho) : List Rv → Rho
  | [] => ρ
  | .sv _ :: rs => frAll ρ rs
  | .plc j :: rs => match ρ[j]? with
    | some (some (.own o)) => frAll (ρ.set j (some (.val o.d))) rs
    | _ => frAll ρ rs
def plcs : List Rv → List Nat
  | [] => []
  | .sv _ :: rs => plcs rs
  | .plc j :: rs => j :: plcs rs
def evCallL (np : Nat) (cm : CM) (ma : AM) : EM := fun ρ => (ma ρ).bind fun a => (passB a.2 a.1).bind fun as => if as.length = np then (cm as).bind fun x => some (.sv x.1, if nlS x.1 = true then a.2 else frAll a.2 a.1) else none
def evCallI (np : Nat) (cm : CM) (ma : AM) : EM := fun ρ => (ma ρ).bind fun a => match a.1 with
  | .plc j :: rs => (match a.2[j]? with
    | some (some (.own o)) => if j ∈ plcs rs then none else (passB a.2 rs).bind fun as => if as.length + 1 = np then (cm (.own o :: as)).bind fun x =>
        some (.sv x.1, (if (nlS x.1 && nlS x.2) = true then a.2 else frAll a.2 rs).set j (some x.2)) else none
    | _ => none)
  | _ => none
theorem mem_plcs {j : Nat} : ∀ {rs : List Rv}, j ∈ plcs rs ↔ Rv.plc j ∈ rs
  | [] => by simp [plcs]
  | .sv _ :: rs => by simp [plcs, mem_plcs (rs := rs)]
  | .plc i :: rs => by simp [plcs, mem_plcs (rs := rs)]
theorem frAll_len : ∀ {rs : List Rv} {ρ : Rho}, (frAll ρ rs).length = ρ.length
  | [], _ => rfl
  | .sv _ :: rs, ρ => by unfold frAll; exact frAll_len
  | .plc j :: rs, ρ => by
    unfold frAll
    split
    · rw [frAll_len]; simp
    · exact frAll_len
theorem frAll_get : ∀ {rs : List Rv} {ρ : Rho} {i : Nat} {s : SV}, (frAll ρ rs)[i]? = some (some s) → (ρ[i]? = some (some s) ∧ ∀ o, s = .own o → Rv.plc i ∉ rs) ∨ (∃ o, Rv.plc i ∈ rs ∧ ρ[i]? = some (some (.own o)) ∧ s = .val o.d)
  | [], _, _, _, h => .inl ⟨h, fun _ _ => by simp⟩
  | .sv _ :: rs, ρ, i, s, h => by
    unfold frAll at h
    rcases frAll_get h with ⟨h1, h2⟩ | ⟨o, h1, h2⟩
    · exact .inl ⟨h1, fun o e => by simp only [List.mem_cons, not_or]; exact ⟨by simp, h2 o e⟩⟩
    · exact .inr ⟨o, List.mem_cons_of_mem _ h1, h2⟩
  | .plc j :: rs, ρ, i, s, h => by
    unfold frAll at h
    split at h
    · rename_i o ho
      rcases frAll_get h with ⟨h1, h2⟩ | ⟨o', h1, h2, h3⟩
      · rcases set_get h1 with ⟨e1, e2, _⟩ | ⟨ne, h1⟩
        · subst e1
          cases e2
          exact .inr ⟨o, List.mem_cons_self, ho, rfl⟩
        · exact .inl ⟨h1, fun o e => by simp only [List.mem_cons, not_or]; exact ⟨by rintro ⟨⟩; exact ne rfl, h2 o e⟩⟩
      · rcases set_get h2 with ⟨_, e2, _⟩ | ⟨ne, h2⟩
        · cases e2
        · exact .inr ⟨o', List.mem_cons_of_mem _ h1, h2, h3⟩
    · rename_i hno
      rcases frAll_get h with ⟨h1, h2⟩ | ⟨o, h1, h2⟩
      · refine .inl ⟨h1, fun o e => ?_⟩
        simp only [List.mem_cons, not_or]
        refine ⟨?_, h2 o e⟩
        rintro ⟨⟩
        subst e
        exact hno o h1
      · exact .inr ⟨o, List.mem_cons_of_mem _ h1, h2⟩
theorem frAll_sls : ∀ {rs : List Rv} {ρ : Rho}, Sls ρ (frAll ρ rs)
  | [], _ => fun _ s h => ⟨s, h⟩
  | .sv _ :: rs, ρ => by unfold frAll; exact frAll_sls
  | .plc j :: rs, ρ => by
    unfold frAll
    split
    · exact fun i s h => let ⟨s', h'⟩ := slots_set i s h; frAll_sls i s' h'
    · exact frAll_sls
def Lent (ρ : Rho) (σ : L2.St) (rs : List Rv) (p : Addr) : Prop := ∃ (j : Nat) (o : OB), Rv.plc j ∈ rs ∧ ρ[j]? = some (some (.own o)) ∧ σ[j]? = some (some (.ref p))
open Classical in
noncomputable def lendF (B : Addr → Prop) (F H : Hp) : Hp := fun a => if B a then H a else F a
open Classical in
noncomputable def unlF (B : Addr → Prop) (F : Hp) : Hp := fun a => if B a then none else F a
section
variable {k : Kx} {ρ ρ1 : Rho} {σ : L2.St} {F H F1 H1 F' H' : Hp} {rs : List Rv} {vs : List V}
theorem Lent.own {p : Addr} (h : Lent ρ σ rs p) : Own ρ σ p := let ⟨j, o, _, h2, h3⟩ := h; ⟨j, o, h2, h3⟩
theorem Lent.lst (f : FR k F ρ σ H) {p : Addr} (h : Lent ρ σ rs p) : ∃ o, H p = some o ∧ Mu o := by
  obtain ⟨j, o, _, h2, h3⟩ := h
  obtain ⟨q, ho, e1, e2, _, e4⟩ := f.owns j o h2
  rw [h3] at e1; cases e1
  cases o with
  | lst xs => obtain ⟨ws, rfl, _⟩ := e4; exact ⟨_, e2, trivial⟩
  | ins c fs => obtain ⟨C, ns, dx, vs, _, rfl, _⟩ := e4; exact ⟨_, e2, trivial⟩
  | dct t ks ds =>
    obtain ⟨vs, rfl, _⟩ := e4
    refine ⟨_, e2, ?_⟩
    unfold hoD
    split <;> trivial
  | dcn ks ds => obtain ⟨es, rfl, _⟩ := e4; exact ⟨_, e2, trivial⟩
theorem lend_sub (f : FR k F ρ σ H) : Sub F (lendF (Lent ρ σ rs) F H) := fun a o e => by
  unfold lendF
  split
  · rename_i h
    rw [f.own_none h.own] at e; cases e
  · exact ⟨_, e, rfl⟩
theorem lend_in (f : FR k F ρ σ H) : Sub (lendF (Lent ρ σ rs) F H) H := fun a o e => by
  unfold lendF at e
  split at e
  · exact ⟨_, e, rfl⟩
  · exact f.sub a o e
theorem lend_at {p : Addr} (h : Lent ρ σ rs p) : lendF (Lent ρ σ rs) F H p = H p := by unfold lendF; rw [if_pos h]
theorem lend_off {p : Addr} (h : ¬ Lent ρ σ rs p) : lendF (Lent ρ σ rs) F H p = F p := by unfold lendF; rw [if_neg h]
theorem passB_ok (f0 : FR k F ρ σ H) (A : Aft k ρ σ F H ρ1 F1 H1) {all : List Rv} (hall : ∀ r ∈ rs, r ∈ all) : ∀ {rs : List Rv} {vs : List V} {Hs : Hp} {as : List SV}, (∀ r ∈ rs, r ∈ all) → (∀ p, H p ≠ none → Hs p ≠ none) → RRs k F1 ρ1 σ H1 Hs rs vs → passB ρ1 rs = some as →
    ArgsR k (lendF (Lent ρ1 σ all) F1 H1) H1 as vs ∧ ∀ p, ArgOwn as vs p → Hs p = none ∧ H1 p ≠ none
  | [], _, _, _, _, _, .nil, e => by
    simp only [passB, Option.some.injEq] at e
    subst e
    exact ⟨.nil, fun p ⟨i, o, h, _⟩ => by simp at h⟩
  | .sv s :: rs, v :: vs, Hs, as, hm, hs, .cons (H1 := Hn) a b c d, e => by
    simp only [passB, Option.bind_eq_some_iff] at e
    obtain ⟨ss, e1, e2⟩ := e
    cases e2
    obtain ⟨i1, i2⟩ := passB_ok f0 A hall (rs := rs) (fun r hr => hm r (List.mem_cons_of_mem _ hr)) (fun p h => c p (hs p h)) b e1
    have hd : ArgR k (lendF (Lent ρ1 σ all) F1 H1) H1 s v := by
      cases s with
      | val dd => exact Rep.mono (lend_sub A.fr) a
      | own o =>
        obtain ⟨p, ho, q1, q2, q3, q4, q5⟩ := a
        refine ⟨p, ho, q1, q3, ?_, q5.mono (lend_sub A.fr)⟩
        rw [lend_off]
        · exact q4
        · intro z
          obtain ⟨u, hu⟩ := f0.own_some (A.ow p z.own)
          exact absurd q2 (hs p (by rw [hu]; simp))
    refine ⟨.cons hd i1 fun o eo j o' h1 h2 => ?_, fun p hp => ?_⟩
    · obtain ⟨p, q1, q2⟩ := d o (by rw [eo])
      exact absurd (i2 p ⟨j, o', h1, by rw [h2, q1]⟩).1 q2
    · obtain ⟨i, o, h1, h2⟩ := hp
      cases i with
      | zero =>
        simp at h1 h2
        subst h1
        obtain ⟨q, ho, q1, q2, q3, q4, q5⟩ := a
        rw [h2] at q1; cases q1
        exact ⟨q2, by rw [q3]; simp⟩
      | succ i =>
        obtain ⟨z1, z2⟩ := i2 p ⟨i, o, by simpa using h1, by simpa using h2⟩
        refine ⟨?_, z2⟩
        cases z : Hs p with
        | none => rfl
        | some u => exact absurd z1 (c p (by rw [z]; simp))
  | .plc j :: rs, v :: vs, Hs, as, hm, hs, .cons (H1 := Hn) a b c d, e => by
    simp only [passB] at e
    split at e
    · rename_i s0 hs0
      simp only [Option.bind_eq_some_iff] at e
      obtain ⟨ss, e1, e2⟩ := e
      cases e2
      obtain ⟨i1, i2⟩ := passB_ok f0 A hall (rs := rs) (fun r hr => hm r (List.mem_cons_of_mem _ hr)) (fun p h => c p (hs p h)) b e1
      have hd : Rep k (lendF (Lent ρ1 σ all) F1 H1) v s0.d := by
        obtain ⟨q1, _⟩ := a
        cases s0 with
        | val dd =>
          obtain ⟨v', r1, r2⟩ := A.fr.vals j dd hs0
          rw [q1] at r1; cases r1
          exact r2.mono (lend_sub A.fr)
        | own o =>
          obtain ⟨p, ho, r1, r2, r3, r4⟩ := A.fr.owns j o hs0
          rw [q1] at r1; cases r1
          exact RepO.rep (r4.mono (lend_sub A.fr)) ⟨_, (by rw [lend_at ⟨j, o, hm _ List.mem_cons_self, hs0, q1⟩]; exact r2), rfl⟩
      refine ⟨.cons hd i1 (fun o eo => nomatch eo), fun p hp => ?_⟩
      obtain ⟨i, o, h1, h2⟩ := hp
      cases i with
      | zero => simp at h1
      | succ i =>
        obtain ⟨z1, z2⟩ := i2 p ⟨i, o, by simpa using h1, by simpa using h2⟩
        refine ⟨?_, z2⟩
        cases z : Hs p with
        | none => rfl
        | some u => exact absurd z1 (c p (by rw [z]; simp))
    · cases e
end
end Pv

/-! Pva: a def called: the simulation. -/
namespace Pv
open PySem PySem.Spec PySem.SeqAt L2
section
variable {k : Kx} {ρ ρ1 : Rho} {σ : L2.St} {F H F1 H1 F' H' : Hp} {rs : List Rv} {vs : List V}
theorem unl_off {B : Addr → Prop} {p : Addr} (h : ¬ B p) : unlF B F p = F p := by unfold unlF; rw [if_neg h]
theorem unl_at {B : Addr → Prop} {p : Addr} (h : B p) : unlF B F p = none := by unfold unlF; rw [if_pos h]
theorem unl_sub {B : Addr → Prop} : Sub (unlF B F) F := fun a o e => by
  unfold unlF at e
  split at e
  · cases e
  · exact ⟨_, e, rfl⟩
theorem backL (f1 : FR k F1 ρ1 σ H1) {I : Addr → Prop} (sb : Sub F' H') (tr : Tr I (lendF (Lent ρ1 σ rs) F1 H1) H1 F' H') (hI : ∀ p, I p → ¬ Own ρ1 σ p ∨ ∃ j o, Rv.plc j ∉ rs ∧ ρ1[j]? = some (some (.own o)) ∧ σ[j]? = some (some (.ref p))) {ρ2 : Rho} {F2 : Hp}
    (hF : (F2 = unlF (Lent ρ1 σ rs) F' ∧ ρ2 = ρ1) ∨ (F2 = F' ∧ ρ2 = frAll ρ1 rs)) :
    Sub F2 H' ∧ Sub F1 F2 ∧ ρ2.length = σ.length ∧ Sls ρ1 ρ2 ∧ (∀ (i : Nat) (d : D), ρ2[i]? = some (some (.val d)) → ∃ v, σ[i]? = some (some v) ∧ Rep k F2 v d) ∧
    (∀ (i : Nat) (o : OB), ρ2[i]? = some (some (.own o)) → ρ1[i]? = some (some (.own o)) ∧ ∃ p ho, σ[i]? = some (some (.ref p)) ∧ (¬ I p → H' p = some ho ∧ F2 p = none ∧ RepO k F2 p o ho)) ∧
    (∀ p o, H1 p = some o → ¬ I p → H' p = some o) ∧ (∀ p o, H1 p = some o → NoT o → F1 p = none → ¬ I p → ¬ Own ρ1 σ p → F2 p = none) := by
  have nI : ∀ p, Lent ρ1 σ rs p → ¬ I p := fun p h z => by
    rcases hI p z with n | ⟨j, o, h1, h2, h3⟩
    · exact n h.own
    · obtain ⟨j', o', q1, q2, q3⟩ := h
      have := f1.dist j j' o o' p h2 q2 h3 q3
      subst this
      exact h1 q1
  have s1 : Sub F1 F' := (lend_sub f1).trans tr.sub
  rcases hF with ⟨rfl, rfl⟩ | ⟨rfl, rfl⟩
  · have s2 : Sub F1 (unlF (Lent ρ2 σ rs) F') := fun a o e => by
      rw [unl_off]
      · exact s1 a o e
      · intro z
        rw [f1.own_none z.own] at e; cases e
    refine ⟨unl_sub.trans sb, s2, f1.len, fun i s h => ⟨s, h⟩, fun i d h => ?_, fun i o h => ⟨h, ?_⟩, tr.keep, fun p o h1 m h2 h3 h4 => ?_⟩
    · obtain ⟨v, e, r⟩ := f1.vals i d h
      exact ⟨v, e, r.mono s2⟩
    · obtain ⟨p, ho, e1, e2, e3, e4⟩ := f1.owns i o h
      refine ⟨p, ho, e1, fun n => ⟨tr.keep p ho e2 n, ?_, e4.mono s2⟩⟩
      by_cases z : Lent ρ2 σ rs p
      · exact unl_at z
      · rw [unl_off z]
        exact tr.new p ho e2 e4.nt (by rw [lend_off z]; exact e3) n
    · have z : ¬ Lent ρ2 σ rs p := fun z => h4 z.own
      rw [unl_off z]
      exact tr.new p o h1 m (by rw [lend_off z]; exact h2) h3
  · refine ⟨sb, s1, by rw [frAll_len]; exact f1.len, frAll_sls, fun i d h => ?_, fun i o h => ?_, tr.keep, fun p o h1 m h2 h3 h4 => ?_⟩
    · rcases frAll_get h with ⟨h1, _⟩ | ⟨o, h1, h2, h3⟩
      · obtain ⟨v, e, r⟩ := f1.vals i d h1
        exact ⟨v, e, r.mono s1⟩
      · cases h3
        obtain ⟨p, ho, e1, e2, e3, e4⟩ := f1.owns i o h2
        refine ⟨.ref p, e1, RepO.rep (e4.mono s1) ?_⟩
        exact tr.sub p ho (by rw [lend_at ⟨i, o, h1, h2, e1⟩]; exact e2)
    · rcases frAll_get h with ⟨h1, h2⟩ | ⟨o', h1, h2, h3⟩
      · obtain ⟨p, ho, e1, e2, e3, e4⟩ := f1.owns i o h1
        refine ⟨h1, p, ho, e1, fun n => ⟨tr.keep p ho e2 n, ?_, e4.mono s1⟩⟩
        have z : ¬ Lent ρ1 σ rs p := fun ⟨j, o', q1, q2, q3⟩ => by
          have := f1.dist i j o o' p h1 q2 e1 q3
          subst this
          exact h2 o rfl q1
        exact tr.new p ho e2 e4.nt (by rw [lend_off z]; exact e3) n
      · cases h3
    · have z : ¬ Lent ρ1 σ rs p := fun z => h4 z.own
      exact tr.new p o h1 m (by rw [lend_off z]; exact h2) h3
theorem Lent.lstF (f1 : FR k F1 ρ1 σ H1) {I : Addr → Prop} (tr : Tr I (lendF (Lent ρ1 σ rs) F1 H1) H1 F' H') : ∀ p, Lent ρ1 σ rs p → ∃ o, F' p = some o ∧ Mu o := fun p h => by
  obtain ⟨ws, e, m⟩ := h.lst f1
  exact Mu.sub tr.sub (show lendF (Lent ρ1 σ rs) F1 H1 p = some ws by rw [lend_at h]; exact e) m
theorem nlS_del {B : Addr → Prop} (hB : ∀ a, B a → ∃ o, F' a = some o ∧ Mu o) {A : Addr → Prop} {s : SV} {v : V} (h : nlS s = true) (r : ResR k A H F' H' s v) : ResR k A H (unlF B F') H' s v := by
  cases s with
  | val d => exact nl_del hB (fun a z => unl_off z) h r
  | own o =>
    cases o with
    | lst xs =>
      obtain ⟨p, ho, e1, e2, e3, e4, ws, rfl, r⟩ := r
      refine ⟨p, _, e1, e2, e3, ?_, ws, rfl, nlAll_del hB (fun a z => unl_off z) h r⟩
      by_cases z : B p
      · exact unl_at z
      · rw [unl_off z]; exact e4
    | dct t ks ds => simp [nlS] at h
    | dcn ks ds => simp [nlS] at h
    | ins c fs =>
      obtain ⟨p, ho, e1, e2, e3, e4, C, ns, dx, vs, q1, rfl, q3, q4, r⟩ := r
      refine ⟨p, _, e1, e2, e3, ?_, C, ns, dx, vs, q1, rfl, ?_, q4, nlAll_del hB (fun a z => unl_off z) h r⟩
      · by_cases z : B p
        · exact unl_at z
        · rw [unl_off z]; exact e4
      · rw [unl_off]
        · exact q3
        · intro z
          obtain ⟨o, y1, y2⟩ := hB dx z
          rw [q3] at y1; cases y1; exact y2
theorem nlA_del {B : Addr → Prop} (hB : ∀ a, B a → ∃ o, F' a = some o ∧ Mu o) {s : SV} {v : V} (h : nlS s = true) (r : ArgR k F' H' s v) : ArgR k (unlF B F') H' s v := by
  cases s with
  | val d => exact nl_del hB (fun a z => unl_off z) h r
  | own o =>
    cases o with
    | lst xs =>
      obtain ⟨p, ho, e1, e3, e4, ws, rfl, r⟩ := r
      refine ⟨p, _, e1, e3, ?_, ws, rfl, nlAll_del hB (fun a z => unl_off z) h r⟩
      by_cases z : B p
      · exact unl_at z
      · rw [unl_off z]; exact e4
    | dct t ks ds => simp [nlS] at h
    | dcn ks ds => simp [nlS] at h
    | ins c fs =>
      obtain ⟨p, ho, e1, e3, e4, C, ns, dx, vs, q1, rfl, q3, q4, r⟩ := r
      refine ⟨p, _, e1, e3, ?_, C, ns, dx, vs, q1, rfl, ?_, q4, nlAll_del hB (fun a z => unl_off z) h r⟩
      · by_cases z : B p
        · exact unl_at z
        · rw [unl_off z]; exact e4
      · rw [unl_off]
        · exact q3
        · intro z
          obtain ⟨o, y1, y2⟩ := hB dx z
          rw [q3] at y1; cases y1; exact y2
end
theorem simCallL {k : Kx} {io : Bool} {np : Nat} {cm : CM} {E : XK} {ta : TA} {ma : AM} (ha : SimA k ta ma) : SimE k (tCall (spF k io np cm) [] E ta) (evCallL np cm ma) := by
  intro F ρ σ H Q f h
  unfold evCallL at h
  refine ha F ρ σ H _ f ((wpo_bind.mp h).mono fun a _ h => ?_)
  intro vs F1 H1 A1 R1
  have h := wpo_bind.mp h
  cases e1 : passB a.2 a.1 with
  | none => rw [e1] at h; exact h.elim
  | some as =>
    rw [e1] at h
    have h : wpo (if as.length = np then (cm as).bind fun x => some (Rv.sv x.1, if nlS x.1 = true then a.2 else frAll a.2 a.1) else none) _ := h
    obtain ⟨ar, ao⟩ := passB_ok (all := a.1) (rs := a.1) f A1 (fun _ z => z) (fun _ z => z) (fun _ z => z) R1 e1
    split at h
    · rename_i hl
      have el := ar.len
      refine ⟨_, as, lend_in A1.fr, by rw [List.append_nil]; exact ar, by rw [List.append_nil]; omega, (wpo_bind.mp h).mono fun x _ h => ?_⟩
      intro v F' H' sb tr rr _
      rw [List.append_nil] at tr rr
      have hI : ∀ p, ArgOwn as vs p → ¬ Own a.2 σ p := fun p z o => by
        obtain ⟨u, hu⟩ := f.own_some (A1.ow p o)
        rw [(ao p z).1] at hu; cases hu
      have hI' : ∀ p, ArgOwn as vs p → ¬ Own a.2 σ p ∨ ∃ j o, Rv.plc j ∉ a.1 ∧ a.2[j]? = some (some (.own o)) ∧ σ[j]? = some (some (.ref p)) := fun p z => .inl (hI p z)
      have fin : ∀ {ρ2 : Rho} {F2 : Hp}, ((F2 = unlF (Lent a.2 σ a.1) F' ∧ ρ2 = a.2) ∨ (F2 = F' ∧ ρ2 = frAll a.2 a.1)) → Aft k ρ σ F H ρ2 F2 H' := fun {ρ2 F2} hF => by
        obtain ⟨b1, b2, b3, b4, b5, b6, b7, b8⟩ := backL A1.fr sb tr hI' hF
        have ow : ∀ p, Own ρ2 σ p → Own a.2 σ p := fun p ⟨i, o, q1, q2⟩ => ⟨i, o, (b6 i o q1).1, q2⟩
        refine ⟨⟨b1, b3, b5, fun i o q => ?_, fun i j o o' p q1 q2 q3 q4 => A1.fr.dist i j o o' p (b6 i o q1).1 (b6 j o' q2).1 q3 q4⟩, ⟨A1.tr.sub.trans b2, fun p o q n => ?_, fun p o q m n n2 => ?_, fun p o q => ?_⟩, fun p z => A1.ow p (ow p z), fun i s q => let ⟨s', q'⟩ := A1.sl i s q; b4 i s' q'⟩
        · obtain ⟨q0, p, ho, q1, q2⟩ := b6 i o q
          obtain ⟨q3, q4, q5⟩ := q2 fun z => hI p z ⟨i, o, q0, q1⟩
          exact ⟨p, ho, q1, q3, q4, q5⟩
        · exact b7 p o (A1.tr.keep p o q n) fun z => by rw [(ao p z).1] at q; cases q
        · exact b8 p o (A1.tr.keep p o q n2) m (A1.tr.new p o q m n n2) (fun z => by rw [(ao p z).1] at q; cases q) fun z => n2 (A1.ow p z)
        · obtain ⟨o', q'⟩ := A1.tr.there p o q
          exact tr.there p o' q'
      have res : ∀ {ρ2 : Rho} {F2 : Hp}, ResR k (ArgGiv io as vs) H1 F2 H' x.1 v → RR k H F2 ρ2 σ H' (.sv x.1) v := fun {ρ2 F2} rr => by
        cases hx : x.1 with
        | val d => rw [hx] at rr; exact rr
        | own o =>
          rw [hx] at rr
          obtain ⟨p, ho, q1, q2, q3⟩ := rr
          refine ⟨p, ho, q1, ?_, q3⟩
          rcases q2 with q2 | ⟨i, o', _, q4, q5⟩
          · exact A1.none_of q2
          · exact (ao p ⟨i, o', q4, q5⟩).1
      by_cases hn : nlS x.1 = true
      · have h := h v (unlF (Lent a.2 σ a.1) F') H'
        simp only [if_pos hn] at h
        exact h (fin (.inl ⟨rfl, rfl⟩)) (res (nlS_del (Lent.lstF A1.fr tr) hn rr))
      · have h := h v F' H'
        simp only [if_neg hn] at h
        exact h (fin (.inr ⟨rfl, rfl⟩)) (res rr)
    · exact h.elim
theorem simCallI {k : Kx} {np : Nat} {cm : CM} {E : XK} {ta : TA} {ma : AM} (ha : SimA k ta ma) : SimE k (tCall (spF k true np cm) [] E ta) (evCallI np cm ma) := by
  intro F ρ σ H Q f h
  unfold evCallI at h
  refine ha F ρ σ H _ f ((wpo_bind.mp h).mono fun a _ h => ?_)
  intro vs F1 H1 A1 R1
  obtain ⟨al, ρ1⟩ := a
  dsimp only at h A1 R1
  match al, h, R1 with
  | [], h, _ => exact h.elim
  | .sv _ :: _, h, _ => exact h.elim
  | .plc j :: rs, h, R1 =>
    dsimp only at h
    split at h
    · rename_i o hj
      split at h
      · exact h.elim
      · rename_i njp
        have nj : Rv.plc j ∉ rs := fun z => njp (mem_plcs.mpr z)
        match vs, R1 with
        | v0 :: vs, .cons (H1 := Hn) r0 R1 c d =>
          obtain ⟨q1, _⟩ := r0
          obtain ⟨p0, ho, e1, e2, e3, e4⟩ := A1.fr.owns j o hj
          rw [q1] at e1; cases e1
          have op0 : Own ρ1 σ p0 := ⟨j, o, hj, q1⟩
          have h := wpo_bind.mp h
          cases eb : passB ρ1 rs with
          | none => rw [eb] at h; exact h.elim
          | some as =>
            rw [eb] at h
            have h : wpo (if as.length + 1 = np then (cm (.own o :: as)).bind fun x => some (Rv.sv x.1, List.set (if (nlS x.1 && nlS x.2) = true then ρ1 else frAll ρ1 rs) j (some x.2)) else none) _ := h
            obtain ⟨ar, ao⟩ := passB_ok (all := rs) (rs := rs) f A1 (fun _ z => z) (fun _ z => z) c R1 eb
            have aoH : ∀ p, ArgOwn as vs p → H p = none := fun p z => by
              cases y : H p with
              | none => rfl
              | some u => exact absurd (ao p z).1 (c p (by rw [y]; simp))
            have nl0 : ¬ Lent ρ1 σ rs p0 := fun ⟨j', o', z1, z2, z3⟩ => by
              have := A1.fr.dist j j' o o' p0 hj z2 q1 z3
              subst this
              exact nj z1
            have n0 : ¬ ArgOwn as vs p0 := fun z => by
              obtain ⟨u, hu⟩ := f.own_some (A1.ow p0 op0)
              rw [aoH p0 z] at hu; cases hu
            have AO : ∀ p, ArgOwn (.own o :: as) (.ref p0 :: vs) p → p = p0 ∨ ArgOwn as vs p := fun p ⟨i, o', z1, z2⟩ => by
              cases i with
              | zero => simp at z2; exact .inl z2.symm
              | succ i => exact .inr ⟨i, o', by simpa using z1, by simpa using z2⟩
            split at h
            · rename_i hl
              have el := ar.len
              refine ⟨lendF (Lent ρ1 σ rs) F1 H1, .own o :: as, lend_in A1.fr, ?_, ?_, (wpo_bind.mp h).mono fun x _ h => ?_⟩
              · rw [List.append_nil]
                exact .cons ⟨p0, ho, rfl, e2, by rw [lend_off nl0]; exact e3, e4.mono (lend_sub A1.fr)⟩ ar fun o1 _ i o' z1 z2 => n0 ⟨i, o', z1, z2⟩
              · rw [List.append_nil, List.length_cons]; omega
              intro v F' H' sb tr rr outs
              rw [List.append_nil] at tr rr outs
              obtain ⟨u, hu, ou⟩ := outs rfl
              simp at hu
              subst hu
              have hI : ∀ p, ArgOwn (.own o :: as) (.ref p0 :: vs) p → ¬ Own ρ1 σ p ∨ ∃ j o, Rv.plc j ∉ rs ∧ ρ1[j]? = some (some (.own o)) ∧ σ[j]? = some (some (.ref p)) := fun p z => by
                rcases AO p z with rfl | z
                · exact .inr ⟨j, o, nj, hj, q1⟩
                · refine .inl fun w => ?_
                  obtain ⟨u, hu⟩ := f.own_some (A1.ow p w)
                  rw [aoH p z] at hu; cases hu
              have fin : ∀ {ρ2 : Rho} {F2 : Hp}, ArgR k F2 H' x.2 (.ref p0) → ((F2 = unlF (Lent ρ1 σ rs) F' ∧ ρ2 = ρ1) ∨ (F2 = F' ∧ ρ2 = frAll ρ1 rs)) → Aft k ρ σ F H (ρ2.set j (some x.2)) F2 H' := fun {ρ2 F2} ou hF => by
                obtain ⟨b1, b2, b3, b4, b5, b6, b7, b8⟩ := backL A1.fr sb tr hI hF
                have own2 : ∀ (i : Nat) (o' : OB), (ρ2.set j (some x.2))[i]? = some (some (.own o')) → ∃ o1, ρ1[i]? = some (some (.own o1)) := fun i o' z => by
                  rcases set_get z with ⟨rfl, _, _⟩ | ⟨_, z⟩
                  · exact ⟨o, hj⟩
                  · exact ⟨o', (b6 i o' z).1⟩
                have ow : ∀ p, Own (ρ2.set j (some x.2)) σ p → Own ρ1 σ p := fun p ⟨i, o', z1, z2⟩ => let ⟨o1, z3⟩ := own2 i o' z1; ⟨i, o1, z3, z2⟩
                have nI : ∀ p, (∃ i o', i ≠ j ∧ ρ1[i]? = some (some (.own o')) ∧ σ[i]? = some (some (.ref p))) → ¬ ArgOwn (.own o :: as) (.ref p0 :: vs) p := fun p ⟨i, o', ni, z1, z2⟩ z => by
                  rcases AO p z with rfl | z
                  · exact ni (A1.fr.dist i j o' o p z1 hj z2 q1)
                  · obtain ⟨u, hu⟩ := f.own_some (A1.ow p ⟨i, o', z1, z2⟩)
                    rw [aoH p z] at hu; cases hu
                refine ⟨⟨b1, by simpa using b3, fun i dd q => ?_, fun i o' q => ?_, fun i i' o1 o2 p z1 z2 z3 z4 => ?_⟩, ⟨A1.tr.sub.trans b2, fun p o' q n => ?_, fun p o' q m n n2 => ?_, fun p o' q => ?_⟩, fun p z => A1.ow p (ow p z), fun i s q => ?_⟩
                · rcases set_get q with ⟨rfl, z, _⟩ | ⟨_, z⟩
                  · cases z2 : x.2 with
                    | val d' =>
                      rw [z2] at z ou; cases z
                      exact ⟨_, q1, ou⟩
                    | own o' => rw [z2] at z; cases z
                  · exact b5 i dd z
                · rcases set_get q with ⟨rfl, z, _⟩ | ⟨ni, z⟩
                  · cases z2 : x.2 with
                    | val d' => rw [z2] at z; cases z
                    | own o1 =>
                      rw [z2] at z ou; cases z
                      obtain ⟨p, ho', y1, y2, y3, y4⟩ := ou
                      cases y1
                      exact ⟨p0, ho', q1, y2, y3, y4⟩
                  · obtain ⟨z0, p, ho', z1, z2⟩ := b6 i o' z
                    obtain ⟨y1, y2, y3⟩ := z2 (nI p ⟨i, o', ni, z0, z1⟩)
                    exact ⟨p, ho', z1, y1, y2, y3⟩
                · obtain ⟨_, y1⟩ := own2 i o1 z1
                  obtain ⟨_, y2⟩ := own2 i' o2 z2
                  exact A1.fr.dist i i' _ _ p y1 y2 z3 z4
                · exact b7 p o' (A1.tr.keep p o' q n) fun z => by
                    rcases AO p z with rfl | z
                    · exact n (A1.ow p op0)
                    · rw [aoH p z] at q; cases q
                · exact b8 p o' (A1.tr.keep p o' q n2) m (A1.tr.new p o' q m n n2) (fun z => by
                    rcases AO p z with rfl | z
                    · exact n2 (A1.ow p op0)
                    · rw [aoH p z] at q; cases q) fun z => n2 (A1.ow p z)
                · obtain ⟨o1, q'⟩ := A1.tr.there p o' q
                  exact tr.there p o1 q'
                · obtain ⟨s1, q1'⟩ := A1.sl i s q
                  obtain ⟨s2, q2⟩ := b4 i s1 q1'
                  by_cases ei : i = j
                  · subst ei
                    exact ⟨x.2, List.getElem?_set_self (List.getElem?_eq_some_iff.mp q2).1⟩
                  · exact ⟨s2, by rw [get_set (Ne.symm ei)]; exact q2⟩
              have res : ∀ {ρ2 : Rho} {F2 : Hp}, ResR k (ArgGiv true (.own o :: as) (.ref p0 :: vs)) H1 F2 H' x.1 v → RR k H F2 ρ2 σ H' (.sv x.1) v := fun {ρ2 F2} rr => by
                cases hx : x.1 with
                | val d => rw [hx] at rr; exact rr
                | own o1 =>
                  rw [hx] at rr
                  obtain ⟨p, ho', q1, q2, q3⟩ := rr
                  refine ⟨p, ho', q1, ?_, q3⟩
                  rcases q2 with q2 | ⟨i, o', q6, q4, q5⟩
                  · exact A1.none_of q2
                  · cases i with
                    | zero => exact absurd rfl (q6 rfl)
                    | succ i => exact aoH p ⟨i, o', by simpa using q4, by simpa using q5⟩
              by_cases hn : (nlS x.1 && nlS x.2) = true
              · have hn' := Bool.and_eq_true_iff.mp hn
                have h := h v (unlF (Lent ρ1 σ rs) F') H'
                simp only [if_pos hn] at h
                exact h (fin (nlA_del (Lent.lstF A1.fr tr) hn'.2 ou) (.inl ⟨rfl, rfl⟩)) (res (nlS_del (Lent.lstF A1.fr tr) hn'.1 rr))
              · have h := h v F' H'
                simp only [if_neg hn] at h
                exact h (fin ou (.inr ⟨rfl, rfl⟩)) (res rr)
            · exact h.elim
    · exact h.elim
end Pv

/-! Pvb: built-in functions. -/
namespace Pv
open PySem PySem.Spec PySem.SeqAt L2

theorem RdRs.one {k : Kx} {F H : Hp} {vs : List V} {d : D} (h : RdRs k F H vs [d]) : ∃ v, vs = [v] ∧ RdR k F H v d := by
  cases h with
  | cons a b => cases b; exact ⟨_, rfl, a⟩
theorem RdRs.two {k : Kx} {F H : Hp} {vs : List V} {d e : D} (h : RdRs k F H vs [d, e]) : ∃ v u, vs = [v, u] ∧ RdR k F H v d ∧ RdR k F H u e := by
  cases h with
  | cons a b =>
    obtain ⟨u, rfl, r⟩ := b.one
    exact ⟨_, u, rfl, a, r⟩
/-! len -/
def gLen : List D → Option SV
  | [.list xs] => some (.val (.int xs.length))
  | [.tuple xs] => some (.val (.int xs.length))
  | [.dict [(.bool true, .list xs)]] => some (.val (.int xs.length))
  | [.dict [(.bool true, .tuple xs)]] => some (.val (.int xs.length))
  | [.str x] => if x.length ≤ sizeLine then some (.val (.int x.length)) else none
  | _ => none
def rLenS (K : PySem.W.Frag) : List V → Hp → VK → Prop := fun xs H Q => (∃ p ys, xs = [.ref p] ∧ (SqL K H p ys ∨ SqT K H p ys) ∧ Q (.int ys.length) H) ∨ (∃ z, xs = [.str z] ∧ z.length ≤ sizeLine ∧ Q (.int z.length) H)
theorem cr_lenS {X : Cx} : CallR X (.builtin "len") (rLenS X.K) := call_len_seq.or call_len_str
theorem simLen {k : Kx} : CallSim k (rLenS k.K) gLen := by
  intro F ρ σ H vs ds Q f rd h
  unfold gLen at h
  split at h
  · obtain ⟨v, rfl, r⟩ := rd.one
    obtain ⟨a, ws, rfl, ha, rl⟩ := r.lst f.sub
    exact .inl ⟨a, ws, rfl, .inl (.inl (.inl ha)), by rw [rl.length]; exact h _ F H (Aft.refl f) (.int _)⟩
  · obtain ⟨v, rfl, r⟩ := rd.one
    obtain ⟨a, ws, rfl, _, ha, rl⟩ := r.tup f.sub
    exact .inl ⟨a, ws, rfl, .inr ha, by rw [rl.length]; exact h _ F H (Aft.refl f) (.int _)⟩
  · obtain ⟨v, rfl, r⟩ := rd.one
    obtain ⟨a, ws, rfl, ha, rl⟩ := r.fls f.sub
    exact .inl ⟨a, ws, rfl, .inl ha, by rw [rl.length]; exact h _ F H (Aft.refl f) (.int _)⟩
  · obtain ⟨v, rfl, r⟩ := rd.one
    obtain ⟨a, ws, rfl, _, ha, rl⟩ := r.xtp f.sub
    exact .inl ⟨a, ws, rfl, .inr ha, by rw [rl.length]; exact h _ F H (Aft.refl f) (.int _)⟩
  · obtain ⟨v, rfl, r⟩ := rd.one
    split at h
    · rename_i hz
      rw [r.str]
      exact .inr ⟨_, rfl, hz, h _ F H (Aft.refl f) (.int _)⟩
    · exact h.elim
  · exact h.elim
/-! int -/
def gInt : List D → Option SV
  | [.int i] => some (.val (.int i))
  | [.bool b] => some (.val (.int (if b then 1 else 0)))
  | _ => none
def rInt1 : List V → Hp → VK → Prop := fun xs H Q => (∃ i, xs = [.int i] ∧ Q (.int i) H) ∨ ∃ k, xs = [.bl k] ∧ Q (.int (if k then 1 else 0)) H
theorem simInt {k : Kx} : CallSim k rInt1 gInt := by
  intro F ρ σ H vs ds Q f rd h
  unfold gInt at h
  split at h
  · obtain ⟨v, rfl, r⟩ := rd.one
    rw [r.int]
    exact .inl ⟨_, rfl, h _ F H (Aft.refl f) (.int _)⟩
  · obtain ⟨v, rfl, r⟩ := rd.one
    rw [r.bl]
    exact .inr ⟨_, rfl, h _ F H (Aft.refl f) (.int _)⟩
  · exact h.elim
/-! list, tuple -/
def gList (ds : List D) : Option SV := match ds with
  | [d] => (seqD d).map fun xs => .own (.lst xs)
  | _ => none
def rListOf (K : PySem.W.Frag) : List V → Hp → VK → Prop := fun xs H Q => ∃ p ys, xs = [.ref p] ∧ (SqL K H p ys ∨ SqT K H p ys) ∧ ∀ l, H l = none → Q (.ref l) (upd H l (.lst ys))
theorem RdR.seq {k : Kx} {F H : Hp} {v : V} {d : D} {xs : List D} (s : Sub F H) (r : RdR k F H v d) (e : seqD d = some xs) : ∃ a vs, v = .ref a ∧ (SqL k.K H a vs ∨ SqT k.K H a vs) ∧ RepL k F vs xs := by
  unfold seqD at e
  split at e
  · cases e
    obtain ⟨a, ws, rfl, ha, rl⟩ := r.lst s
    exact ⟨a, ws, rfl, .inl (.inl (.inl ha)), rl⟩
  · cases e
    obtain ⟨a, ws, rfl, _, ha, rl⟩ := r.tup s
    exact ⟨a, ws, rfl, .inr ha, rl⟩
  · cases e
    obtain ⟨a, ws, rfl, ha, rl⟩ := r.fls s
    exact ⟨a, ws, rfl, .inl ha, rl⟩
  · cases e
    obtain ⟨a, ws, rfl, _, ha, rl⟩ := r.xtp s
    exact ⟨a, ws, rfl, .inr ha, rl⟩
  · cases e
theorem simList {k : Kx} : CallSim k (rListOf k.K) gList := by
  intro F ρ σ H vs ds Q f rd h
  unfold gList at h
  split at h
  · rename_i d
    obtain ⟨v, rfl, r⟩ := rd.one
    cases e : seqD d with
    | none => rw [e] at h; exact h.elim
    | some xs =>
      rw [e] at h
      obtain ⟨a, ws, rfl, ha, rl⟩ := r.seq f.sub e
      exact ⟨a, ws, rfl, ha, fun l hl => h _ F _ (Aft.newO f hl) ⟨l, _, rfl, hl, upd_same, f.sub.none_of hl, _, rfl, rl⟩⟩
  · exact h.elim
def gTuple : List D → Option SV
  | [.list xs] => some (.val (.tuple xs))
  | [.tuple xs] => some (.val (.tuple xs))
  | _ => none
def rTupleOf (K : PySem.W.Frag) : List V → Hp → VK → Prop := fun xs H Q => ∃ p ys, xs = [.ref p] ∧ ((SqL K H p ys ∧ ∀ l, H l = none → Q (.ref l) (upd H l (.tup ys))) ∨ (SqT K H p ys ∧ Q (.ref p) H))
theorem simTuple {k : Kx} : CallSim k (rTupleOf k.K) gTuple := by
  intro F ρ σ H vs ds Q f rd h
  unfold gTuple at h
  split at h
  · obtain ⟨v, rfl, r⟩ := rd.one
    obtain ⟨a, ws, rfl, ha, rl⟩ := r.lst f.sub
    exact ⟨a, ws, rfl, .inl ⟨.inl (.inl ha), fun l hl => h _ _ _ (Aft.newF f hl) (Rep.tup upd_same (rl.mono (Sub.upd (f.sub.none_of hl))))⟩⟩
  · obtain ⟨v, rfl, r⟩ := rd.one
    obtain ⟨a, ws, rfl, ha', ha, rl⟩ := r.tup f.sub
    exact ⟨a, ws, rfl, .inr ⟨ha, h _ F H (Aft.refl f) (Rep.tup ha' rl)⟩⟩
  · exact h.elim
/-! sum, all, any -/
def intsD : List D → Option (List Int)
  | [] => some []
  | .int i :: r => (intsD r).map (i :: ·)
  | _ => none
def boolsD : List D → Option (List Bool)
  | [] => some []
  | .bool i :: r => (boolsD r).map (i :: ·)
  | _ => none
theorem RepL.ints {k : Kx} {F : Hp} : ∀ {vs : List V} {ds : List D} {ns : List Int}, RepL k F vs ds → intsD ds = some ns → vs = ns.map V.int
  | _, _, _, .nil, e => by simp [intsD] at e; subst e; rfl
  | _, .int i :: _, _, .cons a b, e => by
    simp only [intsD, Option.map_eq_some_iff] at e
    obtain ⟨ms, e1, rfl⟩ := e
    cases a
    rw [b.ints e1]; rfl
theorem RepL.bools {k : Kx} {F : Hp} : ∀ {vs : List V} {ds : List D} {ns : List Bool}, RepL k F vs ds → boolsD ds = some ns → vs = ns.map V.bl
  | _, _, _, .nil, e => by simp [boolsD] at e; subst e; rfl
  | _, .bool i :: _, _, .cons a b, e => by
    simp only [boolsD, Option.map_eq_some_iff] at e
    obtain ⟨ms, e1, rfl⟩ := e
    cases a
    rw [b.bools e1]; rfl
def gSum : List D → Option SV
  | [.list xs] => (intsD xs).map fun ns => .val (.int ns.sum)
  | _ => none
def gAll : List D → Option SV
  | [.list xs] => (boolsD xs).map fun ns => .val (.bool (ns.all id))
  | _ => none
theorem simSum {k : Kx} : CallSim k (rSum k.K) gSum := by
  intro F ρ σ H vs ds Q f rd h
  unfold gSum at h
  split at h
  · rename_i xs
    obtain ⟨v, rfl, r⟩ := rd.one
    obtain ⟨a, ws, rfl, ha, rl⟩ := r.lst f.sub
    cases e : intsD xs with
    | none => rw [e] at h; exact h.elim
    | some ns =>
      rw [e] at h
      exact ⟨a, ns, rfl, by rw [← rl.ints e]; exact .inl (.inl ha), h _ F H (Aft.refl f) (.int _)⟩
  · exact h.elim
theorem simAll {k : Kx} : CallSim k (rAll k.K) gAll := by
  intro F ρ σ H vs ds Q f rd h
  unfold gAll at h
  split at h
  · rename_i xs
    obtain ⟨v, rfl, r⟩ := rd.one
    obtain ⟨a, ws, rfl, ha, rl⟩ := r.lst f.sub
    cases e : boolsD xs with
    | none => rw [e] at h; exact h.elim
    | some ns =>
      rw [e] at h
      exact ⟨a, ns, rfl, by rw [← rl.bools e]; exact .inl (.inl ha), h _ F H (Aft.refl f) (.bl _)⟩
  · exact h.elim
/-! max, min of data; of two ints -/
def rMM (K : PySem.W.Frag) (g : D → List D → D) : List V → Hp → VK → Prop := fun vs H Q => ∃ (a : Addr) (ws : List V) (x : D) (xs : List D), vs = [.ref a] ∧ SqL K H a ws ∧ DpAll K H ws (x :: xs) ∧ PySem.W.AlikeAll (x :: xs) ∧ PyData.depthAll (x :: xs) ≤ 100 ∧
  ∀ (i : Nat) (v : V), ws[i]? = some v → (x :: xs)[i]? = some (g x xs) → Q v H
def allAlike (ds : List D) : Bool := ds.all (fun x => ds.all fun y => PySem.W.alike x y) && ds.all fun x => (match x with | .none => false | _ => true)
theorem allAlike_ok {ds : List D} (h : allAlike ds = true) : PySem.W.AlikeAll ds := by
  simp only [allAlike, Bool.and_eq_true, List.all_eq_true] at h
  exact ⟨fun x hx y hy => h.1 x hx y hy, fun x hx e => by subst e; have := h.2 _ hx; simp at this⟩
theorem reads_eq {h : Heap} {v : Value} {d e : D} {as bs : List Addr} (pd : d.plain = true) (pe : e.plain = true) (r1 : Reads h v d as) (r2 : Reads h v e bs) : d = e := by
  rw [← readOf_plain pd r1, readOf_plain pe r2]
theorem plainMem : ∀ {xs : List D} {x : D}, PyData.plainAll xs = true → x ∈ xs → x.plain = true
  | y :: ys, x, h, hx => by
    simp only [PyData.plainAll, Bool.and_eq_true] at h
    rcases List.mem_cons.mp hx with rfl | hx
    · exact h.1
    · exact plainMem h.2 hx
theorem maxD_mem (x : D) : ∀ xs : List D, PySem.W.maxD x xs ∈ x :: xs := by
  intro xs
  unfold PySem.W.maxD
  induction xs generalizing x with
  | nil => simp
  | cons y r ih =>
    simp only [List.foldl_cons]
    split
    · exact List.mem_cons_of_mem _ (ih y)
    · rcases List.mem_cons.mp (ih x) with h | h
      · rw [h]; simp
      · exact List.mem_cons_of_mem _ (List.mem_cons_of_mem _ h)
theorem Vals.getV : ∀ {xs : List V} {us : List Value} {i : Nat} {u : Value}, Vals xs us → us[i]? = some u → ∃ x, xs[i]? = some x ∧ RelV x u
  | _, _, _, _, .nil, e => by simp at e
  | _, _, 0, _, .cons r _, e => by simp at e; subst e; exact ⟨_, rfl, r⟩
  | _, _, i + 1, u, .cons _ t, e => by
    obtain ⟨x, h1, h2⟩ := Vals.getV (i := i) (u := u) t (by simpa using e)
    exact ⟨x, by simpa using h1, h2⟩
theorem DpAll.getD {K : PySem.W.Frag} {H : Hp} : ∀ {vs : List V} {ds : List D} {i : Nat} {v : V}, DpAll K H vs ds → vs[i]? = some v → ∃ d, ds[i]? = some d ∧ Dp K H v d
  | _, _, _, _, .nil, h => by simp at h
  | _, _, 0, _, .cons a b, h => by simp at h; subst h; exact ⟨_, rfl, a⟩
  | _, _, i + 1, v, .cons a b, h => by
    obtain ⟨d, h1, h2⟩ := DpAll.getD (i := i) (v := v) b (by simpa using h)
    exact ⟨d, by simpa using h1, h2⟩
mutual
theorem dp_plain {K : PySem.W.Frag} {H : Hp} : ∀ {v : V} {d : D}, Dp K H v d → d.plain = true
  | _, _, .non => rfl
  | _, _, .bl _ => rfl
  | _, _, .int _ => rfl
  | _, _, .str _ => rfl
  | _, _, .lst _ r => by simp only [PyData.plain]; exact dpAll_plain r
  | _, _, .tup _ r => by simp only [PyData.plain]; exact dpAll_plain r
theorem dpAll_plain {K : PySem.W.Frag} {H : Hp} : ∀ {vs : List V} {ds : List D}, DpAll K H vs ds → PyData.plainAll ds = true
  | _, _, .nil => rfl
  | _, _, .cons a b => by simp only [PyData.plainAll, Bool.and_eq_true]; exact ⟨dp_plain a, dpAll_plain b⟩
end
theorem cr_mm {X : Cx} {g : D → List D → D} {id : String} (hc : X.calm = true) (hu : X.A.units + 200 < cLine) (hg : ∀ x xs, g x xs ∈ x :: xs)
    (rule : ∀ (l : Addr) (vs : Array Value) (x : D) (xs : List D) (as : List Addr) (s : Shared) (Q : Value → Shared → Prop), X.A.handled = none → s.heap.IsList l vs → ReadsAll s.heap vs.toList (x :: xs) as → PySem.W.AlikeAll (x :: xs) → X.A.units + 1 + PyData.depthAll (x :: xs) < cLine →
      (∀ (i : Nat) v h' tk bs, vs[i]? = some v → Reads h' v (g x xs) bs → (∀ b o, s.heap.get? b = some o → h'.get? b = some o) → Q v { s with heap := h', toks := tk }) → wpAny (model X.prog X.w) X.A (call (.builtin id) [.ref l]) Q X.xe s) : CallR X (.builtin id) (rMM X.K g) := by
  intro pins s σ H vs us Q I r h
  obtain ⟨a, ws, x, xs, rfl, hq, hd, ha, hdp, q⟩ := h
  rw [Vals.ref1 r]
  obtain ⟨its, rv, p, hz⟩ := I.list hq
  obtain ⟨as, hr⟩ := Dp.readsAll I (x :: xs) ws its hd rv
  refine rule a its.toArray x xs as s _ (I.ok.hd hc) p.isList (by simpa using hr) ha (by omega) fun i v h' tk bs hv rd hk => ?_
  obtain ⟨y, hy, ry⟩ := Vals.getV rv (show its[i]? = some v by simpa using hv)
  obtain ⟨d, hd1, hd2⟩ := DpAll.getD hd hy
  obtain ⟨cs, rd2⟩ := Dp.reads I d y v hd2 ry
  have pl := dpAll_plain hd
  have e : g x xs = d := reads_eq (plainMem pl (hg x xs)) (dp_plain hd2) rd (PyProof.Rows.Reads.keeps hk rd2)
  exact ⟨y, H, I.kept (t' := tk) hk, ry, q i y hy (by rw [e]; exact hd1)⟩
theorem cr_maxD {X : Cx} (hc : X.calm = true) (hu : X.A.units + 200 < cLine) : CallR X (.builtin "max") (rMM X.K PySem.W.maxD) := cr_mm hc hu maxD_mem fun l vs x xs as s Q h1 h2 h3 h4 h5 h6 => PySem.W.max_list_data h1 h2 h3 h4 h5 h6
def gMM (g : D → List D → D) : List D → Option SV
  | [.list (x :: xs)] => if (PyData.plainAll (x :: xs) && allAlike (x :: xs) && decide (PyData.depthAll (x :: xs) ≤ 100)) = true then some (.val (g x xs)) else none
  | _ => none
theorem simMM {k : Kx} {g : D → List D → D} : CallSim k (rMM k.K g) (gMM g) := by
  intro F ρ σ H vs ds Q f rd h
  unfold gMM at h
  split at h
  · rename_i x xs
    split at h
    · rename_i hc
      simp only [Bool.and_eq_true, decide_eq_true_eq] at hc
      obtain ⟨v, rfl, r⟩ := rd.one
      obtain ⟨a, ws, rfl, ha, rl⟩ := r.lst f.sub
      refine ⟨a, ws, x, xs, rfl, .inl (.inl ha), dpAllMono f.sub (rl.dp hc.1.1), allAlike_ok hc.1.2, hc.2, fun i v hv hg => ?_⟩
      obtain ⟨v', h1, h2⟩ := rl.get hg
      rw [hv] at h1; cases h1
      exact h v F H (Aft.refl f) h2
    · exact h.elim
  · exact h.elim
/-! sorted -/
def srtD (xs : List D) : List D := xs.mergeSort (PySem.W.dataLe false id)
def sortable (ds : List D) : Bool := (ds.all fun d => match d with | .tuple (_ :: _) => true | _ => false) || ds.all fun d => match d with | .none => false | .tuple _ => false | _ => true
def pSort (xs : List D) : Bool := PyData.plainAll xs && xs.all (fun x => xs.all fun y => PySem.W.alike x y) && sortable xs && decide (PyData.depthAll xs ≤ 100)
def gSorted : List D → Option SV
  | [.list xs] => if pSort xs = true then some (.own (.lst (srtD xs))) else none
  | _ => none
def rSrt (K : PySem.W.Frag) : List V → Hp → VK → Prop := fun vs H Q => ∃ (a : Addr) (ws : List V) (xs : List D) (R0 : V → D → Prop), vs = [.ref a] ∧ SqL K H a ws ∧ DpAll K H ws xs ∧ PySem.W.AllAlike xs ∧ PySem.W.Sortable xs ∧ PyData.depthAll xs ≤ 100 ∧ Paired R0 ws xs ∧
  ∀ (zs : List V) (p : Addr), H p = none → Paired R0 zs (srtD xs) → Q (.ref p) (upd H p (.lst zs))
theorem each_mk {R : Value → D → Prop} {R0 : V → D → Prop} (hR : ∀ x v b, RelV x v → R0 x b → R v b) : ∀ {ws : List V} {its : List Value} {xs : List D}, Vals ws its → Paired R0 ws xs → PySem.W.EachIs R its xs
  | _, _, _, .nil, .nil => .nil
  | _, _, _, .cons r t, .cons q u => .cons (hR _ _ _ r q) (each_mk hR t u)
theorem each_un {R0 : V → D → Prop} : ∀ {out : List Value} {xs : List D}, PySem.W.EachIs (fun v b => ∃ x, RelV x v ∧ R0 x b) out xs → ∃ zs, Vals zs out ∧ Paired R0 zs xs
  | _, _, .nil => ⟨[], .nil, .nil⟩
  | _, _, .cons ⟨x, r, q⟩ t => by
    obtain ⟨zs, h1, h2⟩ := each_un t
    exact ⟨x :: zs, .cons r h1, .cons q h2⟩
theorem dpAll_paired {K : PySem.W.Frag} {H : Hp} : ∀ {ws : List V} {xs : List D}, DpAll K H ws xs → Paired (Dp K H) ws xs
  | _, _, .nil => .nil
  | _, _, .cons a b => .cons a (dpAll_paired b)
theorem depth_mem : ∀ {xs : List D} {x : D}, x ∈ xs → x.depth ≤ PyData.depthAll xs
  | y :: ys, x, hx => by
    simp only [PyData.depthAll]
    rcases List.mem_cons.mp hx with rfl | hx
    · exact Nat.le_max_left _ _
    · exact Nat.le_trans (depth_mem hx) (Nat.le_max_right _ _)
theorem Paired.len {α β : Type} {R : α → β → Prop} : ∀ {as : List α} {bs : List β}, Paired R as bs → as.length = bs.length
  | _, _, .nil => rfl
  | _, _, .cons _ t => by simp [Paired.len t]
theorem cr_srt {X : Cx} (hu : X.A.units + 200 < cLine) : CallR X (.builtin "sorted") (rSrt X.K) := by
  intro pins s σ H vs us Q I r h
  obtain ⟨a, ws, xs, R0, rfl, hq, hd, ha, hs, hdp, hp, q⟩ := h
  rw [Vals.ref1 r]
  obtain ⟨its, rv, p, hz⟩ := I.list hq
  have hl : xs.length ≤ sizeLine := by rw [← Paired.len hp]; exact hz
  have e1 : PySem.W.EachIs (fun v b => ∃ x, RelV x v ∧ R0 x b) its xs := each_mk (fun x v b r q => ⟨x, r, q⟩) rv hp
  have e2 : PySem.W.EachIs (fun v (b : D) => ∃ as, Reads s.heap v (id b) as) its xs := each_mk (fun x v b r q => Dp.reads I b x v q r) rv (dpAll_paired hd)
  refine PySem.W.sorted_data (enc := id) p.isList e1 e2 (by rw [List.map_id]; exact ha) (by rw [List.map_id]; exact hs) hl (fun b hb => by have := depth_mem hb; show X.A.units + 2 + b.depth < cLine; omega) fun out ho eo => ?_
  obtain ⟨zs, z1, z2⟩ := each_un eo
  obtain ⟨c, hc⟩ := PyProof.Rows.sortedAll_at s.heap its out.toArray
  have hf : H (s.heap.objs.size + 1) = none := I.hok.fresh (Nat.le_succ _)
  have hlen : zs.length ≤ sizeLine := by rw [z1.length, ho]; exact hl
  exact ⟨.ref (s.heap.objs.size + 1), upd H (s.heap.objs.size + 1) (.lst zs), I.laid (t' := s.toks) (fun b u e => PyProof.Rows.sortedAll_old e) (Nat.le_succ _) ⟨hlen, out, c, z1, hc⟩, rfl, q zs _ hf z2⟩
theorem repL_paired {k : Kx} {F : Hp} : ∀ {ws : List V} {xs : List D}, RepL k F ws xs → Paired (Rep k F) ws xs
  | _, _, .nil => .nil
  | _, _, .cons a b => .cons a (repL_paired b)
theorem paired_repL {k : Kx} {F : Hp} : ∀ {ws : List V} {xs : List D}, Paired (Rep k F) ws xs → RepL k F ws xs
  | _, _, .nil => .nil
  | _, _, .cons a b => .cons a (paired_repL b)
theorem sortable_ok {ds : List D} (h : sortable ds = true) : PySem.W.Sortable ds := by
  simp only [sortable, Bool.or_eq_true, List.all_eq_true] at h
  rcases h with h | h
  · refine .inl fun d hd => ?_
    have := h d hd
    split at this
    · exact ⟨_, _, rfl⟩
    · cases this
  · refine .inr fun d hd => ⟨?_, fun xs => ?_⟩
    · rintro rfl; have := h _ hd; simp at this
    · rintro rfl; have := h _ hd; simp at this
theorem simSrt {k : Kx} : CallSim k (rSrt k.K) gSorted := by
  intro F ρ σ H vs ds Q f rd h
  unfold gSorted at h
  split at h
  · rename_i xs
    split at h
    · rename_i hc
      simp only [pSort, Bool.and_eq_true, decide_eq_true_eq, List.all_eq_true] at hc
      obtain ⟨⟨⟨c1, c2⟩, c3⟩, c4⟩ := hc
      obtain ⟨v, rfl, r⟩ := rd.one
      obtain ⟨a, ws, rfl, ha, rl⟩ := r.lst f.sub
      refine ⟨a, ws, xs, Rep k F, rfl, .inl (.inl ha), dpAllMono f.sub (rl.dp c1), fun d hd d' hd' => c2 d hd d' hd', sortable_ok c3, c4, repL_paired rl, fun zs p hp pz => ?_⟩
      exact h _ F _ (Aft.newO f hp) ⟨p, _, rfl, hp, upd_same, f.sub.none_of hp, _, rfl, paired_repL pz⟩
    · exact h.elim
  · exact h.elim
end Pv

/-! Pvr: set(list of ints). -/
namespace Pv
open PySem PySem.Spec PySem.SeqAt L2
open PyProof.Rows (IntsAre)
def set0 (w : World) : Obj := { cls := .type "set", dict := none, data := .set #[] 0 (.fresh 0 0 (!w.params.followText "set-order")) }
section
variable {P : Program} {w : World} {A : Around} {E : Value → Shared → Prop} {s : Shared}
theorem neA {a b : Nat} (h : a < b) : a ≠ b := Nat.ne_of_lt h
def SetGot (w : World) (s : Shared) (ns : List Int) (s₂ : Shared) : Prop := ∃ h' tk c, s₂ = { s with heap := h', toks := tk } ∧ SetR w h' s.heap.objs.size (fun j => decide (j ∈ ns)) c ∧ c ≤ ns.length ∧ ∀ b o, s.heap.get? b = some o → h'.get? b = some o
end
end Pv

/-! Pvs: sorted(set(list of ints)). -/
namespace Pv
open PySem PySem.Spec PySem.SeqAt L2
open PyProof.Rows (IntsAre)
def dd : List Int → List Int
  | [] => []
  | x :: r => if x ∈ r then dd r else x :: dd r
theorem dd_mem {x : Int} : ∀ {l : List Int}, x ∈ dd l ↔ x ∈ l
  | [] => by simp [dd]
  | y :: r => by
    unfold dd
    split
    · rename_i h
      rw [dd_mem, List.mem_cons]
      exact ⟨.inr, fun z => z.elim (fun z => z ▸ h) id⟩
    · rw [List.mem_cons, List.mem_cons, dd_mem]
theorem dd_nodup : ∀ l : List Int, (dd l).Nodup
  | [] => by simp [dd]
  | y :: r => by
    unfold dd
    split
    · exact dd_nodup r
    · rename_i h
      exact List.nodup_cons.mpr ⟨fun z => h (dd_mem.mp z), dd_nodup r⟩
theorem len_of_same {as bs : List Int} (na : as.Nodup) (nb : bs.Nodup) (h : ∀ x, x ∈ as ↔ x ∈ bs) : as.length = bs.length := ((List.perm_ext_iff_of_nodup na nb).mpr h).length_eq
theorem SetR.count {w : World} {h : Heap} {a : Addr} {ns : List Int} {c : Nat} (R : SetR w h a (fun j => decide (j ∈ ns)) c) : c = (dd ns).length := by
  obtain ⟨o, es, ep, t, _, _, _, _, nd, mem, _, _, sz, _⟩ := R
  rw [← sz, ← Array.length_toList, ← List.length_map (f := keyOf)]
  refine len_of_same nd (dd_nodup _) fun x => ?_
  have := mem x
  simp only [decide_eq_true_eq] at this
  rw [← this, dd_mem]
theorem vals_ints {ns : List Int} : ∀ {its : List Value}, Vals (ns.map V.int) its → IntsAre its ns := by
  induction ns with
  | nil => intro its h; cases h; exact .nil
  | cons n r ih =>
    intro its h
    cases h with
    | cons a b =>
      obtain ⟨t, rfl⟩ := a
      exact .cons _ _ (ih b)
def ssrt (ns : List Int) : List Int := (dd ns).mergeSort (fun a b => decide (a ≤ b))
theorem ssrt_le (ns : List Int) : (ssrt ns).Pairwise (fun a b => a ≤ b) := by
  have := List.pairwise_mergeSort (le := fun a b : Int => decide (a ≤ b)) (fun a b c h1 h2 => by simp at *; omega) (fun a b => by simp; omega) (dd ns)
  simpa [ssrt] using this
theorem ssrt_perm (ns : List Int) : (ssrt ns).Perm (dd ns) := List.mergeSort_perm _ _
theorem ssrt_mem {ns : List Int} {k : Int} : k ∈ ssrt ns ↔ k ∈ ns := by rw [(ssrt_perm ns).mem_iff, dd_mem]
theorem repL_ints {k : Kx} {F : Hp} : ∀ ns : List Int, RepL k F (ns.map V.int) (ns.map PyData.int)
  | [] => .nil
  | n :: r => .cons (.int n) (repL_ints r)
end Pv

/-! Pvc: isinstance, slices, list methods, stores, fields. -/
namespace Pv
open PySem PySem.Spec PySem.SeqAt L2

/-! ### isinstance -/
inductive TR where
  | ty (n : String) | cls (c : Int)
  deriving DecidableEq
def tyNames : List String := ["NoneType", "bool", "int", "str", "list", "tuple", "dict"]
def tyD : D → Option TR
  | .none => some (.ty "NoneType")
  | .bool _ => some (.ty "bool")
  | .int _ => some (.ty "int")
  | .str _ => some (.ty "str")
  | .list _ => some (.ty "list")
  | .tuple _ => some (.ty "tuple")
  | .dict [] => some (.ty "dict")
  | .dict [(.bool true, .list _)] => some (.ty "list")
  | .dict [(.bool true, .tuple _)] => some (.ty "tuple")
  | .dict [(.none, .int c), (.none, .tuple _)] => some (.cls c)
  | .dict _ => none
def isi1 : TR → TR → Option Bool
  | .ty a, .ty b => if (tyNames.contains a && tyNames.contains b) = true then some (a == b || (a == "bool" && b == "int")) else none
  | .ty a, .cls _ => if tyNames.contains a = true then some false else none
  | .cls _, .ty b => if tyNames.contains b = true then some false else none
  | .cls c, .cls c' => some (c == c')
def isiAny (t : TR) : List TR → Option Bool
  | [] => some false
  | c :: r => (isi1 t c).bind fun b => if b = true then some true else isiAny t r
structure IsiOk (k : Kx) : Prop where
  cl : ∀ c C ns, k.CT c = some (C, ns) → Cls k.K C ∧ PySem.W.findIn k.K (.ref C) "__class__" = some (some (.builtin "object.__class__")) ∧ PySem.W.specialIn k.K (.builtin "object.__class__") "__get__" = some (some (.builtin "getset_descriptor.__get__")) ∧
    PySem.W.takesIn k.K (.builtin "object.__class__") = some true ∧ PySem.W.mroIn k.K C (.type "object") = some true
  tc : ∀ a c C ns, tyNames.contains a = true → k.CT c = some (C, ns) → PySem.W.kitOne k.K (.type a) (.ref C) = some false
  ct : ∀ b c C ns, tyNames.contains b = true → k.CT c = some (C, ns) → PySem.W.kitOne k.K (.ref C) (.type b) = some false
  cc : ∀ c c' C C' ns ns', k.CT c = some (C, ns) → k.CT c' = some (C', ns') → PySem.W.kitOne k.K (.ref C) (.ref C') = some (c == c')
inductive TRV (k : Kx) : TR → V → Value → Prop
  | ty (n : String) : TRV k (.ty n) (.ty n) (.type n)
  | cls {c : Int} {C : Addr} {ns : List Str} : k.CT c = some (C, ns) → TRV k (.cls c) (.ref C) (.ref C)
theorem TRV.clsV {k : Kx} {t : TR} {v : V} {u : Value} (h : TRV k t v u) : ClsV v u := by
  cases h with
  | ty n => exact .ty n
  | cls _ => exact .own _
def kitTab : Bool := tyNames.all fun a => tyNames.all fun b => decide (kitB a b = some (a == b || (a == "bool" && b == "int")))
theorem kitTab_ok : kitTab = true := by decide +kernel
theorem kit_tt {K : PySem.W.Frag} {a b : String} (ha : tyNames.contains a = true) (hb : tyNames.contains b = true) : PySem.W.kitOne K (.type a) (.type b) = some (a == b || (a == "bool" && b == "int")) := by
  refine kit_ty ?_
  have h := kitTab_ok
  simp only [kitTab, List.all_eq_true, decide_eq_true_eq] at h
  exact h a (by simpa using ha) b (by simpa using hb)
inductive TyW (k : Kx) : TR → Value → Prop
  | ty (n : String) : TyW k (.ty n) (.type n)
  | cls {c : Int} {C : Addr} {ns : List Str} : k.CT c = some (C, ns) → TyW k (.cls c) (.ref C)
theorem isi1_ok {k : Kx} (ok : IsiOk k) {t c : TR} {tv u : Value} {v : V} {b : Bool} (ht : TyW k t tv) (hc : TRV k c v u) (e : isi1 t c = some b) : PySem.W.kitOne k.K tv u = some b := by
  cases ht with
  | ty a => cases hc with
    | ty m =>
      simp only [isi1] at e
      split at e
      · rename_i hh
        simp only [Bool.and_eq_true] at hh
        cases e
        exact kit_tt hh.1 hh.2
      · cases e
    | cls h =>
      simp only [isi1] at e
      split at e
      · rename_i hh
        cases e
        exact ok.tc a _ _ _ hh h
      · cases e
  | cls h => cases hc with
    | ty m =>
      simp only [isi1] at e
      split at e
      · rename_i hh
        cases e
        exact ok.ct m _ _ _ hh h
      · cases e
    | cls h' =>
      simp only [isi1, Option.some.injEq] at e
      subst e
      exact ok.cc _ _ _ _ _ _ h h'
theorem sqT_ty {K : PySem.W.Frag} {H : Hp} {a : Addr} {vs : List V} (h : SqT K H a vs) : TyX K H (.ref a) (.type "tuple") := by
  rcases h with (h | ⟨o, h⟩) | ⟨o, its, n, h1, h2, _⟩
  · exact .base (.tup h)
  · exact .fTuple h
  · exact .kTuple h1 h2
theorem RdR.tyx {k : Kx} (ok : IsiOk k) {F H : Hp} {v : V} {d : D} {t : TR} (s : Sub F H) (r : RdR k F H v d) (e : tyD d = some t) : ∃ tv, TyX k.K H v tv ∧ TyW k t tv := by
  have ob : ∀ {a dx C : Addr} {c : Int} {ns : List Str} {fs : List (Str × V)}, k.CT c = some (C, ns) → H a = some (.ins C dx fs) → ∃ tv, TyX k.K H (.ref a) tv ∧ TyW k (.cls c) tv := fun h1 h2 => by
    obtain ⟨c1, c2, c3, c4, c5⟩ := ok.cl _ _ _ h1
    exact ⟨_, .base (.ins h2 c1 c2 c3 c4 c5), .cls h1⟩
  rcases r with r | ⟨q, o, ho, rfl, h1, h2, rfl⟩
  · cases r with
    | non => cases e; exact ⟨_, .base .non, .ty _⟩
    | bl b => cases e; exact ⟨_, .base (.bl b), .ty _⟩
    | int i => cases e; exact ⟨_, .base (.int i), .ty _⟩
    | str x => cases e; exact ⟨_, .base (.str x), .ty _⟩
    | lst h _ => cases e; exact ⟨_, .base (.lst (s.ex h)), .ty _⟩
    | tup h _ => cases e; exact ⟨_, sqT_ty (s.sqT (SqT.of h)), .ty _⟩
    | fls h _ =>
      cases e
      rcases h with ⟨o, h⟩ | (h | ⟨o, h⟩) | ⟨o, its, n, h1, h2, _⟩
      · exact ⟨_, .base (.frz (s.ex h)), .ty _⟩
      · cases h
      · cases h
      · exact ⟨_, .kList h1 h2, .ty _⟩
    | obj h1 h2 _ _ _ => cases e; exact ob h1 (s.ex h2)
    | dnil h =>
      cases e
      rcases s.rd h with z | ⟨o, z⟩
      · exact ⟨_, .base (.dK z), .ty _⟩
      · exact ⟨_, .fDict z, .ty _⟩
    | dct h hl r => cases e
    | fn x => cases e
    | dcn _ _ _ _ => cases e
    | xt h _ => cases e; exact ⟨_, sqT_ty (h.mono s).sqT, .ty _⟩
  · cases o with
    | lst xs =>
      cases e
      obtain ⟨vs, rfl, _⟩ := h2
      exact ⟨_, .base (.lst h1), .ty _⟩
    | ins c fs =>
      cases e
      obtain ⟨C, ns, dx, vs, q1, rfl, _⟩ := h2
      exact ob q1 h1
    | dct t ks ds => cases e
    | dcn ks ds => cases e
def evIsi (ts : List TR) (me : EM) : EM := fun ρ => (me ρ).bind fun a => (rdD a.2 a.1).bind fun d => (tyD d).bind fun t => (isiAny t ts).bind fun b => some (.sv (.val (.bool b)), a.2)
theorem simIsi {k : Kx} (ok : IsiOk k) {te : TE} {me : EM} {t : TR} {v : V} {u : Value} (ht : TRV k t v u) (he : SimE k te me) : SimE k (tCB (rIsi k.K) (tCons te (tCons (tC v) tNil))) (evIsi [t] me) := by
  intro F ρ σ H Q f h
  unfold evIsi at h
  refine he F ρ σ H _ f ((wpo_bind.mp h).mono fun a _ h => ?_)
  intro x F1 H1 A1 R1
  have h := wpo_bind.mp h
  cases e1 : rdD a.2 a.1 with
  | none => rw [e1] at h; exact h.elim
  | some d =>
    rw [e1] at h
    have h := wpo_bind.mp h
    cases e2 : tyD d with
    | none => rw [e2] at h; exact h.elim
    | some td =>
      rw [e2] at h
      have h := wpo_bind.mp h
      cases e3 : isiAny td [t] with
      | none => rw [e3] at h; exact h.elim
      | some b =>
        rw [e3] at h
        obtain ⟨tv, h1, h2⟩ := (R1.rd A1.fr e1).tyx ok A1.fr.sub e2
        have e4 : isi1 td t = some b := by
          simp only [isiAny, Option.bind_eq_some_iff] at e3
          obtain ⟨b', q1, q2⟩ := e3
          cases b' <;> simp at q2 <;> rw [q1, q2]
        exact ⟨x, v, tv, u, b, rfl, ht.clsV, h1, isi1_ok ok h2 ht e4, h _ F1 H1 A1 (.bl b)⟩
inductive TRVs (k : Kx) : List TR → List V → List Value → Prop
  | nil : TRVs k [] [] []
  | cons {t : TR} {v : V} {u : Value} {ts : List TR} {vs : List V} {us : List Value} : TRV k t v u → TRVs k ts vs us → TRVs k (t :: ts) (v :: vs) (u :: us)
theorem TRVs.clsVs {k : Kx} : ∀ {ts : List TR} {vs : List V} {us : List Value}, TRVs k ts vs us → Paired ClsV vs us
  | _, _, _, .nil => .nil
  | _, _, _, .cons a b => .cons a.clsV b.clsVs
theorem isiAny_ok {k : Kx} (ok : IsiOk k) {t : TR} {tv : Value} (h2 : TyW k t tv) : ∀ {ts : List TR} {vs : List V} {us : List Value} {b : Bool}, TRVs k ts vs us → isiAny t ts = some b → PySem.W.kitAny k.K tv us = some b
  | _, _, _, _, .nil, e => by cases e; rfl
  | _, _, _, b, .cons a r, e => by
    simp only [isiAny, Option.bind_eq_some_iff] at e
    obtain ⟨b', q1, q2⟩ := e
    have q3 := isi1_ok ok h2 a q1
    cases b' with
    | true => simp at q2; exact kitAny_cons q3 (fun z => by cases z) (fun _ => q2)
    | false => simp at q2; exact kitAny_cons q3 (fun _ => isiAny_ok ok h2 r q2) (fun z => by cases z)
def tCs : List V → TA
  | [] => tNil
  | v :: vs => tCons (tC v) (tCs vs)
theorem tCs_run {σ : L2.St} {H : Hp} (vs : List V) : ∀ {Q : List V → Hp → Prop}, Q vs H → tCs vs σ H Q := by
  induction vs with
  | nil => exact fun h => h
  | cons v r ih => exact fun {Q} h => ih (Q := fun ys H2 => Q (v :: ys) H2) h
theorem simIsiT {k : Kx} (ok : IsiOk k) {te : TE} {me : EM} {ts : List TR} {vs : List V} {us : List Value} (hl : vs.length ≤ sizeLine) (ht : TRVs k ts vs us) (he : SimE k te me) : SimE k (tCB (rIsiT k.K) (tCons te (tCons (tTup (tCs vs)) tNil))) (evIsi ts me) := by
  intro F ρ σ H Q f h
  unfold evIsi at h
  refine he F ρ σ H _ f ((wpo_bind.mp h).mono fun a _ h => ?_)
  intro x F1 H1 A1 R1
  refine tCs_run vs ⟨hl, fun p hp => ?_⟩
  have A2 := A1.newOw hp (o := .tup vs)
  have R2 := R1.step f A1 (Aft.newO A1.fr hp (o := .tup vs))
  have h := wpo_bind.mp h
  cases e1 : rdD a.2 a.1 with
  | none => rw [e1] at h; exact h.elim
  | some d =>
    rw [e1] at h
    have h := wpo_bind.mp h
    cases e2 : tyD d with
    | none => rw [e2] at h; exact h.elim
    | some td =>
      rw [e2] at h
      have h := wpo_bind.mp h
      cases e3 : isiAny td ts with
      | none => rw [e3] at h; exact h.elim
      | some b =>
        rw [e3] at h
        obtain ⟨tv, h1, h2⟩ := (R2.rd A2.fr e1).tyx ok A2.fr.sub e2
        exact ⟨x, p, vs, tv, us, b, rfl, upd_same, ht.clsVs, h1, isiAny_ok ok h2 ht e3, h _ F1 _ A2 (.bl b)⟩

/-! ### slices -/
def cutL {α : Type} (xs : List α) (lo hi : Option Int) : List α := (xs.drop (HT.sIx xs.length 0 lo)).take (HT.sIx xs.length xs.length hi - HT.sIx xs.length 0 lo)
theorem RepL.cut {k : Kx} {F : Hp} {vs : List V} {ds : List D} (h : RepL k F vs ds) (lo hi : Option Int) : RepL k F (cutV vs lo hi) (cutL ds lo hi) := by
  unfold cutV cutL
  rw [h.length]
  exact (h.drop _).take _
abbrev OM := Rho → Option (Option Int × Rho)
def SimO (k : Kx) (to : TO) (m : OM) : Prop := ∀ (F : Hp) (ρ : Rho) (σ : L2.St) (H : Hp) (Q : Option Int → Hp → Prop), FR k F ρ σ H → wpo (m ρ) (fun x => ∀ F' H', Aft k ρ σ F H x.2 F' H' → Q x.1 H') → to σ H Q
def opNone : OM := fun ρ => some (none, ρ)
theorem simPNone {k : Kx} : SimO k tNoPart opNone := fun F ρ σ H Q f h => h F H (Aft.refl f)
def opSome (me : EM) : OM := fun ρ => (me ρ).bind fun a => (rdD a.2 a.1).bind fun d => match d with
  | .int i => some (some i, a.2)
  | _ => none
theorem simPSome {k : Kx} {te : TE} {me : EM} (he : SimE k te me) : SimO k (tPart te) (opSome me) := by
  intro F ρ σ H Q f h
  unfold opSome at h
  refine he F ρ σ H _ f ((wpo_bind.mp h).mono fun a _ h => ?_)
  intro x F1 H1 A1 R1
  have h := wpo_bind.mp h
  cases e1 : rdD a.2 a.1 with
  | none => rw [e1] at h; exact h.elim
  | some d =>
    rw [e1] at h
    have rd := R1.rd A1.fr e1
    cases d with
    | int i => exact ⟨i, rd.int, h F1 H1 A1⟩
    | _ => exact h.elim
def gSl (lo hi : Option Int) : D → Option SV
  | .list xs => some (.own (.lst (cutL xs lo hi)))
  | .tuple xs => some (.val (.tuple (cutL xs lo hi)))
  | _ => none
def evSl (me : EM) (ml mh : OM) : EM := fun ρ => (me ρ).bind fun a => (ml a.2).bind fun b => (mh b.2).bind fun c => (rdD c.2 a.1).bind fun d => (gSl b.1 c.1 d).bind fun s => some (.sv s, c.2)
def rSlB (K : PySem.W.Frag) : V → Option Int → Option Int → Hp → VK → Prop := fun x lo hi H Q => rSlL K x lo hi H Q ∨ rSlA K x lo hi H Q
theorem sl_B {X : Cx} : SlR X (rSlB X.K) := sl_list.or sl_tupA
theorem cut_whole {α : Type} {xs : List α} {lo hi : Option Int} (h : HT.sIx xs.length 0 lo = 0 ∧ HT.sIx xs.length xs.length hi = xs.length) : cutL xs lo hi = xs := by
  unfold cutL
  rw [h.1, h.2]
  simp
theorem simSl {k : Kx} {te : TE} {tl th : TO} {me : EM} {ml mh : OM} (he : SimE k te me) (hl : SimO k tl ml) (hh : SimO k th mh) : SimE k (tSl (rSlB k.K) te tl th) (evSl me ml mh) := by
  intro F ρ σ H Q f h
  unfold evSl at h
  refine he F ρ σ H _ f ((wpo_bind.mp h).mono fun a _ h => ?_)
  intro x F1 H1 A1 R1
  refine hl F1 a.2 σ H1 _ A1.fr ((wpo_bind.mp h).mono fun b _ h => ?_)
  intro F2 H2 A2
  refine hh F2 b.2 σ H2 _ A2.fr ((wpo_bind.mp h).mono fun c _ h => ?_)
  intro F3 H3 A3
  have R3 := R1.step f A1 (A2.trans A3)
  have A := A1.trans (A2.trans A3)
  have h := wpo_bind.mp h
  cases e1 : rdD c.2 a.1 with
  | none => rw [e1] at h; exact h.elim
  | some d =>
    rw [e1] at h
    have rd := R3.rd A3.fr e1
    replace h : wpo (gSl b.1 c.1 d) _ := wpo_bind.mp h
    unfold gSl at h
    split at h
    · obtain ⟨p, ws, rfl, hp, rl⟩ := rd.lst A3.fr.sub
      exact .inl ⟨p, ws, rfl, .inl (.inl hp), fun q hq => h _ F3 _ (A.newOw hq) ⟨q, _, rfl, A.none_of hq, upd_same, A3.fr.sub.none_of hq, _, rfl, rl.cut _ _⟩⟩
    · obtain ⟨p, ws, rfl, hp', hp, rl⟩ := rd.tup A3.fr.sub
      refine .inr ⟨p, ws, rfl, hp, fun hw => ?_, fun hw q hq => ?_⟩
      · rw [rl.length] at hw
        have h := h (.ref p) F3 H3 A
        rw [cut_whole hw] at h
        exact h (Rep.tup hp' rl)
      · exact h _ _ _ (A.new hq) (Rep.tup upd_same ((rl.cut _ _).mono (Sub.upd (A3.fr.sub.none_of hq))))
    · exact h.elim
end Pv

/-! Pvd: owned objects changed; fields; instances made. -/
namespace Pv
open PySem PySem.Spec PySem.SeqAt L2
section
variable {k : Kx} {ρ ρ0 ρ1 : Rho} {σ : L2.St} {F H F0 H0 : Hp}
theorem Aft.mutate (A : Aft k ρ0 σ F0 H0 ρ F H) {i : Nat} {o o' : OB} {p : Addr} {ho' : HO} (e : ρ[i]? = some (some (.own o))) (es : σ[i]? = some (some (.ref p))) (r : RepO k F p o' ho') : Aft k ρ0 σ F0 H0 (ρ.set i (some (.own o'))) F (upd H p ho') := by
  have op : Own ρ σ p := ⟨i, o, e, es⟩
  have nF := A.fr.own_none op
  have hi : i < ρ.length := (List.getElem?_eq_some_iff.mp e).1
  have own2 : ∀ (j : Nat) (x : OB), (ρ.set i (some (.own o')))[j]? = some (some (.own x)) → ∃ y, ρ[j]? = some (some (.own y)) := fun j x h => by
    rcases set_get h with ⟨rfl, _, _⟩ | ⟨_, h⟩
    · exact ⟨o, e⟩
    · exact ⟨x, h⟩
  refine ⟨⟨fun a u q => ?_, by simpa using A.fr.len, fun j d q => ?_, fun j x q => ?_, fun j l x y q h1 h2 h3 h4 => ?_⟩, ⟨A.tr.sub, fun q u h n => ?_, A.tr.new, fun q u h => ?_⟩, fun q ⟨j, x, h1, h2⟩ => ?_, fun j s h => ?_⟩
  · rw [upd_ne (fun z => by rw [z, nF] at q; cases q)]; exact A.fr.sub a u q
  · rcases set_get q with ⟨_, h, _⟩ | ⟨_, h⟩
    · cases h
    · exact A.fr.vals j d h
  · rcases set_get q with ⟨rfl, h, _⟩ | ⟨nj, h⟩
    · cases h; exact ⟨p, ho', es, upd_same, nF, r⟩
    · obtain ⟨p', ho, h1, h2, h3, h4⟩ := A.fr.owns j x h
      have ne : p' ≠ p := fun z => nj (A.fr.dist j i x o p h e (z ▸ h1) es)
      exact ⟨p', ho, h1, by rw [upd_ne ne]; exact h2, h3, h4⟩
  · obtain ⟨_, q1⟩ := own2 j x h1
    obtain ⟨_, q2⟩ := own2 l y h2
    exact A.fr.dist j l _ _ q q1 q2 h3 h4
  · have ne : q ≠ p := fun z => n (z ▸ A.ow p op)
    rw [upd_ne ne]; exact A.tr.keep q u h n
  · by_cases z : q = p
    · subst z; exact ⟨_, upd_same⟩
    · rw [upd_ne z]; exact A.tr.there q u h
  · obtain ⟨y, q1⟩ := own2 j x h1
    exact A.ow q ⟨j, y, q1, h2⟩
  · obtain ⟨s', h'⟩ := A.sl j s h
    by_cases z : j = i
    · subst z; exact ⟨_, List.getElem?_set_self hi⟩
    · exact ⟨s', by rw [get_set (Ne.symm z)]; exact h'⟩
end
def lstAt (ρ : Rho) (i : Nat) : Option (List D) := match ρ[i]? with
  | some (some (.own (.lst xs))) => some xs
  | _ => none
theorem lstAt_eq {ρ : Rho} {i : Nat} {xs : List D} (h : lstAt ρ i = some xs) : ρ[i]? = some (some (.own (.lst xs))) := by
  unfold lstAt at h
  split at h
  · cases h; assumption
  · cases h
theorem FR.lst {k : Kx} {F : Hp} {ρ : Rho} {σ : L2.St} {H : Hp} (f : FR k F ρ σ H) {i : Nat} {xs : List D} (h : lstAt ρ i = some xs) : ∃ p vs, σ[i]? = some (some (.ref p)) ∧ H p = some (.lst vs) ∧ F p = none ∧ RepL k F vs xs := by
  obtain ⟨p, ho, h1, h2, h3, vs, rfl, r⟩ := f.owns i _ (lstAt_eq h)
  exact ⟨p, vs, h1, h2, h3, r⟩
def evMut (f : List D → List D → Option (D × List D)) (i : Nat) (ma : AM) : EM := fun ρ => (lstAt ρ i).bind fun _ => (ma ρ).bind fun a => (frzs a.2 a.1).bind fun b => (lstAt b.2 i).bind fun xs => (f xs b.1).bind fun y => some (.sv (.val y.1), b.2.set i (some (.own (.lst y.2))))
def MutSim (k : Kx) (r : V → List V → Hp → VK → Prop) (f : List D → List D → Option (D × List D)) : Prop := ∀ (F H : Hp) (p : Addr) (ws : List V) (xs : List D) (vs : List V) (ds : List D) (Q : VK), Sub F H → H p = some (.lst ws) → RepL k F ws xs → RepL k F vs ds →
  wpo (f xs ds) (fun y => ∀ v zs, Rep k F v y.1 → RepL k F zs y.2 → Q v (upd H p (.lst zs))) → r (.ref p) vs H Q
theorem simMut {k : Kx} {r : V → List V → Hp → VK → Prop} {g : List D → List D → Option (D × List D)} {i : Nat} {ta : TA} {ma : AM} (hr : MutSim k r g) (ha : SimA k ta ma) : SimE k (tBM k.K "list" r (tVar i) ta) (evMut g i ma) := by
  intro F ρ σ H Q f h
  unfold evMut at h
  have h := wpo_bind.mp h
  cases e0 : lstAt ρ i with
  | none => rw [e0] at h; exact h.elim
  | some xs0 =>
    rw [e0] at h
    obtain ⟨p, vs0, s0, h0, n0, r0⟩ := f.lst e0
    refine ⟨.ref p, s0, .inl ⟨rfl, vs0, .inl (.inl h0)⟩, ?_⟩
    refine ha F ρ σ H _ f ((wpo_bind.mp h).mono fun a _ h => ?_)
    intro vs F1 H1 A1 R1
    have h := wpo_bind.mp h
    cases e1 : frzs a.2 a.1 with
    | none => rw [e1] at h; exact h.elim
    | some b =>
      rw [e1] at h
      obtain ⟨F2, A2, s2, r2⟩ := frzs_ok f A1 (fun _ h => h) R1 e1
      have h := wpo_bind.mp h
      cases e2 : lstAt b.2 i with
      | none => rw [e2] at h; exact h.elim
      | some xs =>
        rw [e2] at h
        obtain ⟨p', ws, s1, h1, n1, r1⟩ := A2.fr.lst e2
        rw [s0] at s1; cases s1
        refine hr F2 H1 p ws xs vs b.1 Q A2.fr.sub h1 r1 r2 ((wpo_bind.mp h).mono fun y _ h => ?_)
        intro v zs rv rz
        exact h v F2 _ (A2.mutate (lstAt_eq e2) s0 ⟨zs, rfl, rz⟩) rv
def fAppend : List D → List D → Option (D × List D)
  | xs, [d] => if xs.length < sizeLine then some (.none, xs ++ [d]) else none
  | _, _ => none
theorem simAppend {k : Kx} : MutSim k rAppend fAppend := by
  intro F H p ws xs vs ds Q sb hp rw_ rv h
  unfold fAppend at h
  split at h
  · cases rv with
    | cons a b =>
      cases b
      split at h
      · rename_i hl
        exact ⟨p, ws, _, rfl, rfl, hp, by rw [rw_.length]; exact hl, h _ _ .non (rw_.append (.cons a .nil))⟩
      · exact h.elim
  · exact h.elim
end Pv
namespace Pv
open PySem PySem.Spec L2
open MeetsSeq MeetsSeq2 AutoSeq1
/-! pop -/
/-! x[i] = e -/
def exSto (j : Nat) (mi me : EM) : SM := fun ρ => (me ρ).bind fun a => (lstAt a.2 j).bind fun _ => (mi a.2).bind fun b => (rdD b.2 b.1).bind fun di => (frz1 b.2 a.1).bind fun c => (lstAt c.2 j).bind fun xs => match di with
  | .int i => (ixN xs.length i).bind fun n => some (.nx, c.2.set j (some (.own (.lst (xs.set n c.1)))))
  | _ => none
theorem simSto {k : Kx} {P : List Nat} {Wx : Option WX} {j : Nat} {ti te : TE} {mi me : EM} (hi : SimE k ti mi) (he : SimE k te me) : SimS k P Wx (tAsg te (L2.gSub (tVar j) ti rSetL)) (exSto j mi me) := by
  intro e ρ σ F H D hP s h
  unfold exSto at h
  refine he F ρ σ H _ s.fr ((wpo_bind.mp h).mono fun a _ h => ?_)
  intro v F1 H1 A1 R1
  have h := wpo_bind.mp h
  cases e0 : lstAt a.2 j with
  | none => rw [e0] at h; exact h.elim
  | some xs0 =>
    rw [e0] at h
    obtain ⟨p, vs0, s0, h0, n0, r0⟩ := A1.fr.lst e0
    refine ⟨.ref p, s0, ?_⟩
    refine hi F1 a.2 σ H1 _ A1.fr ((wpo_bind.mp h).mono fun b _ h => ?_)
    intro u F2 H2 A2 R2
    have h := wpo_bind.mp h
    cases e1 : rdD b.2 b.1 with
    | none => rw [e1] at h; exact h.elim
    | some di =>
      rw [e1] at h
      have rd := R2.rd A2.fr e1
      have h := wpo_bind.mp h
      cases e2 : frz1 b.2 a.1 with
      | none => rw [e2] at h; exact h.elim
      | some c =>
        rw [e2] at h
        obtain ⟨F3, A3, _, r3, _⟩ := frz1_ok s.fr (A1.trans A2) (R1.step s.fr A1 A2) e2
        have h := wpo_bind.mp h
        cases e3 : lstAt c.2 j with
        | none => rw [e3] at h; exact h.elim
        | some xs =>
          rw [e3] at h
          obtain ⟨p', ws, s1, h1, n1, r1⟩ := A3.fr.lst e3
          rw [s0] at s1; cases s1
          cases di with
          | int i =>
            replace h : wpo (ixN xs.length i) _ := wpo_bind.mp h
            cases e4 : ixN xs.length i with
            | none => rw [e4] at h; exact h.elim
            | some n =>
              rw [e4] at h
              refine ⟨p, ws, i, n, rfl, rd.int, h1, by rw [r1.length]; exact e4, ?_⟩
              exact h σ F3 _ (s.aft (A3.mutate (lstAt_eq e3) s0 ⟨_, rfl, r1.set r3 n⟩))
          | _ => exact h.elim
end Pv

/-! Pve: fields, instances made, len of an instance, enumerate. -/
namespace Pv
open PySem PySem.Spec PySem.SeqAt L2
/-! ### fields -/
abbrev FNs := Int → List Str
def fldD (fn : FNs) (f : Str) : D → Option SV
  | .dict [(.none, .int c), (.none, .tuple fs)] => ((fn c).zip fs).lookup f |>.map SV.val
  | _ => none
structure FldOk (k : Kx) (fn : FNs) : Prop where
  ns : ∀ c C ns, k.CT c = some (C, ns) → ns = fn c
  no : ∀ c C ns f, k.CT c = some (C, ns) → f ∈ ns → NoAttr k.K C f
  cl : ∀ c C ns, k.CT c = some (C, ns) → Cls k.K C
  few : ∀ c C ns, k.CT c = some (C, ns) → ns.length < 1000 ∧ ns.Nodup
theorem lookup_zip {k : Kx} {F : Hp} {f : Str} : ∀ {ns : List Str} {vs : List V} {ds : List D} {d : D}, RepL k F vs ds → (ns.zip ds).lookup f = some d → f ∈ ns ∧ ∃ v, (ns.zip vs).lookup f = some v ∧ Rep k F v d
  | [], _, _, _, _, h => by simp at h
  | _ :: _, _, _, _, .nil, h => by simp at h
  | n :: ns, _, _, d, .cons (v := v) (d := d0) a b, h => by
    simp only [List.zip_cons_cons, List.lookup_cons] at h ⊢
    cases e : f == n with
    | true =>
      rw [e] at h
      cases h
      exact ⟨by rw [beq_iff_eq.mp e]; simp, v, rfl, a⟩
    | false =>
      rw [e] at h
      obtain ⟨h1, h2⟩ := lookup_zip b h
      exact ⟨List.mem_cons_of_mem _ h1, h2⟩
theorem RdR.obj {k : Kx} {F H : Hp} {v : V} {c : Int} {fs : List D} (s : Sub F H) (r : RdR k F H v (objD c fs)) : ∃ a dx C ns vs, v = .ref a ∧ k.CT c = some (C, ns) ∧ H a = some (.ins C dx (ns.zip vs)) ∧ RepL k F vs fs ∧ vs.length ≤ ns.length := by
  rcases r with r | ⟨q, o, ho, rfl, h1, h2, e⟩
  · cases r with
    | obj q1 q2 q3 q4 q5 => exact ⟨_, _, _, _, _, rfl, q1, s.ex q2, q5, q4⟩
  · cases o with
    | lst xs => cases e
    | dct t ks ds => cases e
    | dcn ks ds => cases e
    | ins c' fs' =>
      cases e
      obtain ⟨C, ns, dx, vs, q1, rfl, q3, q4, q5⟩ := h2
      exact ⟨q, dx, C, ns, vs, rfl, q1, h1, q5, q4⟩
theorem simFld {k : Kx} {fn : FNs} (ok : FldOk k fn) {f : Str} {te : TE} {me : EM} (he : SimE k te me) : SimE k (tFld k.K te f) (evUn (fldD fn f) me) := by
  have one : UnSim k (fun x H Q => ∃ a C dx fs v, x = .ref a ∧ H a = some (.ins C dx fs) ∧ Cls k.K C ∧ NoAttr k.K C f ∧ fs.lookup f = some v ∧ Q v H) (fldD fn f) := by
    intro F ρ σ H x d Q fr r h
    unfold fldD at h
    split at h
    · rename_i c fs
      obtain ⟨a, dx, C, ns, vs, rfl, q1, q2, q3, q4⟩ := r.obj fr.sub
      have en := ok.ns c C ns q1
      subst en
      cases e : ((fn c).zip fs).lookup f with
      | none => rw [e] at h; exact h.elim
      | some d =>
        rw [e] at h
        obtain ⟨h1, v, h2, h3⟩ := lookup_zip q3 e
        exact ⟨a, C, dx, _, v, rfl, q2, ok.cl c C _ q1, ok.no c C _ f q1 h1, h2, h v F H (Aft.refl fr) h3⟩
    · exact h.elim
  intro F ρ σ H Q fr h
  exact simUn one he F ρ σ H Q fr h
/-! self.f = e, self in slot i -/
def insAt (ρ : Rho) (i : Nat) : Option (Int × List D) := match ρ[i]? with
  | some (some (.own (.ins c fs))) => some (c, fs)
  | _ => none
theorem insAt_eq {ρ : Rho} {i : Nat} {c : Int} {fs : List D} (h : insAt ρ i = some (c, fs)) : ρ[i]? = some (some (.own (.ins c fs))) := by
  unfold insAt at h
  split at h
  · cases h; assumption
  · cases h
def fidx (f : Str) : List Str → Option Nat
  | [] => none
  | n :: r => if n = f then some 0 else (fidx f r).map (· + 1)
theorem fidx_ok {f : Str} : ∀ {ns : List Str} {j : Nat}, fidx f ns = some j → ns[j]? = some f
  | [], _, h => by cases h
  | n :: r, j, h => by
    unfold fidx at h
    split at h
    · rename_i e; cases h; rw [e]; rfl
    · obtain ⟨i, h1, rfl⟩ := Option.map_eq_some_iff.mp h
      simpa using fidx_ok h1
def putD (ns : List Str) (fs : List D) (f : Str) (d : D) : Option (List D) := match fidx f ns with
  | some j => if j < fs.length then some (fs.set j d) else if j = fs.length then some (fs ++ [d]) else none
  | none => none
def exFld (fn : FNs) (i : Nat) (f : Str) (me : EM) : SM := fun ρ => (me ρ).bind fun a => (frz1 a.2 a.1).bind fun b => (insAt b.2 i).bind fun o => (putD (fn o.1) o.2 f b.1).bind fun fs => some (.nx, b.2.set i (some (.own (.ins o.1 fs))))
theorem putF_zip {f : Str} {v : V} : ∀ {ns : List Str} {vs : List V} {j : Nat}, ns.Nodup → ns[j]? = some f → vs.length ≤ ns.length → (j < vs.length → putF f v (ns.zip vs) = ns.zip (vs.set j v)) ∧ (j = vs.length → putF f v (ns.zip vs) = ns.zip (vs ++ [v]))
  | [], _, _, _, h, _ => by simp at h
  | n :: ns, [], 0, nd, h, hl => by
    simp at h; subst h
    exact ⟨fun z => by simp at z, fun _ => by simp [putF]⟩
  | n :: ns, [], j + 1, nd, h, hl => ⟨fun z => by simp at z, fun z => by simp at z⟩
  | n :: ns, w :: vs, 0, nd, h, hl => by
    simp at h; subst h
    exact ⟨fun _ => by simp [putF], fun z => by simp at z⟩
  | n :: ns, w :: vs, j + 1, nd, h, hl => by
    rw [List.nodup_cons] at nd
    have hf : ns[j]? = some f := by simpa using h
    have ne : n ≠ f := fun z => nd.1 (by rw [z]; exact List.mem_of_getElem? hf)
    obtain ⟨h1, h2⟩ := putF_zip (f := f) (v := v) (vs := vs) nd.2 hf (by simpa using hl)
    refine ⟨fun z => ?_, fun z => ?_⟩
    · simp only [List.zip_cons_cons, putF, if_neg ne, List.set_cons_succ]
      rw [h1 (by simpa using z)]
    · simp only [List.zip_cons_cons, putF, if_neg ne, List.cons_append]
      rw [h2 (by simpa using z)]
theorem simFldS {k : Kx} {P : List Nat} {Wx : Option WX} {fn : FNs} (ok : FldOk k fn) {i : Nat} {f : Str} {te : TE} {me : EM} (he : SimE k te me) : SimS k P Wx (sFld k.K (tVar i) te f) (exFld fn i f me) := by
  intro e ρ σ F H D hP s h
  unfold exFld at h
  refine he F ρ σ H _ s.fr ((wpo_bind.mp h).mono fun a _ h => ?_)
  intro v F1 H1 A1 R1
  have h := wpo_bind.mp h
  cases e1 : frz1 a.2 a.1 with
  | none => rw [e1] at h; exact h.elim
  | some b =>
    rw [e1] at h
    obtain ⟨F2, A2, _, r2, _⟩ := frz1_ok s.fr A1 R1 e1
    have h := wpo_bind.mp h
    cases e2 : insAt b.2 i with
    | none => rw [e2] at h; exact h.elim
    | some o =>
      rw [e2] at h
      have h := wpo_bind.mp h
      obtain ⟨c, fs⟩ := o
      have e3 := insAt_eq e2
      obtain ⟨p, ho, s0, h0, n0, C, ns, dx, vs, q1, rfl, q3, q4, q5⟩ := A2.fr.owns i _ e3
      have en := ok.ns c C ns q1
      subst en
      obtain ⟨fw, nd⟩ := ok.few c C _ q1
      refine ⟨.ref p, s0, p, C, dx, _, rfl, h0, ok.cl c C _ q1, ?_⟩
      cases e4 : putD (fn c) fs f b.1 with
      | none => rw [e4] at h; exact h.elim
      | some fs' =>
        rw [e4] at h
        unfold putD at e4
        split at e4
        · rename_i j hj
          have hj' : (fn c)[j]? = some f := fidx_ok hj
          have zl : ((fn c).zip vs).length < 1000 := by rw [List.length_zip]; omega
          obtain ⟨p1, p2⟩ := putF_zip (v := v) nd hj' q4
          have lv := q5.length
          refine ⟨ok.no c C _ f q1 (List.mem_of_getElem? hj'), zl, ?_⟩
          split at e4
          · rename_i lt
            cases e4
            rw [p1 (by omega)]
            exact h σ F2 _ (s.aft (A2.mutate e3 s0 ⟨C, _, dx, _, q1, rfl, q3, by simpa using q4, q5.set r2 j⟩))
          · split at e4
            · rename_i eq
              cases e4
              rw [p2 (by omega)]
              have jl : j < (fn c).length := (List.getElem?_eq_some_iff.mp hj').1
              exact h σ F2 _ (s.aft (A2.mutate e3 s0 ⟨C, _, dx, _, q1, rfl, q3, by simp; omega, q5.append (.cons r2 .nil)⟩))
            · cases e4
        · cases e4
/-! ### C(..) -/
def evMake (c : Int) (np : Nat) (cm : CM) (ma : AM) : EM := fun ρ => (ma ρ).bind fun a => (passB a.2 a.1).bind fun as => if as.length + 1 = np then (cm (.own (.ins c []) :: as)).bind fun x => (match x.1 with
  | .val .none => (match x.2 with
    | .own (.ins c' fs) => some (Rv.sv (.val (objD c' fs)), frAll a.2 a.1)
    | _ => none)
  | _ => none) else none
theorem simMake {k : Kx} {c : Int} {C : Addr} {ns : List Str} {np : Nat} {cm : CM} {E : XK} {ta : TA} {ma : AM} (hC : k.CT c = some (C, ns)) (ha : SimA k ta ma) : SimE k (tMake C (spF k true np cm) [] E ta) (evMake c np cm ma) := by
  intro F ρ σ H Q f h
  unfold evMake at h
  refine ha F ρ σ H _ f ((wpo_bind.mp h).mono fun a _ h => ?_)
  intro vs F1 H1 A1 R1 x dx hx hdx ndx
  have h := wpo_bind.mp h
  cases e1 : passB a.2 a.1 with
  | none => rw [e1] at h; exact h.elim
  | some as =>
    rw [e1] at h
    have h : wpo (if as.length + 1 = np then (cm (.own (.ins c []) :: as)).bind fun x => (match x.1 with
      | .val .none => (match x.2 with
        | .own (.ins c' fs) => some (Rv.sv (.val (objD c' fs)), frAll a.2 a.1)
        | _ => none)
      | _ => none) else none) _ := h
    obtain ⟨ar, ao⟩ := passB_ok (all := a.1) (rs := a.1) f A1 (fun _ z => z) (fun _ z => z) (fun _ z => z) R1 e1
    split at h
    · rename_i hl
      have el := ar.len
      -- all that is lent, and the instance's own dict, are frozen for the call
      let Fc : Hp := lendF (Lent a.2 σ a.1) F1 H1
      let H2 : Hp := upd (upd H1 dx (.own x)) x (.ins C dx [])
      have sFH : Sub Fc H1 := lend_in A1.fr
      have nFx : Fc x = none := sFH.none_of hx
      have nFd : Fc dx = none := sFH.none_of hdx
      have kp : ∀ p o, H1 p = some o → H2 p = some o := fun p o q => by
        show upd _ _ _ p = _
        rw [upd_ne (ne_of_none q hx), upd_ne (ne_of_none q hdx)]; exact q
      have sub2 : Sub (upd Fc dx (.own x)) H2 := fun p o q => by
        by_cases z : p = dx
        · subst z
          rw [upd_same] at q; cases q
          refine ⟨_, ?_, rfl⟩
          show upd _ _ _ p = _
          rw [upd_ne ndx, upd_same]
        · rw [upd_ne z] at q
          obtain ⟨o', e', z'⟩ := sFH p o q
          exact ⟨o', kp p _ e', z'⟩
      have ar2 : ArgsR k (upd Fc dx (.own x)) H2 as vs := by
        have gen : ∀ {ss : List SV} {us : List V}, ArgsR k Fc H1 ss us → ArgsR k (upd Fc dx (.own x)) H2 ss us := by
          intro ss us q
          induction q with
          | nil => exact .nil
          | cons a1 b1 c1 ih =>
            rename_i s0 v0 _ _
            refine .cons ?_ ih c1
            cases s0 with
            | val d => exact Rep.mono (Sub.upd nFd) a1
            | own o =>
              obtain ⟨p, ho, z1, z2, z3, z4⟩ := a1
              exact ⟨p, ho, z1, kp p ho z2, by rw [upd_ne (ne_of_none z2 hdx)]; exact z3, z4.mono (Sub.upd nFd)⟩
        exact gen ar
      have AO : ∀ p, ArgOwn (.own (.ins c []) :: as) (.ref x :: vs) p → p = x ∨ ArgOwn as vs p := fun p ⟨i, o', z1, z2⟩ => by
        cases i with
        | zero => simp at z2; exact .inl z2.symm
        | succ i => exact .inr ⟨i, o', by simpa using z1, by simpa using z2⟩
      refine ⟨upd Fc dx (.own x), .own (.ins c []) :: as, sub2, ?_, ?_, (wpo_bind.mp h).mono fun y _ h => ?_⟩
      · rw [List.append_nil]
        refine .cons ⟨x, _, rfl, upd_same, by rw [upd_ne (Ne.symm ndx)]; exact nFx, C, ns, dx, [], hC, by simp, upd_same, Nat.zero_le _, .nil⟩ ar2 fun o1 _ i o' z1 z2 => ?_
        obtain ⟨_, z3⟩ := ao x ⟨i, o', z1, z2⟩
        exact z3 hx
      · rw [List.append_nil, List.length_cons]; omega
      intro v F' H' sb tr rr outs
      rw [List.append_nil] at tr rr outs
      obtain ⟨u, hu, ou⟩ := outs rfl
      simp at hu
      subst hu
      obtain ⟨y1, y2⟩ := y
      dsimp only at h rr ou
      split at h
      · rename_i ey
        split at h
        · rename_i c' fs
          refine ⟨by cases rr; rfl, ?_⟩
          obtain ⟨p, ho, z0, z1, z2, C', ns', dx', ws, z3, rfl, z5, z6, z7⟩ := ou
          cases z0
          -- behind the call: the lent ones stay frozen, the instance is frozen
          have tr1 : Tr (fun p => ArgOwn as vs p) Fc H1 F' H' := by
            refine ⟨(Sub.upd nFd).trans tr.sub, fun p o q n => tr.keep p o (kp p o q) fun w => ?_, fun p o q m n n2 => tr.new p o (kp p o q) m ?_ fun w => ?_, fun p o q => tr.there p o (kp p o q)⟩
            · rcases AO p w with rfl | w
              · rw [hx] at q; cases q
              · exact n w
            · rw [upd_ne (ne_of_none q hdx)]; exact n
            · rcases AO p w with rfl | w
              · rw [hx] at q; cases q
              · exact n2 w
          have hI : ∀ p, ArgOwn as vs p → ¬ Own a.2 σ p := fun p w o => by
            obtain ⟨u, hu⟩ := f.own_some (A1.ow p o)
            rw [(ao p w).1] at hu; cases hu
          obtain ⟨b1, b2, b3, b4, b5, b6, b7, b8⟩ := backL A1.fr sb tr1 (fun p w => .inl (hI p w)) (.inr ⟨rfl, rfl⟩)
          have ow : ∀ p, Own (frAll a.2 a.1) σ p → Own a.2 σ p := fun p ⟨i, o, w1, w2⟩ => ⟨i, o, (b6 i o w1).1, w2⟩
          have A3 : Aft k ρ σ F H (frAll a.2 a.1) F' H' := by
            refine ⟨⟨b1, b3, b5, fun i o q => ?_, fun i j o o' p w1 w2 w3 w4 => A1.fr.dist i j o o' p (b6 i o w1).1 (b6 j o' w2).1 w3 w4⟩, ⟨A1.tr.sub.trans b2, fun p o q n => ?_, fun p o q m n n2 => ?_, fun p o q => ?_⟩, fun p w => A1.ow p (ow p w), fun i s q => let ⟨s', q'⟩ := A1.sl i s q; b4 i s' q'⟩
            · obtain ⟨w0, p, ho, w1, w2⟩ := b6 i o q
              obtain ⟨w3, w4, w5⟩ := w2 fun w => hI p w ⟨i, o, w0, w1⟩
              exact ⟨p, ho, w1, w3, w4, w5⟩
            · exact b7 p o (A1.tr.keep p o q n) fun w => by rw [(ao p w).1] at q; cases q
            · exact b8 p o (A1.tr.keep p o q n2) m (A1.tr.new p o q m n n2) (fun w => by rw [(ao p w).1] at q; cases q) fun w => n2 (A1.ow p w)
            · obtain ⟨o', q'⟩ := A1.tr.there p o q
              exact tr1.there p o' q'
          have nx : H x = none := A1.none_of hx
          have RT : RR k H F' (frAll a.2 a.1) σ H' (.sv (.own (.ins c' fs))) (.ref x) := ⟨x, _, rfl, nx, z1, z2, C', ns', dx', ws, z3, rfl, z5, z6, z7⟩
          obtain ⟨F4, A4, _, r4, _⟩ := frz1_ok f A3 RT (show frz1 (frAll a.2 a.1) (.sv (.own (.ins c' fs))) = some (objD c' fs, frAll a.2 a.1) from rfl)
          exact h (.ref x) F4 H' A4 r4
        · exact h.elim
      · exact h.elim
    · exact h.elim
end Pv

/-! Pvf: len of an instance; enumerate. -/
namespace Pv
open PySem PySem.Spec PySem.SeqAt L2
theorem run_below {X : Cx} {pins : List (Addr × Obj)} {σ : L2.St} {H : Hp} {s : Shared} {A : Around} {CX : CXT} {n : Nat} {g : Addr} {fd : FuncData} {ps : List Str} {sp : Sp} {Q : VK} {E : XK} {us : List Value} {ws : List V} (F : FnOk X.prog X.w X.K X.mg X.base CX n g fd ps sp) (hb : Binds X.K fd ps [])
    (hr : Room n A) (e0 : Env0 X.prog X.w X.K X.mg X.base A X.stack s H) (hx : Passes CX X E) (I : Inv X pins σ H s) (r : Vals ws us) (h : sp ws H Q E) : wpAny (model X.prog X.w) A (call (.ref g) us) (EP X pins σ Q) X.xe s := by
  have hl : us.length = ps.length := by rw [← r.length]; exact F.len _ _ _ _ h
  have bt := hb s us I.kIn (by rw [List.append_nil]; exact hl)
  rw [List.append_nil] at bt
  refine wpAny_call (codeAny_mono (F.run A X.stack s H ⟨us, []⟩ us ws Q E hr e0 bt r h) fun res s' hq => ?_)
  match res, hq with
  | .error _, hq => exact hx pins σ H s _ s' I hq
  | .ok (.ret _), hq => exact I.after hq
  | .ok .next, hq => exact hq.elim
  | .ok .brk, hq => exact hq.elim
  | .ok .cont, hq => exact hq.elim
def rLenOwn (X : Cx) (n : Nat) : List V → Hp → VK → Prop := fun xs H Q => ∃ a C dx fs g fd ps sp, xs = [.ref a] ∧ H a = some (.ins C dx fs) ∧ PySem.W.findIn X.K (.ref C) "__len__" = some (some (.ref g)) ∧ PySem.W.isFn X.K (.ref g) = true ∧
  FnOk X.prog X.w X.K X.mg X.base CX0 n g fd ps sp ∧ Binds X.K fd ps [] ∧ sp [.ref a] H (fun z H' => ∃ i, z = .int i ∧ (0 ≤ i ∧ i < 2 ^ 63) ∧ Q z H') E0
theorem cr_lenOwn {X : Cx} {n : Nat} (hr : Room (n + 1) X.A) : CallR X (.builtin "len") (rLenOwn X n) := by
  intro pins s σ H xs us Q I r h
  obtain ⟨a, C, dx, fs, g, fd, ps, sp, rfl, ha, hf, hfn, F, hb, q⟩ := h
  rw [Vals.ref1 r]
  obtain ⟨mA, O, _⟩ := ins_get I.hok ha
  obtain ⟨od, J, _⟩ := O.look
  obtain ⟨m, hF⟩ := I.fr
  refine PySem.W.len_K hF I.ok.mod.kin J hf hfn (wpAny_mono (run_below (us := [.ref a]) (ws := [.ref a]) F hb hr.in1 I.env0.in1 pass0 I (.cons rfl .nil) q) (fun w s' z => ?_) fun _ _ x => x)
  obtain ⟨z', H', I', rz, i, ei, hi, qz⟩ := z
  subst ei
  obtain ⟨t, e⟩ := (show ∃ t, w = Value.int i t from rz)
  subst e
  exact ⟨hi, .int i, H', I'.tok _, ⟨_, rfl⟩, qz⟩
def evLen (lm : Int → Option (Nat × CM)) (me : EM) : EM := fun ρ => (me ρ).bind fun a => (rdD a.2 a.1).bind fun d => match d with
  | .dict [(.none, .int c), (.none, .tuple fs)] => (frz1 a.2 a.1).bind fun b => (lm c).bind fun m => if m.1 = 1 then (m.2 [.val b.1]).bind fun x => (match x.1 with
    | .val (.int i) => if (decide (0 ≤ i) && Nat.ble i.toNat 9223372036854775807) = true then some (.sv (.val (.int i)), b.2) else none
    | _ => none) else none
  | d => (gLen [d]).bind fun s => some (.sv s, a.2)
def LenOk (k : Kx) (X : Cx) (n : Nat) (lm : Int → Option (Nat × CM)) : Prop := ∀ c np cm C ns, lm c = some (np, cm) → k.CT c = some (C, ns) → ∃ g fd ps io, PySem.W.findIn X.K (.ref C) "__len__" = some (some (.ref g)) ∧ PySem.W.isFn X.K (.ref g) = true ∧ Binds X.K fd ps [] ∧
  FnOk X.prog X.w X.K X.mg X.base CX0 n g fd ps (spF k io np cm)
theorem Aft.call0 {k : Kx} {ρ ρ1 : Rho} {σ : L2.St} {F H F1 H1 F' H' : Hp} {I : Addr → Prop} (A : Aft k ρ σ F H ρ1 F1 H1) (sb : Sub F' H') (tr : Tr I F1 H1 F' H') (hI : ∀ p, ¬ I p) : Aft k ρ σ F H ρ1 F' H' := by
  refine A.trans ⟨⟨sb, A.fr.len, fun i d q => ?_, fun i o q => ?_, A.fr.dist⟩, tr.mono fun p z => (hI p z).elim, fun p z => z, fun i s q => ⟨s, q⟩⟩
  · obtain ⟨v, e, r⟩ := A.fr.vals i d q
    exact ⟨v, e, r.mono tr.sub⟩
  · obtain ⟨p, ho, e1, e2, e3, e4⟩ := A.fr.owns i o q
    exact ⟨p, ho, e1, tr.keep p ho e2 (hI p), tr.new p ho e2 e4.nt e3 (hI p), e4.mono tr.sub⟩
theorem simLenA {k : Kx} {X : Cx} {n : Nat} {lm : Int → Option (Nat × CM)} (ok : LenOk k X n lm) (hK : k.K = X.K) {te : TE} {me : EM} (he : SimE k te me) : SimE k (tCB (fun xs H Q => rLenS k.K xs H Q ∨ rLenOwn X n xs H Q) (tCons te tNil)) (evLen lm me) := by
  intro F ρ σ H Q f h
  unfold evLen at h
  refine he F ρ σ H _ f ((wpo_bind.mp h).mono fun a _ h => ?_)
  intro v F1 H1 A1 R1
  have h := wpo_bind.mp h
  cases e1 : rdD a.2 a.1 with
  | none => rw [e1] at h; exact h.elim
  | some d =>
    rw [e1] at h
    have rd := R1.rd A1.fr e1
    have gen : wpo ((gLen [d]).bind fun s => some (Rv.sv s, a.2)) (fun x => ∀ v F' H', Aft k ρ σ F H x.2 F' H' → RR k H F' x.2 σ H' x.1 v → Q v H') → rLenS k.K [v] H1 Q ∨ rLenOwn X n [v] H1 Q := fun h =>
      .inl (simLen F1 a.2 σ H1 [v] [d] Q A1.fr (.cons rd .nil) ((wpo_bind.mp h).mono fun s _ h v F' H' A R => h v F' H' (A1.trans A) (R.back A1)))
    replace h : wpo (match d with
      | .dict [(.none, .int c), (.none, .tuple fs)] => (frz1 a.2 a.1).bind fun b => (lm c).bind fun m => if m.1 = 1 then (m.2 [.val b.1]).bind fun x => (match x.1 with
        | .val (.int i) => if (decide (0 ≤ i) && Nat.ble i.toNat 9223372036854775807) = true then some (Rv.sv (.val (.int i)), b.2) else none
        | _ => none) else none
      | d => (gLen [d]).bind fun s => some (.sv s, a.2)) _ := h
    split at h
    · rename_i c fs
      have h := wpo_bind.mp h
      cases e2 : frz1 a.2 a.1 with
      | none => rw [e2] at h; exact h.elim
      | some b =>
        rw [e2] at h
        obtain ⟨F2, A2, _, r2, _⟩ := frz1_ok f A1 R1 e2
        have h := wpo_bind.mp h
        cases e3 : lm c with
        | none => rw [e3] at h; exact h.elim
        | some m =>
          rw [e3] at h
          replace h : wpo (if m.1 = 1 then (m.2 [.val b.1]).bind fun x => (match x.1 with
            | .val (.int i) => if (decide (0 ≤ i) && Nat.ble i.toNat 9223372036854775807) = true then some (Rv.sv (.val (.int i)), b.2) else none
            | _ => none) else none) _ := h
          split at h
          · rename_i e1'
            obtain ⟨p, dx, C, ns, vs, rfl, q1, q2, _⟩ := rd.obj A1.fr.sub
            obtain ⟨g, fd, ps, io, o1, o2, o3, o4⟩ := ok c m.1 m.2 C ns (by rw [e3]) q1
            refine .inr ⟨p, C, dx, _, g, fd, ps, _, rfl, q2, o1, o2, o4, o3, ?_⟩
            refine ⟨F2, [.val b.1], A2.fr.sub, .cons r2 .nil (fun o z => nomatch z), by rw [e1']; rfl, (wpo_bind.mp h).mono fun x _ h => ?_⟩
            intro w F' H' sb tr rr ot
            clear ot
            obtain ⟨x1, x2⟩ := x
            dsimp only at h rr
            cases x1 with
            | own o => exact h.elim
            | val dv =>
              cases dv with
              | int i =>
                replace h : wpo (if (decide (0 ≤ i) && Nat.ble i.toNat 9223372036854775807) = true then some (Rv.sv (.val (.int i)), b.2) else none) _ := h
                split at h
                · rename_i hi
                  simp only [Bool.and_eq_true, decide_eq_true_eq] at hi
                  replace hi : 0 ≤ i ∧ i < 2 ^ 63 := ⟨hi.1, by have := Nat.le_of_ble_eq_true hi.2; omega⟩
                  have hw : w = .int i := by cases rr; rfl
                  refine ⟨i, hw, hi, ?_⟩
                  rw [hw]
                  refine h _ F' H' (A2.call0 sb tr fun p ⟨j, o, z, _⟩ => ?_) (.int i)
                  cases j <;> simp at z
                · exact h.elim
              | _ => exact h.elim
          · exact h.elim
    · exact gen h
end Pv

/-! Pvg: enumerate over lists and tuples. -/
namespace Pv
open PySem PySem.Spec PySem.SeqAt PyProof.Rows L2

set_option maxHeartbeats 1000000 in
theorem meets_enumB {v : Value} {o : Obj} {H : Heap → Prop} (B : Begins v o H) :
    Meets (Builtin.«enumerate.__new__» ⟨[.type "enumerate", v], []⟩) (fun _ R s => H s.heap ∧
      R (.ok (.ret (.ref (s.heap.push o).objs.size))) { s with heap := (s.heap.push o).push { cls := .type "enumerate", data := .fields #[.none, .bool false, .ref s.heap.objs.size, rawInt 0, .none, .none] } }) :=
  .of_wp fun prog w A R s h => by
    obtain ⟨hp, g, d, tk, os⟩ := s; obtain ⟨h1, h⟩ := h
    have hsub := sub_enumerate
    have hI := fun (A : Around) (E : Value → Shared → Prop) (Q : Value → Shared → Prop) => B.iter prog w A E ⟨hp, g, d, tk, os⟩ Q h1
    wp_walk
    refine wpAny_stack_any fun st => wpAny_pure ?_
    split
    · rename_i c _ _ _ _ _
      cases (c == Value.type "enumerate")
      · wp_walk using hI _ _ _
        exact ⟨_, rfl, h⟩
      · wp_walk using hI _ _ _
        exact ⟨_, rfl, h⟩
    · wp_walk using hI _ _ _
      exact ⟨_, rfl, h⟩
theorem enumB_begins {prog : Program} {w : World} {A : Around} {E : Value → Shared → Prop} {s : Shared} {v : Value} {o : Obj} {H : Heap → Prop} {Q : Value → Shared → Prop} (B : Begins v o H) (h1 : H s.heap)
    (h : ∀ h', IsEnum h' (s.heap.objs.size + 1) s.heap.objs.size 0 .none → h'.get? s.heap.objs.size = some o → (∀ b u, s.heap.get? b = some u → h'.get? b = some u) → Q (.ref (s.heap.objs.size + 1)) { s with heap := h' }) :
    wpAny (model prog w) A (call (.type "enumerate") [v]) Q E s := by
  refine callType_new F.called_enumerate (by decide) (F.typeCall_enumerate_1 _) (F.newCall_enumerate_1 _) (fun obj => F.args_object_init_2 obj _) F.entry_enumerate_new (meets_enumB B) ⟨h1, ?_⟩
  have hz : (s.heap.push o).objs.size = s.heap.objs.size + 1 := Heap.size_push ..
  show _ ∧ _
  rw [hz]
  have he : IsEnum ((s.heap.push o).push { cls := .type "enumerate", data := .fields #[.none, .bool false, .ref s.heap.objs.size, rawInt 0, .none, .none] }) (s.heap.objs.size + 1) s.heap.objs.size 0 .none := by
    have q := Heap.get?_push_size (s.heap.push o) (o := { cls := .type "enumerate", data := .fields #[.none, .bool false, .ref s.heap.objs.size, rawInt 0, .none, .none] }) rfl
    rw [hz] at q; exact q
  exact ⟨⟨_, he, rfl⟩, h _ he (Heap.get?_push_of_some _ (Heap.get?_push_size _ B.free)) fun b u y => Heap.get?_push_of_some _ (Heap.get?_push_of_some _ y)⟩
def IteT (K : PySem.W.Frag) (a : Addr) : It where
  go := fun i H => ∃ (xs : List V) (x : V), SqT K H a xs ∧ xs[i]? = some x
  yld := fun i H v H' => ∃ T x, v = .ref T ∧ H T = none ∧ H' = upd H T (.tup [.int (i : Nat), x]) ∧ ∀ xs, SqT K H a xs → xs[i]? = some x
  stop := fun i H => ∃ xs : List V, SqT K H a xs ∧ xs.length ≤ i
theorem turn_enumT {P : Program} {w : World} {K : PySem.W.Frag} {elts : List Expr} {kk : Nat} {tpos : Pos} (a e it : Addr) :
    Turn P w K (.Tuple elts kk tpos) (IteT K a) [e, it] e (fun i h => (∃ old, IsEnum h e it ((i : Nat) : Int) old) ∧ h.IsTupleIter it a i ∧ e ≠ it) := by
  have ap : ∀ {h : Heap} {i : Nat} {old : Value} {j : Int} {its : Array Value}, IsEnum h e it j old → h.IsTupleIter it a i → h.IsTuple a its → a ≠ it ∧ e ≠ a := by
    intro h i old j its h1 h2 h3
    obtain ⟨o2, g2, c2, _⟩ := h2
    obtain ⟨o3, g3, c3, _⟩ := h3
    refine ⟨fun z => ?_, fun z => ?_⟩
    · rw [z, g2] at g3; cases g3; rw [c2] at c3; exact absurd c3 (by decide)
    · rw [← z, show h.get? e = _ from h1] at g3; cases g3; exact absurd (show Value.type "enumerate" = Value.type "tuple" from c3) (by decide)
  refine ⟨by simp, fun i h st b hb => ?_, fun i h h' st kp => ?_, ?_, ?_, fun A i s Q E st q => ?_⟩
  · obtain ⟨⟨old, he⟩, ⟨o, ho, hc, hd⟩, _⟩ := st
    rcases (show b = e ∨ b = it by simpa using hb) with rfl | rfl
    · exact ⟨_, he, fun v q => nomatch q⟩
    · exact ⟨o, ho, fun v q => by rw [hd] at q; cases q⟩
  · obtain ⟨⟨old, he⟩, hi, hne⟩ := st
    exact ⟨⟨old, kp e (by simp) _ he⟩, hi.at fun o q => kp it (by simp) o q, hne⟩
  · intro X hP hw hK hc i pins s σ H E I hf st hg
    subst hP hw hK
    obtain ⟨⟨old, he⟩, hit, hne⟩ := st
    obtain ⟨xs, x, hq, hx⟩ := hg
    obtain ⟨its, rv, p, hz⟩ := I.tuple hq
    have p : s.heap.IsTuple a its.toArray := p
    obtain ⟨u, hu, ru⟩ := rv.get hx
    obtain ⟨na, ne⟩ := ap he hit p
    have D := Draws.tuple (prog := X.prog) (w := X.w) (A := X.A.in1) (I.ok.hd hc) it a na its.toArray
    have hil : i < its.length := (List.getElem?_eq_some_iff.mp hu).1
    have hel : e < s.heap.objs.size := Heap.lt_size he
    have hitl : it < s.heap.objs.size := by obtain ⟨_, q, _⟩ := hit; exact Heap.lt_size q
    refine wpAny_pyNext_enum_itemD D he ⟨hit, p⟩ (by simpa using hil) hne (by simp [hne, ne]) fun u' h' tk hP ho st' hT hsz hk => ?_
    have hu' : u' = u := by
      have : its[i]? = some u' := by simpa using hP
      rw [hu] at this; cases this; rfl
    subst hu'
    refine ⟨_, rfl, wpAny_letOwnedTupleGo_enum (s := { s with heap := h', toks := tk + 1 }) ho fun h'' he' sb => ?_⟩
    have hT2 := (sb.2 _ (Nat.ne_of_gt hel)).trans hT
    have new : ObjOk X.prog X.w (upd H s.heap.objs.size (.tup [.int (i : Nat), x])) h'' s.heap.objs.size (.tup [.int (i : Nat), x]) := by
      refine ⟨by show 2 ≤ sizeLine; decide, [.int i tk, u'], .cons ⟨_, rfl⟩ (.cons ru .nil), ⟨_, hT2, rfl, _, rfl⟩⟩
    have I1 : Inv X pins σ (upd H s.heap.objs.size (.tup [.int (i : Nat), x])) { s with heap := h'', toks := tk + 1 } := by
      refine I.turnedNew (ch := [e, it]) (fun b ob hb q => ?_) hf (Nat.le_refl _) new
      have hb1 : b ≠ e := fun z => hb (by simp [z])
      have hb2 : b ≠ it := fun z => hb (by simp [z])
      exact (sb.2 b hb1).trans (hk b ob hb1 hb2 q)
    refine ⟨.ref s.heap.objs.size, _, I1, rfl, ⟨_, x, rfl, I.hok.fresh (Nat.le_refl _), rfl, fun ys hy => by rw [I.tuple_inj hy hq]; exact hx⟩, ⟨⟨u', ?_⟩, st'.1.at fun o q => (sb.2 it (Ne.symm hne)).trans q, hne⟩, fun b hb => ?_⟩
    · have e1 : ((i + 1 : Nat) : Int) = (i : Int) + 1 := by omega
      rw [e1]; exact he'
    · have hb' : b ≠ s.heap.objs.size := by
        rcases (show b = e ∨ b = it by simpa using hb) with rfl | rfl
        · exact Nat.ne_of_lt hel
        · exact Nat.ne_of_lt hitl
      rw [upd_ne hb']
      exact (hf b hb).1
  · intro X hP hw hK hc i pins s σ H E I hf st hg
    subst hP hw hK
    obtain ⟨⟨old, he⟩, hit, hne⟩ := st
    obtain ⟨xs, hq, hx⟩ := hg
    obtain ⟨its, rv, p, hz⟩ := I.tuple hq
    have p : s.heap.IsTuple a its.toArray := p
    obtain ⟨na, ne⟩ := ap he hit p
    have hl := rv.length
    obtain ⟨f0, f1, f2, f3, f4, f5⟩ := hf it (by simp)
    have D : Draws X.prog X.w X.A.in1 it [it, a] i (fun _ _ => False) (fun j h => j = i ∧ h.IsTupleIter it a i ∧ h.IsTuple a its.toArray) := by
      refine ⟨fun _ _ st => let ⟨o, ho, _⟩ := st.2.1; ⟨o, ho⟩, fun _ _ _ st hk => ⟨st.1, st.2.1.at fun o e => hk it (by simp) o e, st.2.2.at fun o e => hk a (by simp) o e⟩, fun j s Q E hj st _ => ?_, fun s Q E st hE => ?_⟩
      · omega
      · exact wpAny_nextOf_tuple_end (I.ok.hd hc) st.2.1 st.2.2 (by simp; omega) hE
    exact wpAny_pyNext_enum_endD D he ⟨rfl, hit, p⟩ fun h' eb => ⟨rfl, I.turned (t' := s.toks) (fun b o hb q => eb b o hb q) f0 f1 f3 f4 f5⟩
  · obtain ⟨⟨_, he⟩, _⟩ := st
    exact wpAny_pyIter_enum he q
def iEnumS (K : PySem.W.Frag) (ta : TA) : TI := fun σ H R => ta σ H fun vs H1 => (∃ a xs, vs = [.ref a] ∧ SqL K H1 a xs ∧ R (Ite K a) H1) ∨ (∃ a xs, vs = [.ref a] ∧ SqT K H1 a xs ∧ R (IteT K a) H1)
theorem pi_enumS {X : Cx} {e : Expr} {ta : TA} {p pos tpos : Pos} {elts : List Expr} {kk : Nat} (hg : Gl X "enumerate") (hm : X.mg "enumerate" = none) (ha : PA X [e] ta) (hs : starEach [e] X.env = [(false, eval e X.env)] := by rfl) :
    PI X (.Tuple elts kk tpos) (.Call (.Name "enumerate" p) [e] [] pos) (iEnumS X.K ta) := by
  refine ⟨fun pins s σ H R I h => Call_ (ld_blt I hg hm boot_enumerate (PyProof.Rows.callWith_type1 (thn (ha.run pos pins s σ H _ I h) fun us s1 ⟨vs, H1, I1, r1, q1⟩ => ?_) hs rfl))⟩
  have fp : ∀ b ∈ [s1.heap.objs.size + 1, s1.heap.objs.size], FpOk X pins H1 b := fun b hb => by
    have hle : s1.heap.objs.size ≤ b := by
      rcases (show b = s1.heap.objs.size + 1 ∨ b = s1.heap.objs.size by simpa using hb) with rfl | rfl <;> omega
    exact I1.fpOk hle (I1.hok.fresh hle)
  rcases q1 with ⟨a, xs, rfl, hq, q⟩ | ⟨a, xs, rfl, hq, q⟩
  · cases r1 with
    | cons r rr =>
      cases rr
      cases r
      obtain ⟨its, rv, p', hz⟩ := I1.list hq
      refine call_enumerate_list p'.isList fun h' he hit hsz hk => wpAny_pyIter_enum he ?_
      exact ⟨s1.heap.objs.size + 1, _, _, _, H1, rfl, I1.kept (t' := s1.toks) hk, turn_enum a (s1.heap.objs.size + 1) s1.heap.objs.size, ⟨⟨.none, he⟩, hit, Nat.succ_ne_self _⟩, fp, q⟩
  · cases r1 with
    | cons r rr =>
      cases rr
      cases r
      obtain ⟨its, rv, p', hz⟩ := I1.tuple hq
      refine enumB_begins (begins_tuple a its.toArray) p' fun h' he hit hk => wpAny_pyIter_enum he ?_
      exact ⟨s1.heap.objs.size + 1, _, _, _, H1, rfl, I1.kept (t' := s1.toks) hk, turn_enumT a (s1.heap.objs.size + 1) s1.heap.objs.size, ⟨⟨.none, he⟩, ⟨_, hit, rfl, rfl⟩, Nat.succ_ne_self _⟩, fp, q⟩
def enumD (xs : List D) : List D := (List.range xs.length).map fun i => .tuple [.int (i : Nat), xs.getD i .none]
theorem enumD_get {xs : List D} {i : Nat} {d : D} (h : (enumD xs)[i]? = some d) : ∃ x, xs[i]? = some x ∧ d = .tuple [.int (i : Nat), x] := by
  have hi : i < xs.length := by
    have := (List.getElem?_eq_some_iff.mp h).1
    simpa [enumD] using this
  simp [enumD, hi] at h
  exact ⟨xs[i], by simp [hi], h.symm⟩
theorem enumD_len {xs : List D} : (enumD xs).length = xs.length := by simp [enumD]
theorem pairD {k : Kx} {F F' H' : Hp} {vs : List V} {xs : List D} {i : Nat} {d : D} {x : V} {H'' : Hp} (r : RepL k F vs xs) (s1 : Sub F F') (s2 : Sub F' H') (e : (enumD xs)[i]? = some d) (y : YPair (fun i => some (.int (i : Nat))) (fun i => vs[i]?) i H' x H'') :
    YOk k F' H' x H'' d := by
  obtain ⟨z, e1, rfl⟩ := enumD_get e
  obtain ⟨v, e2, rv⟩ := r.get e1
  obtain ⟨T, a, b, h1, h2, h3, h4, h5⟩ := y
  simp only [Option.some.injEq] at h4
  subst h4
  have h5 : vs[i]? = some b := h5
  rw [e2] at h5; cases h5
  subst h1
  have su : Sub F' (upd F' T (.tup [.int (i : Nat), v])) := Sub.upd (s2.none_of h2)
  exact .inr (.inl ⟨T, _, h2, h3, .tup upd_same (.cons (.int _) (.cons ((rv.mono s1).mono su) .nil))⟩)
theorem walkD_enumL {k : Kx} {F : Hp} {a : Addr} {vs : List V} {xs : List D} (h : SqL k.K F a vs) (r : RepL k F vs xs) : WalkD k (Ite k.K a) F (enumD xs) := by
  refine ⟨fun H => SqL k.K H a vs, _, by rw [enumD_len, ← r.length]; exact walk_enum, fun F' H' s1 s2 => s2.sqL (s1.sqL h), fun i d F' H' x H'' e s1 s2 y => pairD r s1 s2 e y⟩
theorem walk_enumT {K : PySem.W.Frag} {a : Addr} {xs : List V} : Walk (IteT K a) xs.length (fun H => SqT K H a xs) (YPair (fun i => some (.int (i : Nat))) (fun i => xs[i]?)) := by
  refine ⟨fun i _ hi q => ⟨xs, xs[i], q, by simp [hi]⟩, fun _ q => ⟨xs, q, Nat.le_refl _⟩, fun i H v H' _ q y => ?_⟩
  obtain ⟨T, x, h1, h2, h3, h4⟩ := y
  exact ⟨T, .int (i : Nat), x, h1, h2, h3, rfl, h4 xs q⟩
theorem walkD_enumT {k : Kx} {F : Hp} {a : Addr} {vs : List V} {xs : List D} (h : SqT k.K F a vs) (r : RepL k F vs xs) : WalkD k (IteT k.K a) F (enumD xs) := by
  refine ⟨fun H => SqT k.K H a vs, _, by rw [enumD_len, ← r.length]; exact walk_enumT, fun F' H' s1 s2 => s2.sqT (s1.sqT h), fun i d F' H' x H'' e s1 s2 y => pairD r s1 s2 e y⟩
def ivEnum (me : EM) : IM := fun ρ => (me ρ).bind fun a => (frz1 a.2 a.1).bind fun b => (seqD b.1).bind fun xs => some (enumD xs, b.2)
theorem simEnum {k : Kx} {tl : TE} {me : EM} (he : SimE k tl me) : SimI k (iEnumS k.K (tCons tl tNil)) (ivEnum me) := by
  intro F ρ σ H R f h
  unfold ivEnum at h
  refine he F ρ σ H _ f ((wpo_bind.mp h).mono fun a _ h => ?_)
  intro v F1 H1 A1 R1
  have h := wpo_bind.mp h
  cases e1 : frz1 a.2 a.1 with
  | none => rw [e1] at h; exact h.elim
  | some b =>
    rw [e1] at h
    obtain ⟨F2, A2, s2, r2, _⟩ := frz1_ok f A1 R1 e1
    have h := wpo_bind.mp h
    obtain ⟨d, ρ2⟩ := b
    dsimp only at h r2 A2
    unfold seqD at h
    split at h
    · cases r2 with
      | lst h2 r3 => exact .inl ⟨_, _, rfl, .inl (.inl (A2.fr.sub.ex h2)), h _ F2 H1 A2 (walkD_enumL (.inl (.inl h2)) r3)⟩
    · cases r2 with
      | tup h2 r3 => exact .inr ⟨_, _, rfl, A2.fr.sub.sqT (SqT.of h2), h _ F2 H1 A2 (walkD_enumT (SqT.of h2) r3)⟩
    · cases r2 with
      | fls h2 r3 => exact .inl ⟨_, _, rfl, A2.fr.sub.sqL h2.sq, h _ F2 H1 A2 (walkD_enumL h2.sq r3)⟩
    · cases r2 with
      | xt h2 r3 => exact .inr ⟨_, _, rfl, A2.fr.sub.sqT h2.sqT, h _ F2 H1 A2 (walkD_enumT h2.sqT r3)⟩
    · exact h.elim
end Pv

/-! Pvh: several names at once; list(range(..)). -/
namespace Pv
open PySem PySem.Spec PySem.SeqAt L2
section
variable {k : Kx} {P : List Nat} {Wx : Option WX} {e : Ent} {ρ ρ' ρ0 : Rho} {σ : L2.St} {F H F0 H0 : Hp}
def frzP (ρ : Rho) : List Rv → Option (List SV × Rho)
  | [] => some ([], ρ)
  | .sv s :: rs => (frzP ρ rs).bind fun a => some (s :: a.1, a.2)
  | .plc j :: rs => (frz1 ρ (.plc j)).bind fun d => (frzP d.2 rs).bind fun a => some (.val d.1 :: a.1, a.2)
inductive Prs (k : Kx) (eH F H : Hp) : (Addr → Prop) → List SV → List V → Prop
  | nil {O : Addr → Prop} : Prs k eH F H O [] []
  | val {O : Addr → Prop} {d : D} {v : V} {ss : List SV} {vs : List V} : Rep k F v d → Prs k eH F H O ss vs → Prs k eH F H O (.val d :: ss) (v :: vs)
  | own {O : Addr → Prop} {o : OB} {p : Addr} {ho : HO} {ss : List SV} {vs : List V} : eH p = none → H p = some ho → F p = none → RepO k F p o ho → ¬ O p → Prs k eH F H (fun a => O a ∨ a = p) ss vs → Prs k eH F H O (.own o :: ss) (.ref p :: vs)
theorem Prs.sub {eH F' : Hp} (sb : Sub F F') : ∀ {O : Addr → Prop} {ss : List SV} {vs : List V}, (∀ p, F p = none → F' p ≠ none → eH p ≠ none) → Prs k eH F H O ss vs → Prs k eH F' H O ss vs
  | _, _, _, _, .nil => .nil
  | _, _, _, hf, .val a b => .val (a.mono sb) (Prs.sub sb hf b)
  | _, _, _, hf, .own (p := p) a b c d e f => .own a b (by
      cases z : F' p with
      | none => rfl
      | some u => exact absurd a (hf p c (by rw [z]; simp))) (d.mono sb) e (Prs.sub sb hf f)
theorem frzP_ok (f0 : FR k F0 ρ0 σ H0) : ∀ {rs : List Rv} {vs : List V} {ρ ρ' : Rho} {F Hs : Hp} {ss : List SV} {O : Addr → Prop}, Aft k ρ0 σ F0 H0 ρ F H → (∀ p, H0 p ≠ none → Hs p ≠ none) → (∀ p, O p → Hs p ≠ none) → RRs k F ρ σ H Hs rs vs → frzP ρ rs = some (ss, ρ') →
    ∃ F', Aft k ρ0 σ F0 H0 ρ' F' H ∧ Sub F F' ∧ (∀ p, F p = none → F' p ≠ none → H0 p ≠ none) ∧ Prs k H0 F' H O ss vs
  | [], _, _, _, F, _, _, _, A, _, _, .nil, q => by
    simp only [frzP, Option.some.injEq, Prod.mk.injEq] at q
    obtain ⟨rfl, rfl⟩ := q
    exact ⟨F, A, Sub.refl _, fun p h1 h2 => absurd h1 h2, .nil⟩
  | .sv (.val d0) :: rs, v :: vs, ρ, ρ', F, Hs, ss, O, A, hs, hO, .cons (H1 := H1) a b c d, q => by
    simp only [frzP, Option.bind_eq_some_iff] at q
    obtain ⟨y, e2, e3⟩ := q
    cases e3
    obtain ⟨F2, A2, s2, n2, r2⟩ := frzP_ok f0 A (fun p h => c p (hs p h)) (fun p h => c p (hO p h)) b e2
    exact ⟨F2, A2, s2, n2, .val (Rep.mono s2 a) r2⟩
  | .sv (.own o) :: rs, v :: vs, ρ, ρ', F, Hs, ss, O, A, hs, hO, .cons (H1 := H1) a b c d, q => by
    simp only [frzP, Option.bind_eq_some_iff] at q
    obtain ⟨y, e2, e3⟩ := q
    cases e3
    obtain ⟨p, ho, e1, n, h1, n1, ro⟩ := a
    subst e1
    obtain ⟨p', hp', hn'⟩ := d o rfl
    cases hp'
    obtain ⟨F2, A2, s2, n2, r2⟩ := frzP_ok (O := fun a => O a ∨ a = p) f0 A (fun p h => c p (hs p h)) (fun q h => by
      rcases h with h | rfl
      · exact c q (hO q h)
      · exact hn') b e2
    have z0 : H0 p = none := by
      cases z : H0 p with
      | none => rfl
      | some u => exact absurd n (hs p (by rw [z]; simp))
    refine ⟨F2, A2, s2, n2, .own z0 h1 ?_ (ro.mono s2) (fun z => hO p z n) r2⟩
    cases z : F2 p with
    | none => rfl
    | some u => exact absurd z0 (n2 p n1 (by rw [z]; simp))
  | .plc j :: rs, v :: vs, ρ, ρ', F, Hs, ss, O, A, hs, hO, .cons (H1 := H1) a b c d, q => by
    simp only [frzP, Option.bind_eq_some_iff] at q
    obtain ⟨x, e1, y, e2, e3⟩ := q
    cases e3
    obtain ⟨F1, A1, s1, r1, n1, l1⟩ := frz1_ok f0 A (r := .plc j) (v := v) a e1
    have n1' : ∀ p, F p = none → F1 p ≠ none → H0 p ≠ none := fun p h1 h2 => by
      obtain ⟨e5, z⟩ := n1 p h1 h2
      rcases z with z | ⟨o, z⟩
      · exact z
      · cases z
    have b' := RRs.frz s1 l1 b fun p h1 h2 => c p (hs p (n1' p h1 h2))
    obtain ⟨F2, A2, s2, n2, r2⟩ := frzP_ok f0 A1 (fun p h => c p (hs p h)) (fun p h => c p (hO p h)) b' e2
    refine ⟨F2, A2, s1.trans s2, fun p h1 h2 => ?_, .val (r1.mono s2) r2⟩
    cases z : F1 p with
    | none => exact n2 p z h2
    | some u => exact n1' p h1 (by rw [z]; simp)
def parS (P : List Nat) : List Nat → List SV → Rho → Option Rho
  | [], [], ρ => some ρ
  | i :: is, s :: ss, ρ => if i ∈ P then none else parS P is ss (ρ.set i (some s))
  | _, _, _ => none
def setS : List Nat → List V → L2.St → L2.St
  | i :: is, v :: vs, σ => setS is vs (σ.set i (some v))
  | _, _, σ => σ
theorem par_ok (hP : ∀ q ∈ e.pr, q.1 ∈ P) : ∀ {is : List Nat} {ss : List SV} {vs : List V} {ρ : Rho} {σ : L2.St} {O : Addr → Prop}, SInv k e ρ σ F H → (∀ p, Own ρ σ p → O p) → Prs k e.H F H O ss vs → parS P is ss ρ = some ρ' → SInv k e ρ' (setS is vs σ) F H ∧ is.length = vs.length
  | [], [], _, ρ, σ, O, s, _, .nil, h => by
    simp only [parS, Option.some.injEq] at h
    subst h; exact ⟨s, rfl⟩
  | i :: is, _, _, ρ, σ, O, s, hO, .val (v := v) (d := d) a b, h => by
    simp only [parS] at h
    split at h
    · cases h
    · rename_i hi
      obtain ⟨q1, q2⟩ := par_ok hP (σ := σ.set i (some v)) ⟨s.fr.setVal a, s.tr, fun p z => s.ow p z.of_setVal, pr_set hP hi s.pr⟩ (fun p z => hO p z.of_setVal) b h
      exact ⟨q1, congrArg Nat.succ q2⟩
  | i :: is, _, _, ρ, σ, O, s, hO, .own (p := p) (o := o) n h1 n1 ro no b, h => by
    simp only [parS] at h
    split at h
    · cases h
    · rename_i hi
      obtain ⟨q1, q2⟩ := par_ok hP (σ := σ.set i (some (.ref p))) ⟨s.fr.setOwn h1 n1 ro fun z => no (hO p z), s.tr, fun a z => z.of_setOwn.elim (s.ow a) fun q => .inr (q ▸ n), pr_set hP hi s.pr⟩ (fun a z => z.of_setOwn.imp (hO a) id) b h
      exact ⟨q1, congrArg Nat.succ q2⟩
  | [], _, _, _, _, _, _, _, .val _ _, h => by simp [parS] at h
  | [], _, _, _, _, _, _, _, .own _ _ _ _ _ _, h => by simp [parS] at h
  | _ :: _, _, _, _, _, _, _, _, .nil, h => by simp [parS] at h
theorem Prs.back {eH : Hp} (hb : ∀ p, H0 p = none → eH p = none) : ∀ {O : Addr → Prop} {ss : List SV} {vs : List V}, Prs k H0 F H O ss vs → Prs k eH F H O ss vs
  | _, _, _, .nil => .nil
  | _, _, _, .val a b => .val a (Prs.back hb b)
  | _, _, _, .own a b c d e f => .own (hb _ a) b c d e (Prs.back hb f)
def exPar (P is : List Nat) (ma : AM) : SM := fun ρ => (ma ρ).bind fun a => (frzP a.2 a.1).bind fun b => (parS P is b.1 b.2).bind fun ρ' => some (.nx, ρ')
theorem par_all {ta : TA} {ma : AM} {is : List Nat} (ha : SimA k ta ma) {D : Ends} (hP : ∀ q ∈ e.pr, q.1 ∈ P) (s : SInv k e ρ σ F H) (h : wpo (exPar P is ma ρ) (Post k e Wx D)) {Q : List V → Hp → Prop}
    (hq : ∀ vs H1 ρ' F', is.length = vs.length → SInv k e ρ' (setS is vs σ) F' H1 → (∀ σ F H, SInv k e ρ' σ F H → D.nx σ H) → Q vs H1) : ta σ H Q := by
  unfold exPar at h
  refine ha F ρ σ H _ s.fr ((wpo_bind.mp h).mono fun a _ h => ?_)
  intro vs F1 H1 A1 R1
  have h := wpo_bind.mp h
  cases e1 : frzP a.2 a.1 with
  | none => rw [e1] at h; exact h.elim
  | some b =>
    rw [e1] at h
    obtain ⟨ss, ρ2⟩ := b
    obtain ⟨F2, A2, s2, n2, r2⟩ := frzP_ok (O := fun p => H p ≠ none) s.fr A1 (fun p h => h) (fun p h => h) R1 e1
    have h := wpo_bind.mp h
    dsimp only at h
    cases e2 : parS P is ss ρ2 with
    | none => rw [e2] at h; exact h.elim
    | some ρ' =>
      rw [e2] at h
      have s' := s.aft A2
      obtain ⟨q1, q2⟩ := par_ok hP s' (fun p z => by
        obtain ⟨u, hu⟩ := s.fr.own_some (A2.ow p z)
        show H p ≠ none
        rw [hu]; simp) (r2.back fun p hp => by
          cases z : e.H p with
          | none => rfl
          | some u =>
            obtain ⟨u', hu'⟩ := s.tr.there p u z
            rw [hp] at hu'; cases hu') e2
      exact hq vs H1 ρ' F2 q2 q1 h
theorem simPar {ta : TA} {ma : AM} {i j : Nat} (ha : SimA k ta ma) : SimS k P Wx (tPar i j ta) (exPar P [i, j] ma) := by
  intro e ρ σ F H D hP s h
  refine par_all ha hP s h fun vs H1 ρ' F' hl s' q => ?_
  match vs, hl with
  | [v, w], _ => exact ⟨v, w, rfl, q _ F' H1 s'⟩
def gNames : List Nat → TGs
  | [] => gNil
  | i :: is => gCons (gName i) (gNames is)
theorem gNames_ok : ∀ {is : List Nat} {vs : List V} {σ : L2.St} {H : Hp} {Q : L2.St → Hp → Prop}, is.length = vs.length → Q (setS is vs σ) H → gNames is vs σ H Q
  | [], [], _, _, _, _, q => ⟨rfl, q⟩
  | i :: is, v :: vs, _, _, _, h, q => ⟨v, vs, rfl, gNames_ok (by simpa using h) q⟩
theorem simParT {ta : TA} {ma : AM} {is : List Nat} {n : Nat} (hn : is.length = n) (hz : n ≤ sizeLine) (ha : SimA k ta ma) : SimS k P Wx (tAsg (tTup ta) (gTup k.K n (gNames is))) (exPar P is ma) := by
  intro e ρ σ F H D hP s h
  refine par_all ha hP s h fun vs H1 ρ' F' hl s' q => ⟨by omega, fun p hp => ?_⟩
  refine ⟨p, vs, rfl, .inl (.inl upd_same), by omega, gNames_ok hl (q _ F' _ (s'.temp ?_ (s'.fr.sub.none_of hp) fun z => ?_))⟩
  · cases z : e.H p with
    | none => rfl
    | some u =>
      obtain ⟨u', hu'⟩ := s'.tr.there p u z
      rw [hp] at hu'; cases hu'
  · obtain ⟨u, hu⟩ := s'.fr.own_some z
    rw [hp] at hu; cases hu
end
/-! list(range(..)), tuple(range(..)) -/
def rgOkB (a b : Int) : Bool := big62 a && big62 b && Nat.ble (b - a).toNat 16777216
theorem rgOkB_ok {a b : Int} (h : rgOkB a b = true) : RgOk a b := by
  simp only [rgOkB, Bool.and_eq_true] at h
  have h1 := big62_ok h.1.1
  have h2 := big62_ok h.1.2
  exact ⟨h1.1, h1.2, h2.1, h2.2, Nat.le_of_ble_eq_true h.2⟩
def gLRg1 : D → Option SV
  | .int n => if rgOkB 0 n = true then some (.own (.lst (rngD 0 n.toNat))) else none
  | _ => none
theorem rep_rg {k : Kx} {F : Hp} {a b : Int} : RepL k F (rgV a b) (rngD a (b - a).toNat) := by
  unfold rgV rngD
  generalize (List.range (b - a).toNat) = l
  induction l with
  | nil => exact .nil
  | cons x l ih => exact .cons (.int _) ih
theorem simLRg1 {k : Kx} {te : TE} {me : EM} (he : SimE k te me) : SimE k (tLstRg (tRg1 te)) (evUn gLRg1 me) := by
  intro F ρ σ H Q f h
  unfold evUn at h
  refine he F ρ σ H _ f ((wpo_bind.mp h).mono fun a _ h => ?_)
  intro v F1 H1 A1 R1
  have h := wpo_bind.mp h
  cases e1 : rdD a.2 a.1 with
  | none => rw [e1] at h; exact h.elim
  | some d =>
    rw [e1] at h
    have rd := R1.rd A1.fr e1
    replace h : wpo ((gLRg1 d).bind _) _ := h
    replace h := wpo_bind.mp h
    unfold gLRg1 at h
    split at h
    · rename_i n
      split at h
      · rename_i hb
        rw [rd.int]
        refine ⟨n, rfl, rgOkB_ok hb, fun p hp => ?_⟩
        exact h (.ref p) F1 _ (A1.newOw hp) ⟨p, _, rfl, A1.none_of hp, upd_same, A1.fr.sub.none_of hp, _, rfl, by simpa using rep_rg (a := 0) (b := n)⟩
      · exact h.elim
    · exact h.elim
end Pv

/-! Pvn: nodes: a rule of the layer and its simulation, together. -/
namespace Pv
open PySem PySem.Spec PySem.SeqAt L2
abbrev kx (X : Cx) (CT : CTab) : Kx := ⟨X.K, CT⟩
def NE (X : Cx) (CT : CTab) (e : Expr) (m : EM) : Prop := SE (kx X CT) X e m
def NT (X : Cx) (CT : CTab) (e : Expr) (m : TM) : Prop := ST (kx X CT) X e m
def NTs (X : Cx) (CT : CTab) (es : List Expr) (m : TM) : Prop := ∃ tt, PTs X es tt ∧ SimT (kx X CT) tt m
def NA (X : Cx) (CT : CTab) (es : List Expr) (m : AM) : Prop := SA (kx X CT) X es m
def NI (X : Cx) (CT : CTab) (tg it : Expr) (m : IM) : Prop := ∃ wi, PI X tg it wi ∧ SimI (kx X CT) wi m
def NG (X : Cx) (CT : CTab) (P ts : List Nat) (tg : Expr) (m : GM) : Prop := ∃ g, PG X tg g ∧ SimG (kx X CT) P ts g m
def NGs (X : Cx) (CT : CTab) (P ts : List Nat) (tgs : List Expr) (m : GsM) : Prop := ∃ g, PGs X tgs g ∧ SimGs (kx X CT) P ts g m
def NO (X : Cx) (CT : CTab) (e : Option Expr) (m : OM) : Prop := ∃ t, PO X e t ∧ SimO (kx X CT) t m
def NS (X : Cx) (CT : CTab) (P : List Nat) (Wx : Option WX) (st : Stmt) (m : SM) : Prop := SS (kx X CT) P Wx X st m
def NSs (X : Cx) (CT : CTab) (P : List Nat) (Wx : Option WX) (sts : List Stmt) (m : SM) : Prop := SSs (kx X CT) P Wx X sts m

/-! ### the reading that a pure function itself is -/
def cE (k : Kx) (m : EM) : TE := fun σ H Q => ∃ F ρ, FR k F ρ σ H ∧ wpo (m ρ) (fun x => ∀ v F' H', Aft k ρ σ F H x.2 F' H' → RR k H F' x.2 σ H' x.1 v → Q v H')
theorem cE_sim {k : Kx} {m : EM} : SimE k (cE k m) m := fun F ρ σ H Q f h => ⟨F, ρ, f, h⟩
theorem cE_of {k : Kx} {X : Cx} {e : Expr} {m : EM} (h : SE k X e m) : PE X e (cE k m) := by
  obtain ⟨te, p, s⟩ := h
  exact ⟨fun pins sh σ H Q I ⟨F, ρ, f, q⟩ => p.run pins sh σ H Q I (s F ρ σ H Q f q)⟩
def cT (k : Kx) (m : TM) : TT := fun σ H Q => ∃ F ρ, FR k F ρ σ H ∧ wpo (m ρ) (fun x => ∀ F' H', Aft k ρ σ F H x.2 F' H' → Q x.1 H')
theorem cT_sim {k : Kx} {m : TM} : SimT k (cT k m) m := fun F ρ σ H Q f h => ⟨F, ρ, f, h⟩
theorem cT_of {k : Kx} {X : Cx} {es : List Expr} {m : TM} (h : ∃ tt, PTs X es tt ∧ SimT k tt m) : PTs X es (cT k m) := by
  obtain ⟨te, p, s⟩ := h
  exact ⟨fun pins sh σ H Q I ⟨F, ρ, f, q⟩ => p.run pins sh σ H Q I (s F ρ σ H Q f q)⟩
def cG (k : Kx) (P ts : List Nat) (m : GM) : TG := fun v σ H Q => ∃ e ρ F d, (∀ q ∈ e.pr, q.1 ∈ P) ∧ SInv k e ρ σ F H ∧ Rep k F v d ∧ wpo (m d ρ) (fun ρ' => ∀ σ', SInv k e ρ' σ' F H → Agr ts σ σ' → (∀ p, Own ρ' σ' p → Own ρ σ p) → Sls ρ ρ' → Q σ' H)
theorem cG_sim {k : Kx} {P ts : List Nat} {m : GM} : SimG k P ts (cG k P ts m) m := fun e ρ σ F H v d Q hP s r h => ⟨e, ρ, F, d, hP, s, r, h⟩
theorem cG_of {k : Kx} {X : Cx} {P ts : List Nat} {tg : Expr} {m : GM} (h : ∃ g, PG X tg g ∧ SimG k P ts g m) : PG X tg (cG k P ts m) := by
  obtain ⟨te, p, s⟩ := h
  exact ⟨fun pins sh σ H v u Q I r ⟨e, ρ, F, d, hP, si, rp, q⟩ => p.run pins sh σ H v u Q I r (s e ρ σ F H v d Q hP si rp q)⟩

section
variable {X : Cx} {CT : CTab} {pos p : Pos} {a b c e : Expr} {ma mb mc me : EM} {es : List Expr} {mr : AM} {mt mu : TM}
theorem _root_.L2.Room.u {n : Nat} {A : Around} (r : Room n A) : A.units + 200 < cLine := by have := r.un; omega
/-! names, constants -/
theorem nVar (i : Nat) {x : Str} (hN : X.N[i]? = some x := by rfl) (hv : Vis X.env.scope x := by first | exact Or.inl rfl | exact Or.inr (Or.inl rfl) | exact Or.inr (Or.inr rfl)) (hd : (x == ("__debug__" : Str)) = false := by decide)
    (hcd : (x == ("__classdict__" : Str)) = false := by decide) : NE X CT (.Name x pos) (evVar i) := ⟨_, pe_var hN hv hd hcd, simVar⟩
theorem nInt {i j} : NE X CT (.Constant (.int i) j pos) (evC (.int i)) := ⟨_, pe_int, simC fun _ => .int _⟩
theorem nBl {i j} : NE X CT (.Constant (.bool i) j pos) (evC (.bool i)) := ⟨_, pe_bl, simC fun _ => .bl _⟩
theorem nNon {j} : NE X CT (.Constant .none j pos) (evC .none) := ⟨_, pe_non, simC fun _ => .non⟩
theorem nStr {i j} : NE X CT (.Constant (.str i) j pos) (evC (.str i)) := ⟨_, pe_str, simC fun _ => .str _⟩
theorem nGInt {x : Str} {i : Int} (hm : ∃ t, X.mg x = some (.int i t)) (hg : Gl X x := by rfl) (hd : (x == ("__debug__" : Str)) = false := by decide) : NE X CT (.Name x pos) (evC (.int i)) := by
  obtain ⟨t, hm⟩ := hm
  exact ⟨_, pe_glob (v := .int i) hg hm ⟨t, rfl⟩ hd, simC fun _ => .int _⟩
/-! operators -/
theorem nAdd : NE X CT a ma → NE X CT b mb → NE X CT (.BinOp a .Add b pos) (evBin gAdd ma mb) := fun ⟨_, pa, sa⟩ ⟨_, pb, sb⟩ => ⟨_, pe_op op_addA pa pb, simBin (k := kx X CT) simAdd sa sb⟩
theorem nSub : NE X CT a ma → NE X CT b mb → NE X CT (.BinOp a .Sub b pos) (evBin gSub ma mb) := fun ⟨_, pa, sa⟩ ⟨_, pb, sb⟩ => ⟨_, pe_op op_sub pa pb, simBin simSub sa sb⟩
theorem nFdiv : NE X CT a ma → NE X CT b mb → NE X CT (.BinOp a .FloorDiv b pos) (evBin gFdiv ma mb) := fun ⟨_, pa, sa⟩ ⟨_, pb, sb⟩ => ⟨_, pe_op op_fdiv pa pb, simBin simFdiv sa sb⟩
theorem nMod : NE X CT a ma → NE X CT b mb → NE X CT (.BinOp a .Mod b pos) (evBin gMod ma mb) := fun ⟨_, pa, sa⟩ ⟨_, pb, sb⟩ => ⟨_, pe_op op_mod pa pb, simBin simMod sa sb⟩
theorem nPow : NE X CT a ma → NE X CT b mb → NE X CT (.BinOp a .Pow b pos) (evBin gPow ma mb) := fun ⟨_, pa, sa⟩ ⟨_, pb, sb⟩ => ⟨_, pe_op op_pow pa pb, simBin simPow sa sb⟩
theorem nNeg : NE X CT a ma → NE X CT (.UnaryOp .USub a pos) (evUn gNeg ma) := fun ⟨_, pa, sa⟩ => ⟨_, pe_un un_neg pa, simUn simNeg sa⟩
structure Cmp (X : Cx) (CT : CTab) (op : CmpOp) (g : D → D → Option SV) : Prop where
  ex : ∃ r, OpR X (compareOp op) r ∧ OpSim (kx X CT) r g
variable {op op' : CmpOp} {g g' : D → D → Option SV} {n : Nat}
theorem kEq (hr : Room n X.A) : Cmp X CT .Eq gEqD := ⟨_, op_eqP hr.u, simDat fun _ _ h => ⟨(pEq_ok h).1, (pEq_ok h).2.1⟩⟩
theorem kNe (hr : Room n X.A) : Cmp X CT .NotEq gNeD := ⟨_, op_neP hr.u, simDat fun _ _ h => ⟨(pEq_ok h).1, (pEq_ok h).2.1⟩⟩
theorem kLt (hr : Room n X.A) : Cmp X CT .Lt gLtD := ⟨_, op_ltP hr.u, simDat fun _ _ h => ⟨(pLt_ok h).1, (pLt_ok h).2.1⟩⟩
theorem kGt (hr : Room n X.A) : Cmp X CT .Gt gGtD := ⟨_, op_gtP hr.u, simDat fun _ _ h => ⟨(pLt_ok h).1, (pLt_ok h).2.1⟩⟩
theorem kLe (hr : Room n X.A) : Cmp X CT .LtE gLeD := ⟨_, op_leP hr.u, simDat fun _ _ h => ⟨(pLt_ok h).1, (pLt_ok h).2.1⟩⟩
theorem kGe (hr : Room n X.A) : Cmp X CT .GtE gGeD := ⟨_, op_geP hr.u, simDat fun _ _ h => ⟨(pLt_ok h).1, (pLt_ok h).2.1⟩⟩
theorem kIn (hr : Room n X.A) : Cmp X CT .In gInD := ⟨_, op_inP hr.u, simDat fun _ _ h => pIn_plain h⟩
theorem kNotIn (hr : Room n X.A) : Cmp X CT .NotIn gNotInD := ⟨_, op_notInP hr.u, simDat fun _ _ h => pIn_plain h⟩
theorem kIs (hr : Room n X.A) : Cmp X CT .Is gIs := ⟨_, op_isN, simIs⟩
theorem nCmp (o : Cmp X CT op g) (ha : NE X CT a ma) (hb : NE X CT b mb) (hm : behindInMarks op b = false := by first | exact nomark _ | with_unfolding_all rfl) : NE X CT (.Compare a [op] [b] pos) (evBin g ma mb) := by
  obtain ⟨r, o1, o2⟩ := o.ex
  obtain ⟨_, pa, sa⟩ := ha
  obtain ⟨_, pb, sb⟩ := hb
  exact ⟨_, pe_cmpR o1 pa pb hm, simBin o2 sa sb⟩
theorem nChain (o : Cmp X CT op g) (o' : Cmp X CT op' g') (ha : NE X CT a ma) (hb : NE X CT b mb) (hc : NE X CT c mc) (hm : lastMarks [op, op'] [b, c] = false := by with_unfolding_all rfl) : NE X CT (.Compare a [op, op'] [b, c] pos) (evChain g g' ma mb mc) := by
  obtain ⟨r, o1, o2⟩ := o.ex
  obtain ⟨r', o3, o4⟩ := o'.ex
  obtain ⟨_, pa, sa⟩ := ha
  obtain ⟨_, pb, sb⟩ := hb
  obtain ⟨_, pc, sc⟩ := hc
  exact ⟨_, pe_chain o1 o3 pa pb pc hm, simChain o2 o4 sa sb sc⟩
theorem nOne {op} : NE X CT a ma → NE X CT (.BoolOp op [a] pos) ma := fun ⟨_, pa, sa⟩ => ⟨_, pe_one pa, sa⟩
theorem nAnd {rest : List Expr} : NE X CT a ma → NE X CT (.BoolOp .And (b :: rest) pos) mb → NE X CT (.BoolOp .And (a :: b :: rest) pos) (evAnd ma mb) := fun ⟨_, pa, sa⟩ ⟨_, pb, sb⟩ => ⟨_, pe_and pa pb, simAnd sa sb⟩
theorem nNot : NE X CT a ma → NE X CT (.UnaryOp .Not a pos) (evNot ma) := fun ⟨_, pa, sa⟩ => ⟨_, pe_not pa, simNot sa⟩
theorem nIf : NT X CT c mt → NE X CT a ma → NE X CT b mb → NE X CT (.IfExp c a b pos) (evIf mt ma mb) := fun ⟨_, pc, sc⟩ ⟨_, pa, sa⟩ ⟨_, pb, sb⟩ => ⟨_, pe_ifExp pc pa pb, simIf sc sa sb⟩
/-! tests -/
theorem qVal (h : NE X CT a ma) (he : ∀ whole, isTrue a X.env whole = (do let v ← whole; standAt a.pos; holding [v] (truthy v)) := by intro _; rfl) : NT X CT a (tvB ma) := by
  obtain ⟨_, pa, sa⟩ := h
  exact ⟨_, pt_val pa he, simTvB sa⟩
theorem qCmp (o : Cmp X CT op g) (ha : NE X CT a ma) (hb : NE X CT b mb) (hm : behindInMarks op b = false := by first | exact nomark _ | with_unfolding_all rfl) : NT X CT (.Compare a [op] [b] pos) (tvB (evBin g ma mb)) := by
  obtain ⟨r, o1, o2⟩ := o.ex
  obtain ⟨_, pa, sa⟩ := ha
  obtain ⟨_, pb, sb⟩ := hb
  exact ⟨_, pt_cmpR o1 pa pb hm, simTvB (simBin o2 sa sb)⟩
theorem qChain (o : Cmp X CT op g) (o' : Cmp X CT op' g') (ha : NE X CT a ma) (hb : NE X CT b mb) (hc : NE X CT c mc) (hm : lastMarks [op, op'] [b, c] = false := by with_unfolding_all rfl) : NT X CT (.Compare a [op, op'] [b, c] pos) (tvB (evChain g g' ma mb mc)) := by
  obtain ⟨r, o1, o2⟩ := o.ex
  obtain ⟨r', o3, o4⟩ := o'.ex
  obtain ⟨_, pa, sa⟩ := ha
  obtain ⟨_, pb, sb⟩ := hb
  obtain ⟨_, pc, sc⟩ := hc
  exact ⟨_, pt_chain o1 o3 pa pb pc hm, simTvB (simChain o2 o4 sa sb sc)⟩
theorem qNot : NT X CT a mt → NT X CT (.UnaryOp .Not a pos) (tvNot mt) := fun ⟨_, pa, sa⟩ => ⟨_, pt_not pa, simTNot sa⟩
def NW (X : Cx) (CT : CTab) (e : Expr) (m : TM) : Prop := ∃ tt, PW X e tt ∧ SimT (kx X CT) tt m
theorem wOr1 : NT X CT a mt → NW X CT (.BoolOp .Or [a] pos) mt := fun ⟨_, pa, sa⟩ => ⟨_, pw_or1 pa, sa⟩
theorem wAnd {rest : List Expr} : NT X CT a mt → NW X CT (.BoolOp .And (b :: rest) pos) mu → NW X CT (.BoolOp .And (a :: b :: rest) pos) (tvAnd mt mu) := fun ⟨_, pa, sa⟩ ⟨_, pb, sb⟩ => ⟨_, pw_and pa pb, simTAnd sa sb⟩
theorem wOr {rest : List Expr} : NT X CT a mt → NW X CT (.BoolOp .Or (b :: rest) pos) mu → NW X CT (.BoolOp .Or (a :: b :: rest) pos) (tvOr mt mu) := fun ⟨_, pa, sa⟩ ⟨_, pb, sb⟩ => ⟨_, pw_or pa pb, simTOr sa sb⟩
theorem qW : NW X CT a mt → NT X CT a mt := fun ⟨_, pa, sa⟩ => ⟨_, pa.pt, sa⟩
def tvYes : TM := fun ρ => some (true, ρ)
theorem tsNil : NTs X CT [] tvYes := ⟨_, pts_nil, fun F ρ σ H Q f h => h F H (Aft.refl f)⟩
theorem tsOne : NT X CT a mt → NTs X CT [a] mt := fun ⟨_, pa, sa⟩ => ⟨_, pts_one pa, sa⟩
/-! arguments, displays -/
theorem aNil : NA X CT [] evNil := ⟨_, pa_nil, simNil⟩
theorem aCons (ha : NE X CT e me) (hr : NA X CT es mr) (hs : starEach (e :: es) X.env = (false, eval e X.env) :: starEach es X.env := by rfl) : NA X CT (e :: es) (evCons me mr) := by
  obtain ⟨_, pa, sa⟩ := ha
  obtain ⟨_, pr, sr⟩ := hr
  exact ⟨_, pa_cons pa pr hs, simCons sa sr⟩
theorem nTup {x1} : NA X CT es mr → NE X CT (.Tuple es x1 pos) (evTup mr) := fun ⟨_, pa, sa⟩ => ⟨_, pe_tup pa, simTup sa⟩
theorem nLst : NA X CT es mr → NE X CT (.List es pos) (evLst mr) := fun ⟨_, pa, sa⟩ => ⟨_, pe_lst pa, simLst sa⟩
/-! subscripts -/
theorem nIx (ha : NE X CT a ma) (hb : NE X CT b mb) (hs : PlainIx b := by intro _ _; rfl) : NE X CT (.Subscript a b pos) (evBin gIx ma mb) := by
  obtain ⟨_, pa, sa⟩ := ha
  obtain ⟨_, pb, sb⟩ := hb
  exact ⟨_, pe_ix ix_A pa pb hs, simBin (k := kx X CT) simIx sa sb⟩
theorem oNone : NO X CT none opNone := ⟨_, po_none, simPNone⟩
theorem oSome : NE X CT a ma → NO X CT (some a) (opSome ma) := fun ⟨_, pa, sa⟩ => ⟨_, po_some pa, simPSome sa⟩
theorem nSl {lo hi : Option Expr} {ml mh : OM} {p2 : Pos} : NE X CT a ma → NO X CT lo ml → NO X CT hi mh → NE X CT (.Subscript a (.Slice lo hi none p2) pos) (evSl ma ml mh) :=
  fun ⟨_, pa, sa⟩ ⟨_, pl, sl⟩ ⟨_, ph, sh⟩ => ⟨_, pe_slice sl_B pa pl ph, simSl (k := kx X CT) sa sl sh⟩
/-! built-in functions -/
structure Blt (X : Cx) (CT : CTab) (v : Value) (g : List D → Option SV) : Prop where
  ex : ∃ r, CallR X v r ∧ CallSim (kx X CT) r g
variable {gc : List D → Option SV} {x : Str} {id T : String}
theorem uLen : Blt X CT (.builtin "len") gLen := ⟨_, cr_lenS, simLen⟩
theorem uInt : Blt X CT (.type "int") gInt := ⟨_, call_int1, simInt⟩
theorem uList : Blt X CT (.type "list") gList := ⟨_, call_list_of, simList (k := kx X CT)⟩
theorem uTuple : Blt X CT (.type "tuple") gTuple := ⟨_, call_tuple_of, simTuple (k := kx X CT)⟩
theorem uSum (hc : X.calm = true) : Blt X CT (.builtin "sum") gSum := ⟨_, cr_sum hc, simSum (k := kx X CT)⟩
theorem uAll (hc : X.calm = true) : Blt X CT (.builtin "all") gAll := ⟨_, cr_all hc, simAll (k := kx X CT)⟩
theorem uMax (hc : X.calm = true) (hr : Room n X.A) : Blt X CT (.builtin "max") (gMM PySem.W.maxD) := ⟨_, cr_maxD hc hr.u, simMM (k := kx X CT)⟩
theorem uSorted (hr : Room n X.A) : Blt X CT (.builtin "sorted") gSorted := ⟨_, cr_srt hr.u, simSrt (k := kx X CT)⟩
theorem nB (u : Blt X CT (.builtin id) gc) (hv : bootBuiltins x = some (.builtin id)) (hm : X.mg x = none) (ha : NA X CT (e :: es) mr) (hg : Gl X x := by rfl) (hn : x ≠ "__name__" := by decide) (hdb : (x == ("__debug__" : Str)) = false := by decide)
    (he : starEach (e :: es) X.env = (false, eval e X.env) :: starEach es X.env := by rfl) (hpl : (backTo pos (starEach es X.env)).any (·.1) = false := by rfl) : NE X CT (.Call (.Name x p) (e :: es) [] pos) (evCall gc mr) := by
  obtain ⟨r, u1, u2⟩ := u.ex
  obtain ⟨_, pa, sa⟩ := ha
  exact ⟨_, pe_callB u1 hg hm hv pa hn hdb he hpl, simCall u2 sa⟩
theorem nTy (u : Blt X CT (.type T) gc) (hv : bootBuiltins x = some (.type T)) (hm : X.mg x = none) (ha : NA X CT (e :: es) mr) (hg : Gl X x := by rfl) (hn : x ≠ "__name__" := by decide) (hdb : (x == ("__debug__" : Str)) = false := by decide)
    (he : starEach (e :: es) X.env = (false, eval e X.env) :: starEach es X.env := by rfl) (hpl : (backTo pos (starEach es X.env)).any (·.1) = false := by rfl) : NE X CT (.Call (.Name x p) (e :: es) [] pos) (evCall gc mr) := by
  obtain ⟨r, u1, u2⟩ := u.ex
  obtain ⟨_, pa, sa⟩ := ha
  exact ⟨_, pe_callTy u1 hg hm hv pa hn hdb he hpl, simCall u2 sa⟩
/-! list(range(..)) -/
theorem nLRg1 {p2 pos2 : Pos} (hc : X.calm = true) (h1 : X.mg "list" = none) (h2 : X.mg "range" = none) (ha : NE X CT a ma) (hg : Gl X "list" := by rfl) (hg2 : Gl X "range" := by rfl) (na : starEach [a] X.env = (false, eval a X.env) :: starEach [] X.env := by rfl)
    (nb : starEach [.Call (.Name "range" p2) [a] [] pos2] X.env = (false, eval (.Call (.Name "range" p2) [a] [] pos2) X.env) :: starEach [] X.env := by rfl) : NE X CT (.Call (.Name "list" p) [.Call (.Name "range" p2) [a] [] pos2] [] pos) (evUn gLRg1 ma) := by
  obtain ⟨_, pa, sa⟩ := ha
  exact ⟨_, pe_listRg hc hg h1 (prg_1 hg2 h2 pa na) nb, simLRg1 sa⟩
/-! isinstance -/
theorem nIsi {t : TR} {v : V} {u : Value} (ok : IsiOk (kx X CT)) (ht : TRV (kx X CT) t v u) (hb : PE X b (tC v)) (hm : X.mg "isinstance" = none) (ha : NE X CT a ma) (hg : Gl X "isinstance" := by rfl)
    (he : starEach [a, b] X.env = (false, eval a X.env) :: starEach [b] X.env := by rfl) (he2 : starEach [b] X.env = (false, eval b X.env) :: starEach [] X.env := by rfl) (hpl : (backTo pos (starEach [b] X.env)).any (·.1) = false := by rfl) : NE X CT (.Call (.Name "isinstance" p) [a, b] [] pos) (evIsi [t] ma) := by
  obtain ⟨_, pa, sa⟩ := ha
  exact ⟨_, pe_callB call_isi hg hm PyProof.Rows.boot_isinstance (pa_cons pa (pa_cons hb pa_nil he2) he) (he := he) (hpl := hpl), simIsi (k := kx X CT) ok ht sa⟩
def NC (X : Cx) (CT : CTab) (ts : List TR) (es : List Expr) : Prop := ∃ vs us, TRVs (kx X CT) ts vs us ∧ PA X es (tCs vs) ∧ vs.length = ts.length
theorem nIsiT {ts : List TR} {kt : Nat} {tpos : Pos} (ok : IsiOk (kx X CT)) (hb : NC X CT ts es) (hm : X.mg "isinstance" = none) (ha : NE X CT a ma) (hz : ts.length ≤ sizeLine := by decide) (hg : Gl X "isinstance" := by rfl)
    (he : starEach [a, .Tuple es kt tpos] X.env = (false, eval a X.env) :: starEach [.Tuple es kt tpos] X.env := by rfl) (he2 : starEach [.Tuple es kt tpos] X.env = (false, eval (.Tuple es kt tpos) X.env) :: starEach [] X.env := by rfl) (hpl : (backTo pos (starEach [.Tuple es kt tpos] X.env)).any (·.1) = false := by rfl) :
    NE X CT (.Call (.Name "isinstance" p) [a, .Tuple es kt tpos] [] pos) (evIsi ts ma) := by
  obtain ⟨_, pa, sa⟩ := ha
  obtain ⟨vs, us, ht, pb, hl⟩ := hb
  exact ⟨_, pe_callB call_isiT hg hm PyProof.Rows.boot_isinstance (pa_cons pa (pa_cons (pe_tup pb) pa_nil he2) he) (he := he) (hpl := hpl), simIsiT (k := kx X CT) ok (hl ▸ hz) ht sa⟩
theorem pTy {x : Str} {n : String} (hv : bootBuiltins x = some (.type n)) (hm : X.mg x = none) (hg : Gl X x := by rfl) (hn : x ≠ "__name__" := by decide) (hd : (x == ("__debug__" : Str)) = false := by decide) : PE X (.Name x p) (tC (.ty n)) := pe_bltn hg hm hv rfl hn hd
theorem pCl {x : Str} {C : Addr} (hm : X.mg x = some (.ref C)) (hg : Gl X x := by rfl) (hd : (x == ("__debug__" : Str)) = false := by decide) : PE X (.Name x p) (tC (.ref C)) := pe_glob hg hm rfl hd
theorem ncNil : NC X CT [] [] := ⟨[], [], .nil, pa_nil, rfl⟩
theorem ncCons {t : TR} {v : V} {u : Value} {ts : List TR} (ht : TRV (kx X CT) t v u) (hb : PE X b (tC v)) (h : NC X CT ts es) (hs : starEach (b :: es) X.env = (false, eval b X.env) :: starEach es X.env := by rfl) : NC X CT (t :: ts) (b :: es) := by
  obtain ⟨vs, us, h1, h2, h3⟩ := h
  exact ⟨v :: vs, u :: us, .cons ht h1, pa_cons hb h2 hs, congrArg Nat.succ h3⟩
/-! fields -/
theorem nFld {f : Str} {fn : FNs} (ok : FldOk (kx X CT) fn) (ha : NE X CT a ma) (hb : attributeBase a f X.env (eval a X.env) = eval a X.env := by rfl) : NE X CT (.Attribute a f pos) (evUn (fldD fn f) ma) := by
  obtain ⟨_, pa, sa⟩ := ha
  exact ⟨_, pe_fld pa hb, simFld (k := kx X CT) ok sa⟩
/-! calls -/
def FunK (P : Program) (w : World) (K : PySem.W.Frag) (mg : Str → Option Value) (base : Heap) (CT : CTab) (n : Nat) (f : Addr) (io : Bool) (np : Nat) (cm : CM) : Prop := ∃ fd ps, FnOk P w K mg base CX0 n f fd ps (spF ⟨K, CT⟩ io np cm) ∧ Binds K fd ps []
abbrev Fun (X : Cx) (CT : CTab) (n : Nat) (f : Addr) (io : Bool) (np : Nat) (cm : CM) : Prop := FunK X.prog X.w X.K X.mg X.base CT n f io np cm
variable {f C : Addr} {io : Bool} {np j : Nat} {cm : CM}
theorem nCall (F : Fun X CT j f io np cm) (hr : Room j X.A) (hm : X.mg x = some (.ref f)) (hk : PySem.W.keepIn X.K (.ref f) = true) (ha : NA X CT (e :: es) mr) (hg : Gl X x := by rfl) (hdb : (x == ("__debug__" : Str)) = false := by decide)
    (he : starEach (e :: es) X.env = (false, eval e X.env) :: starEach es X.env := by rfl) (hpl : (backTo pos (starEach es X.env)).any (·.1) = false := by rfl) : NE X CT (.Call (.Name x p) (e :: es) [] pos) (evCallL np cm mr) := by
  obtain ⟨fd, ps, F, hb⟩ := F
  obtain ⟨_, pa, sa⟩ := ha
  exact ⟨_, pe_call F hr hg hm hk hb .nil (pass0) pa hdb he hpl, simCallL sa⟩
theorem nCallI (F : Fun X CT j f true np cm) (hr : Room j X.A) (hm : X.mg x = some (.ref f)) (hk : PySem.W.keepIn X.K (.ref f) = true) (ha : NA X CT (e :: es) mr) (hg : Gl X x := by rfl) (hdb : (x == ("__debug__" : Str)) = false := by decide)
    (he : starEach (e :: es) X.env = (false, eval e X.env) :: starEach es X.env := by rfl) (hpl : (backTo pos (starEach es X.env)).any (·.1) = false := by rfl) : NE X CT (.Call (.Name x p) (e :: es) [] pos) (evCallI np cm mr) := by
  obtain ⟨fd, ps, F, hb⟩ := F
  obtain ⟨_, pa, sa⟩ := ha
  exact ⟨_, pe_call F hr hg hm hk hb .nil (pass0) pa hdb he hpl, simCallI sa⟩
theorem nMake {ci : Int} {ns : List Str} (hC : CT ci = some (C, ns)) (M : Mk X.K C f) (F : Fun X CT j f true np cm) (hr : Room (j + 1) X.A) (hm : X.mg x = some (.ref C)) (ha : NA X CT (e :: es) mr) (hg : Gl X x := by rfl) (hdb : (x == ("__debug__" : Str)) = false := by decide)
    (he : starEach (e :: es) X.env = (false, eval e X.env) :: starEach es X.env := by rfl) (hpl : (backTo pos (starEach es X.env)).any (·.1) = false := by rfl) : NE X CT (.Call (.Name x p) (e :: es) [] pos) (evMake ci np cm mr) := by
  obtain ⟨fd, ps, F, hb⟩ := F
  obtain ⟨_, pa, sa⟩ := ha
  exact ⟨_, pe_make M F hr hg hm hb .nil (pass0) pa hdb he hpl, simMake (k := kx X CT) hC sa⟩
theorem nLenA {lm : Int → Option (Nat × CM)} (ok : LenOk (kx X CT) X j lm) (hr : Room (j + 1) X.A) (hm : X.mg "len" = none) (ha : NE X CT a ma) (hg : Gl X "len" := by rfl) (he : starEach [a] X.env = (false, eval a X.env) :: starEach [] X.env := by rfl) : NE X CT (.Call (.Name "len" p) [a] [] pos) (evLen lm ma) := by
  obtain ⟨_, pa, sa⟩ := ha
  exact ⟨_, pe_callB (cr_lenS.or (cr_lenOwn hr)) hg hm boot_len (pa_cons pa pa_nil he) (he := he), simLenA (k := kx X CT) ok rfl sa⟩
end
end Pv

/-! Pvo: nodes: walks, targets, comprehensions, methods, statements, defs. -/
namespace Pv
open PySem PySem.Spec PySem.SeqAt L2
section
variable {X : Cx} {CT : CTab} {pos p : Pos} {a b c e tg it : Expr} {ma mb mc me : EM} {es tgs : List Expr} {mr : AM} {mt mu : TM} {P ts us : List Nat} {Wx : Option WX} {mi : IM} {mg : GM} {mgs : GsM} {mb' : SM}
/-! what is walked -/
theorem iSeqN : NE X CT it me → NI X CT tg it (ivSeq me) := fun ⟨_, pa, sa⟩ => ⟨_, pi_seq pa, simSeqI (k := kx X CT) sa⟩
theorem iRng1N (hm : X.mg "range" = none) (ha : NA X CT [a] mr) (hg : Gl X "range" := by rfl) (hs : starEach [a] X.env = [(false, eval a X.env)] := by rfl) : NI X CT tg (.Call (.Name "range" p) [a] [] pos) (ivArgs rng1 mr) := by
  obtain ⟨_, pa, sa⟩ := ha
  exact ⟨_, pi_range1 hg hm pa hs, simRng1 sa⟩
theorem iRng2N (hm : X.mg "range" = none) (ha : NA X CT [a, b] mr) (hg : Gl X "range" := by rfl) (hs : starEach [a, b] X.env = [(false, eval a X.env), (false, eval b X.env)] := by rfl) (hs2 : starEach [b] X.env = [(false, eval b X.env)] := by rfl) : NI X CT tg (.Call (.Name "range" p) [a, b] [] pos) (ivArgs rng2 mr) := by
  obtain ⟨_, pa, sa⟩ := ha
  exact ⟨_, pi_range2 hg hm pa hs hs2, simRng2 sa⟩
theorem iEnumN {tpos : Pos} {elts : List Expr} {kk : Nat} (hm : X.mg "enumerate" = none) (ha : NE X CT a ma) (hg : Gl X "enumerate" := by rfl) (hs : starEach [a] X.env = [(false, eval a X.env)] := by rfl) (hs2 : starEach [a] X.env = (false, eval a X.env) :: starEach [] X.env := by rfl) :
    NI X CT (.Tuple elts kk tpos) (.Call (.Name "enumerate" p) [a] [] pos) (ivEnum ma) := by
  obtain ⟨_, pa, sa⟩ := ha
  exact ⟨_, pi_enumS hg hm (pa_cons pa pa_nil hs2) hs, simEnum (k := kx X CT) sa⟩
/-! targets -/
theorem gNameN (i : Nat) {x : Str} (hN : X.N.Nodup) (hi : X.N[i]? = some x := by rfl) (hx : Loc X.env.scope x := by first | exact Or.inl rfl | exact Or.inr rfl) (hf : X.fn x = true ∨ X.env.scope.names.lookup x = some .local := by first | exact .inl rfl | exact .inr rfl) : NG X CT P [i] (.Name x pos) (tgName P i) :=
  ⟨_, pg_name hN hi hx hf, simGName⟩
theorem gsNilN : NGs X CT P [] [] tgNil := ⟨_, pgs_nil, simGsNil⟩
theorem gsConsN (h1 : NG X CT P ts tg mg) (h2 : NGs X CT P us tgs mgs) (hs : (assignEach (tg :: tgs) X.env).map (·.2) = assign tg X.env :: (assignEach tgs X.env).map (·.2) := by rfl) : NGs X CT P (ts ++ us) (tg :: tgs) (tgCons mg mgs) := by
  obtain ⟨_, p1, s1⟩ := h1
  obtain ⟨_, p2, s2⟩ := h2
  exact ⟨_, pgs_cons p1 p2 hs, simGsCons s1 s2⟩
theorem gTupN {kk n : Nat} (hc : X.calm = true) (h : NGs X CT P ts tgs mgs) (hn : (assignEach tgs X.env).length = n := by rfl) (hst : (assignEach tgs X.env).findIdx? (·.1) = none := by rfl) : NG X CT P ts (.Tuple tgs kk pos) (tgTup n mgs) := by
  obtain ⟨_, p1, s1⟩ := h
  exact ⟨_, pg_tup hc p1 hn hst, simGTup (k := kx X CT) s1⟩
/-! comprehensions -/
abbrev Blk (X : Cx) (scope : Scope) (Φ : Cx → Prop) : Prop := ∀ (s : Shared) (H : Hp) (C : Addr) (cl : List (Str × Addr)) (fp : List Addr), Φ (X.blk s H scope (compEnvC scope cl C X.env) fp)
theorem nComp {scope : Scope} {ifs : List Expr} {vs : List Nat} (own : List (Str × Nat)) (hc : X.calm = true) (hN : X.N.Nodup) (ok : BlkOk X.N X.env.scope scope own) (hi : NI X CT tg it mi) (hg : Blk X scope fun Y => NG Y CT [] ts tg mg) (ht : Blk X scope fun Y => NTs Y CT ifs mt) (he : Blk X scope fun Y => NE Y CT e me)
    (hv : ∀ t ∈ ts, t ∈ own.map (·.2) := by decide) (hs : ∀ x, foldedSetIterable it X.env x = pure x := by intro _; rfl) (hvs : own.map (·.2) = vs := by rfl) : NE X CT (.ListComp e [⟨tg, it, ifs, 0⟩] scope pos) (evComp mi mg mt me vs) := by
  obtain ⟨_, p1, s1⟩ := hi
  subst hvs
  exact ⟨_, pe_lc hc hN p1 ok (fun s H C cl fp => cG_of (k := kx X CT) (hg s H C cl fp)) (fun s H C cl fp => cT_of (k := kx X CT) (ht s H C cl fp)) (fun s H C cl fp => cE_of (k := kx X CT) (he s H C cl fp)) hs, simComp s1 cG_sim cT_sim cE_sim hv⟩
/-! methods of lists -/
theorem nAppend (i : Nat) {x : Str} {apos : Pos} (ho : PE X (.Name x p) (tVar i)) (ha : NA X CT [e] mr) (hbase : attributeBase (.Name x p) "append" X.env (eval (.Name x p) X.env) = eval (.Name x p) X.env := by rfl)
    (hfew : ((backTo pos (starEach [e] X.env)).all (fun x => !x.1) && (backToKw pos (keywordEach [] X.env)).all (fun x => x.1.isSome) && decide ([e].length + ([] : List Keyword).length + (if ([] : List Keyword).isEmpty then 0 else 1) < 30)) = true := by rfl)
    (hline : (apos.endLine == pos.line) = true := by rfl) (hs : starEach [e] X.env = (false, eval e X.env) :: starEach [] X.env := by rfl) : NE X CT (.Call (.Attribute (.Name x p) "append" apos) [e] [] pos) (evMut fAppend i mr) := by
  obtain ⟨_, pa, sa⟩ := ha
  exact ⟨_, pe_bm PySem.F.plainAttrs_list PySem.F.slot_list_append PySem.F.type_list_append mt_append ho pa hbase hfew hline hs, simMut (k := kx X CT) simAppend sa⟩
/-! statements -/
theorem sBad {st : Stmt} : NS X CT P Wx st exBad := ⟨_, ps_never, simBad⟩
theorem sSet (i : Nat) {x : Str} {pos' : Pos} (hN : X.N.Nodup) (he : NE X CT e me) (hi : X.N[i]? = some x := by rfl) (hx : Loc X.env.scope x := by first | exact Or.inl rfl | exact Or.inr rfl) (hs : swapsWith e (some (.Name x pos')) pos.line X.env = pure false := by rfl)
    (hf : X.fn x = true ∨ X.env.scope.names.lookup x = some .local := by first | exact .inl rfl | exact .inr rfl) : NS X CT P Wx (.Assign [.Name x pos'] e pos) (exAsg P i me) := by
  obtain ⟨_, pa, sa⟩ := he
  exact ⟨_, ps_set hN hi hx pa hs hf, simAsg sa⟩
theorem sSetLc (i : Nat) {y : Str} {py spos : Pos} {scope : Scope} {ifs : List Expr} {vs : List Nat} (own : List (Str × Nat)) (hc : X.calm = true) (hN : X.N.Nodup) (ok : BlkOk X.N X.env.scope scope own) (hi : NI X CT tg it mi) (hg : Blk X scope fun Y => NG Y CT [] ts tg mg) (ht : Blk X scope fun Y => NTs Y CT ifs mt) (he : Blk X scope fun Y => NE Y CT e me)
    (hy : X.N[i]? = some y := by rfl) (hyl : X.env.scope.names.lookup y = some .local := by rfl) (hsw : swapsWith (.ListComp e [⟨tg, it, ifs, 0⟩] scope pos) (some (.Name y py)) spos.line X.env = pure true := by exact sw_true rfl rfl rfl (by decide +kernel))
    (hv : ∀ t ∈ ts, t ∈ own.map (·.2) := by decide) (hs : ∀ x, foldedSetIterable it X.env x = pure x := by intro _; rfl) (hvs : own.map (·.2) = vs := by rfl) : NS X CT P Wx (.Assign [.Name y py] (.ListComp e [⟨tg, it, ifs, 0⟩] scope pos) spos) (exAsg P i (evComp mi mg mt me vs)) := by
  obtain ⟨_, p1, s1⟩ := hi
  subst hvs
  exact ⟨_, ps_setLc hc hN hy hyl hsw p1 ok (fun s H C cl fp => cG_of (k := kx X CT) (hg s H C cl fp)) (fun s H C cl fp => cT_of (k := kx X CT) (ht s H C cl fp)) (fun s H C cl fp => cE_of (k := kx X CT) (he s H C cl fp)) hs, simAsg (simComp s1 cG_sim cT_sim cE_sim hv)⟩
theorem sPar2 (i j : Nat) {x y : Str} {px py pt : Pos} {kt k2 pt2} (hc : X.calm = true) (hN : X.N.Nodup) (ha : NA X CT [a, b] mr) (hij : i ≠ j := by decide) (hi : X.N[i]? = some x := by rfl) (hj : X.N[j]? = some y := by rfl)
    (hx : X.env.scope.names.lookup x = some .local := by rfl) (hy : X.env.scope.names.lookup y = some .local := by rfl) (hw : swappedStores [.Tuple [.Name x px, .Name y py] kt pt] (.Tuple [a, b] k2 pt2) X.env = pure (some [x, y]) := by rfl)
    (hs : swapsWithSole [.Tuple [.Name x px, .Name y py] kt pt] (.Tuple [a, b] k2 pt2) pos.line X.env = pure false := by rfl) : NS X CT P Wx (.Assign [.Tuple [.Name x px, .Name y py] kt pt] (.Tuple [a, b] k2 pt2) pos) (exPar P [i, j] mr) := by
  obtain ⟨_, pa, sa⟩ := ha
  exact ⟨_, ps_par hc hN hi hj hij hx hy pa hw hs, simPar sa⟩
def NNs (X : Cx) (tgs : List Expr) (is : List Nat) : Prop := PGs X tgs (gNames is)
theorem nnNil : NNs X [] [] := pgs_nil
theorem nnCons (i : Nat) {x : Str} {is : List Nat} (hN : X.N.Nodup) (h : NNs X tgs is) (hi : X.N[i]? = some x := by rfl) (hx : Loc X.env.scope x := by first | exact Or.inl rfl | exact Or.inr rfl) (hf : X.fn x = true ∨ X.env.scope.names.lookup x = some .local := by first | exact .inl rfl | exact .inr rfl)
    (hs : (assignEach (.Name x pos :: tgs) X.env).map (·.2) = assign (.Name x pos) X.env :: (assignEach tgs X.env).map (·.2) := by rfl) : NNs X (.Name x pos :: tgs) (i :: is) := pgs_cons (pg_name hN hi hx hf) h hs
theorem sParT (is : List Nat) {n : Nat} {pt : Pos} {kt k2 pt2} (hc : X.calm = true) (h : NNs X tgs is) (ha : NA X CT es mr) (hl : is.length = n := by rfl) (hn : (assignEach tgs X.env).length = n := by rfl) (hst : (assignEach tgs X.env).findIdx? (·.1) = none := by rfl) (hz : n ≤ sizeLine := by decide)
    (hs : swapsWithSole [.Tuple tgs kt pt] (.Tuple es k2 pt2) pos.line X.env = pure false := by rfl) (hw : swappedStores [.Tuple tgs kt pt] (.Tuple es k2 pt2) X.env = pure none := by rfl) (h1 : (assignEach [.Tuple tgs kt pt] X.env).map (·.2) = [assign (.Tuple tgs kt pt) X.env] := by rfl) :
    NS X CT P Wx (.Assign [.Tuple tgs kt pt] (.Tuple es k2 pt2) pos) (exPar P is mr) := by
  obtain ⟨_, pa, sa⟩ := ha
  exact ⟨_, ps_asg (pe_tup pa) (pg_tup hc h hn hst) hs hw h1, simParT (k := kx X CT) hl hz sa⟩
theorem sSto (j : Nat) {x : Str} {pp : Pos} (ho : PE X (.Name x p) (tVar j)) (hi : NE X CT a ma) (he : NE X CT e me) (ha : ∀ v, assign (.Subscript (.Name x p) a pp) X.env v = (do
      let ov ← holding [v] (eval (.Name x p) X.env)
      let iv ← holding [v, ov] (eval a X.env)
      standAt pp
      holding [v, ov, iv] (setItem ov iv v)
      release [v, ov, iv] []) := by intro _; rfl) (hs : swapsWithSole [.Subscript (.Name x p) a pp] e pos.line X.env = pure false := by rfl) (hw : swappedStores [.Subscript (.Name x p) a pp] e X.env = pure none := by rfl) (h1 : (assignEach [.Subscript (.Name x p) a pp] X.env).map (·.2) = [assign (.Subscript (.Name x p) a pp) X.env] := by rfl) :
    NS X CT P Wx (.Assign [.Subscript (.Name x p) a pp] e pos) (exSto j ma me) := by
  obtain ⟨_, pi, si⟩ := hi
  obtain ⟨_, pe, se⟩ := he
  exact ⟨_, ps_asg pe (pg_sub ho pi set_list ha) hs hw h1, simSto (k := kx X CT) si se⟩
theorem sFldN (i : Nat) {x f : Str} {pos' : Pos} {fn : FNs} (ok : FldOk (kx X CT) fn) (ho : PE X (.Name x p) (tVar i)) (he : NE X CT e me) (hs : swapsWith e (some (.Attribute (.Name x p) f pos')) pos.line X.env = pure false := by rfl) : NS X CT P Wx (.Assign [.Attribute (.Name x p) f pos'] e pos) (exFld fn i f me) := by
  obtain ⟨_, pe, se⟩ := he
  exact ⟨_, ps_fld ho pe hs, simFldS (k := kx X CT) ok se⟩
theorem sExpr (he : NE X CT e me) (hs : swapsWith e none pos.line X.env = pure false := by rfl) : NS X CT P Wx (.Expr e pos) (exExpr me) := by
  obtain ⟨_, pe, se⟩ := he
  exact ⟨_, ps_expr pe hs, simExpr se⟩
theorem sRet : NE X CT e me → NS X CT P Wx (.Return (some e) pos) (exRet me) := fun ⟨_, pe, se⟩ => ⟨_, ps_ret pe, simRet se⟩
variable {st : Stmt} {rest body orelse : List Stmt} {m n : SM}
theorem ssNil : NSs X CT P Wx [] exPass := ⟨_, pss_nil, simPass⟩
theorem ssOne : NS X CT P Wx st m → NSs X CT P Wx [st] m := fun ⟨_, p, s⟩ => ⟨_, pss_one p, s⟩
theorem ssCons : NS X CT P Wx st m → NSs X CT P Wx rest n → NSs X CT P Wx (st :: rest) (exSeq m n) := fun ⟨_, p, s⟩ ⟨_, p2, s2⟩ => ⟨_, pss_cons p p2, simSeq s s2⟩
theorem sIf : NT X CT c mt → NSs X CT P Wx body m → NSs X CT P Wx orelse n → NS X CT P Wx (.If c body orelse pos) (exIf mt m n) := fun ⟨_, pc, sc⟩ ⟨_, p, s⟩ ⟨_, p2, s2⟩ => ⟨_, ps_if pc p p2, simIfS sc s s2⟩
theorem sFor (ks : List Nat) (hp : PassesOwn (model X.prog X.w) X.A X.env X.xe) (hc : X.calm = true) (hi : NI X CT tg it mi) (hg : NG X CT P ts tg mg) (hb : NSs X CT P Wx body m) (hs : ∀ x, foldedSetIterable it X.env x = pure x := by intro _; rfl) : NS X CT P Wx (.For tg it body [] pos) (exFor mi mg (exKill ks m)) := by
  obtain ⟨_, p1, s1⟩ := hi
  obtain ⟨_, p2, s2⟩ := hg
  obtain ⟨_, p3, s3⟩ := hb
  exact ⟨_, ps_for hp hc p1 p2 p3 hs, simFor s1 s2 (simKill ks s3)⟩
end
/-! ### defs -/
section
variable {P : Program} {w : World} {K : PySem.W.Frag} {mg : Str → Option Value} {base : Heap} {x qual : Str} {params : Arguments} {body : List Stmt} {scope : Scope} {f : Addr} {fd : FuncData}
abbrev cxF (P : Program) (w : World) (K : PySem.W.Frag) (mg : Str → Option Value) (base : Heap) (N : List Str) (qual : Str) (scope : Scope) (f : Addr) (cd : Value) (A : Around) (outer : List Env) (s : Shared) (H : Hp) (E : XK) : Cx := (cxOf CX0 P w K mg base N qual scope f cd A outer s H E).nox
theorem spF_len {k : Kx} {io : Bool} {np : Nat} {cm : CM} {vs : List V} {H : Hp} {Q : VK} {E : XK} (h : spF k io np cm vs H Q E) : vs.length = np := by
  obtain ⟨F, args, _, _, e, _⟩ := h; exact e
theorem def_ok {CT : CTab} {io : Bool} {np nl n : Nat} {N ps : List Str} {mb : SM} (F : FunD K x qual params body scope [] [] f fd) (S : FnScope N ps scope) (hps : ps.length = np) (hN : N.length = nl) (hio : io = true → 0 < np)
    (hb : ∀ (cd : Value) (A : Around) (outer : List Env) (s : Shared) (H : Hp) (E : XK), Room n (cxF P w K mg base N qual scope f cd A outer s H E).A → NSs (cxF P w K mg base N qual scope f cd A outer s H E) CT (if io = true then [0] else []) none body mb) :
    FnOk P w K mg base CX0 (n + 1) f fd ps (spF ⟨K, CT⟩ io np (runB io nl mb)) := by
  refine F.ok S (fun vs H Q E h => by rw [hps]; exact spF_len h) fun cd A outer s H vs Q E hr h => ?_
  obtain ⟨ts, p, si⟩ := hb cd A outer s H E hr
  exact ⟨ts, p.nox, runB_ok hN hio si h⟩
theorem bot_ok {CT : CTab} {io : Bool} {np n : Nat} {ps : List Str} (hps : ps.length = np) : FnOk P w K mg base CX0 n f fd ps (spF ⟨K, CT⟩ io np fun _ => none) :=
  ⟨fun vs H Q E h => by rw [hps]; exact spF_len h, fun A outer s H args us vs Q E _ _ _ _ h => by obtain ⟨F, as, _, _, _, z⟩ := h; exact z.elim⟩
end
end Pv

/-! Pvq: what the head tells, by numbers. -/
namespace Pv
open PySem PySem.Spec PySem.SeqAt L2
structure ClE where
  fst : Str
  snd : List Str
  pr : List (Str × Str) := []
  tp : List (Str × List Int) := []
  ie : List (Str × Str) := []
  tt : List (Str × List Str) := []
abbrev ClsT := List ClE
def getterB (K : PySem.W.Frag) (f : Str) : FuncData → Bool
  | ⟨_, qn, ⟨[], [⟨a, _, _⟩], none, [], [], none, []⟩, .stmts [.Return (some (.Attribute (.Name b _) f' _)) _], sc, gl, [], .none, _, _, _, _, cdv, _, bi⟩ => decide (a = "self") && (decide (b = "self") && (decide (f' = f) && (decide (gl = mainGlobals) && (decide (bi = builtinsNs) && (PySem.W.codeIn K cdv qn &&
    (decide (sc.kind = .function) && (decide (sc.isCoroutine = false) && (decide (sc.isGenerator = false) && (decide (sc.names.lookup ("self" : Str) = some .local) && sc.names.all fun y => decide (y.2 ≠ .free))))))))))
  | _ => false
def propB (K : PySem.W.Frag) (C f fld : Str) : Bool := match PySem.W.findIn K (.ref (He.ga K C)) f with
  | some (some (.ref p)) => He.eqO (PySem.W.specialIn K (.ref p) "__get__") (some (some (.builtin "property.__get__"))) && (decide (PySem.W.takesIn K (.ref p) = some true) && match PySem.W.recIn K p "property" with
    | some (.ref g :: _) => (match K.lookup g with
      | some ⟨_, _, .func fd, _⟩ => getterB K fld fd
      | _ => false)
    | _ => false)
  | _ => false
theorem getter_ok {P : Program} {w : World} {K : PySem.W.Frag} {mg : Str → Option Value} {base : Heap} {k : Nat} {C g : Addr} {f : Str} {fd : FuncData} {oc : Value} {od : Option Addr} {osl : Array (Option Value)} (lk : K.lookup g = some ⟨oc, od, .func fd, osl⟩) (h : getterB K f fd = true) (c : Cls K C) (n : NoAttr K C f) :
    FnOk P w K mg base CX0 (k + 1) g fd ["self"] (getSp C f) ∧ Binds K fd ["self"] [] := by
  unfold getterB at h
  split at h
  · simp only [Bool.and_eq_true, decide_eq_true_eq] at h
    obtain ⟨rfl, rfl, rfl, rfl, rfl, hcd, h1, h2, h3, h4, h5⟩ := h
    refine ⟨fn_getter (N := ["self"]) lk hcd ⟨h1, h2, h3, by decide, rfl, fun x hx => ?_, fun y hy => of_decide_eq_true (List.all_eq_true.mp h5 y hy)⟩ rfl rfl c n, Binds.all fun us hl => ?_⟩
    · rw [List.mem_singleton.mp hx]; exact .inl h4
    · match us, hl with
      | [_], _ => rfl
  · cases h
theorem propB_ok {K : PySem.W.Frag} {C f fld : Str} (h : propB K C f fld = true) : ∃ p g oc od fd osl, PropOf K (He.ga K C) f p g ∧ K.lookup g = some ⟨oc, od, .func fd, osl⟩ ∧ getterB K fld fd = true := by
  unfold propB at h
  split at h
  · rename_i p e1
    simp only [Bool.and_eq_true, decide_eq_true_eq] at h
    obtain ⟨h1, h2, h3⟩ := h
    split at h3
    · rename_i g rest e2
      split at h3
      · rename_i oc od fd osl e3
        exact ⟨p, g, oc, od, fd, osl, ⟨e1, He.eqO_ok h1, h2, rest, e2⟩, e3, h3⟩
      · cases h3
    · cases h3
  · cases h
def absI : Value → Option Int
  | .int i _ => some i
  | _ => none
def tupB (K : PySem.W.Frag) (x : Str) (ns : List Int) : Bool := match K.lookup (He.ga K x) with
  | some ⟨.type n, _, .seq its _, _⟩ => decide (n = "tuple") && (Nat.ble its.size 1000 && decide (its.toList.map absI = ns.map some))
  | _ => false
def absS : Value → Option Str
  | .str z _ => some z
  | _ => none
def txtB (K : PySem.W.Frag) (x : Str) (ts : List Str) : Bool := match K.lookup (He.ga K x) with
  | some ⟨.type n, _, .seq its _, _⟩ => decide (n = "tuple") && (Nat.ble its.size 1000 && decide (its.toList.map absS = ts.map some))
  | _ => false
def neB (K : PySem.W.Frag) (c : Str) : Bool := He.eqO (PySem.W.findIn K (.ref (He.ga K c)) "__ne__") (some (some (.builtin "object.__ne__"))) && decide (PySem.W.mroIn K (He.ga K c) (.type "object") = some true)
def ttB (K : PySem.W.Frag) (x : Str) (ts : List Str) : Bool := if x = "!=" then ts.all fun c => neB K c else txtB K x ts
def clV (K : PySem.W.Frag) (c : Str) : Value := if c = "ValueError" then .type "ValueError" else .ref (He.ga K c)
def ieB (K : PySem.W.Frag) (x c : Str) : Bool :=
  He.eqO (PySem.W.findIn K (.ref (He.ga K x)) "__getattribute__") (some (some (.builtin "BaseException.__getattribute__"))) && (He.eqO (PySem.W.findIn K (.ref (He.ga K x)) "__getattr__") (some none) && (decide (PySem.W.subIn K (.ref (He.ga K x)) (.type "BaseException") = some true) && (PySem.W.hasDictIn K (He.ga K x) &&
  (He.eqO (PySem.W.findIn K (.ref (He.ga K x)) "__class__") (some (some (.builtin "object.__class__"))) && (He.eqO (PySem.W.specialIn K (.builtin "object.__class__") "__get__") (some (some (.builtin "getset_descriptor.__get__"))) && (decide (PySem.W.takesIn K (.builtin "object.__class__") = some true) && (decide (PySem.W.mroIn K (He.ga K x) (.type "object") = some true) && decide (PySem.W.kitOne K (.ref (He.ga K x)) (clV K c) = some true))))))))
theorem ieB_okV {K : PySem.W.Frag} {x c : Str} (h : ieB K x c = true) : L2.ExcC K (He.ga K x) ∧ PySem.W.kitOne K (.ref (He.ga K x)) (clV K c) = some true := by
  unfold ieB at h
  obtain ⟨h1, h⟩ := He.ba h
  obtain ⟨h2, h⟩ := He.ba h
  obtain ⟨h3, h⟩ := He.ba h
  obtain ⟨h4, h⟩ := He.ba h
  obtain ⟨h5, h⟩ := He.ba h
  obtain ⟨h6, h⟩ := He.ba h
  obtain ⟨h7, h⟩ := He.ba h
  obtain ⟨h8, h9⟩ := He.ba h
  exact ⟨⟨He.eqO_ok h1, He.eqO_ok h2, of_decide_eq_true h3, h4, He.eqO_ok h5, He.eqO_ok h6, of_decide_eq_true h7, of_decide_eq_true h8⟩, of_decide_eq_true h9⟩
theorem ieB_ok {K : PySem.W.Frag} {x c : Str} (h : ieB K x c = true) (hc : c ≠ "ValueError") : L2.ExcC K (He.ga K x) ∧ PySem.W.kitOne K (.ref (He.ga K x)) (.ref (He.ga K c)) = some true := by
  obtain ⟨h1, h2⟩ := ieB_okV h
  unfold clV at h2
  rw [if_neg hc] at h2
  exact ⟨h1, h2⟩
def clAt (cs : ClsT) (c : Int) : Option ClE := if 0 ≤ c then cs[c.toNat]? else none
def ctOf (cs : ClsT) (K : PySem.W.Frag) : CTab := fun c => (clAt cs c).map fun q => (He.ga K q.1, q.2)
def fnsOf (cs : ClsT) : FNs := fun c => match clAt cs c with
  | some q => q.2
  | none => []
def eqB (a b : Option Bool) : Bool := decide (a = b)
def exCl (K : PySem.W.Frag) (q : ClE) : Bool :=
  (He.Fa.cls q.1).ok K && (He.eqO (PySem.W.findIn K (.ref (He.ga K q.1)) "__class__") (some (some (.builtin "object.__class__"))) && (He.eqO (PySem.W.specialIn K (.builtin "object.__class__") "__get__") (some (some (.builtin "getset_descriptor.__get__"))) &&
  (eqB (PySem.W.takesIn K (.builtin "object.__class__")) (some true) && (eqB (PySem.W.mroIn K (He.ga K q.1) (.type "object")) (some true) &&
  ((tyNames.all fun a => eqB (PySem.W.kitOne K (.type a) (.ref (He.ga K q.1))) (some false)) && ((tyNames.all fun a => eqB (PySem.W.kitOne K (.ref (He.ga K q.1)) (.type a)) (some false)) && ((q.2.all fun f => (He.Fa.noat q.1 f).ok K) && ((q.pr.all fun z => propB K q.1 z.1 z.2 && q.2.contains z.2) && ((q.tp.all fun z => tupB K z.1 z.2) && ((q.ie.all fun z => ieB K z.1 z.2) && (q.tt.all fun z => ttB K z.1 z.2)))))))))))
def exK (cs : ClsT) (K : PySem.W.Frag) : Bool := (cs.all fun q => exCl K q) && ((List.range cs.length).all fun i => (List.range cs.length).all fun j => match cs[i]?, cs[j]? with
  | some q, some r => eqB (PySem.W.kitOne K (.ref (He.ga K q.1)) (.ref (He.ga K r.1))) (some (i == j))
  | _, _ => true)
theorem eqB_ok {a b : Option Bool} (h : eqB a b = true) : a = b := of_decide_eq_true h
theorem clAt_some {cs : ClsT} {c : Int} {q : ClE} (h : clAt cs c = some q) : 0 ≤ c ∧ cs[c.toNat]? = some q := by
  unfold clAt at h
  split at h
  · exact ⟨by assumption, h⟩
  · cases h
theorem ct_some {cs : ClsT} {K : PySem.W.Frag} {c : Int} {C : Addr} {ns : List Str} (h : ctOf cs K c = some (C, ns)) : ∃ q, clAt cs c = some q ∧ C = He.ga K q.1 ∧ ns = q.2 := by
  unfold ctOf at h
  cases e : clAt cs c with
  | none => rw [e] at h; cases h
  | some q => rw [e] at h; cases h; exact ⟨q, rfl, rfl, rfl⟩
theorem exCl_ok {K : PySem.W.Frag} {q : ClE} (h : exCl K q = true) : Cls K (He.ga K q.1) ∧ PySem.W.findIn K (.ref (He.ga K q.1)) "__class__" = some (some (.builtin "object.__class__")) ∧ PySem.W.specialIn K (.builtin "object.__class__") "__get__" = some (some (.builtin "getset_descriptor.__get__")) ∧
    PySem.W.takesIn K (.builtin "object.__class__") = some true ∧ PySem.W.mroIn K (He.ga K q.1) (.type "object") = some true ∧ (∀ a, tyNames.contains a = true → PySem.W.kitOne K (.type a) (.ref (He.ga K q.1)) = some false) ∧ (∀ a, tyNames.contains a = true → PySem.W.kitOne K (.ref (He.ga K q.1)) (.type a) = some false) ∧ (∀ f ∈ q.2, NoAttr K (He.ga K q.1) f) ∧ (∀ z ∈ q.pr, propB K q.1 z.1 z.2 = true ∧ z.2 ∈ q.2) ∧ (∀ z ∈ q.tp, tupB K z.1 z.2 = true) ∧ (∀ z ∈ q.ie, ieB K z.1 z.2 = true) ∧ ∀ z ∈ q.tt, ttB K z.1 z.2 = true := by
  unfold exCl at h
  simp only [Bool.and_eq_true] at h
  obtain ⟨h1, h2, h3, h4, h5, h6, h7, h8, h9, h10, h11, h12⟩ := h
  refine ⟨He.cls_ok h1, He.eqO_ok h2, He.eqO_ok h3, eqB_ok h4, eqB_ok h5, fun a ha => ?_, fun a ha => ?_, fun f hf => He.noat_ok (List.all_eq_true.mp h8 f hf), fun z hz => by
    have := List.all_eq_true.mp h9 z hz
    rw [Bool.and_eq_true] at this
    exact ⟨this.1, by simpa using this.2⟩, fun z hz => List.all_eq_true.mp h10 z hz, fun z hz => List.all_eq_true.mp h11 z hz, fun z hz => List.all_eq_true.mp h12 z hz⟩
  · exact eqB_ok (List.all_eq_true.mp h6 a (by simpa using ha))
  · exact eqB_ok (List.all_eq_true.mp h7 a (by simpa using ha))
theorem exK_isi {cs : ClsT} {K : PySem.W.Frag} (h : exK cs K = true) : IsiOk ⟨K, ctOf cs K⟩ := by
  unfold exK at h
  obtain ⟨h1, h2⟩ := He.ba h
  have one : ∀ c C ns, ctOf cs K c = some (C, ns) → ∃ q, 0 ≤ c ∧ cs[c.toNat]? = some q ∧ C = He.ga K q.1 ∧ exCl K q = true := fun c C ns e => by
    obtain ⟨q, e1, e2, e3⟩ := ct_some e
    obtain ⟨z, e4⟩ := clAt_some e1
    exact ⟨q, z, e4, e2, List.all_eq_true.mp h1 q (List.mem_of_getElem? e4)⟩
  refine ⟨fun c C ns e => ?_, fun a c C ns ha e => ?_, fun a c C ns ha e => ?_, fun c c' C C' ns ns' e e' => ?_⟩
  · obtain ⟨q, _, _, rfl, h3⟩ := one c C ns e
    obtain ⟨z1, z2, z3, z4, z5, _⟩ := exCl_ok h3
    exact ⟨z1, z2, z3, z4, z5⟩
  · obtain ⟨q, _, _, rfl, h3⟩ := one c C ns e
    exact (exCl_ok h3).2.2.2.2.2.1 a ha
  · obtain ⟨q, _, _, rfl, h3⟩ := one c C ns e
    exact (exCl_ok h3).2.2.2.2.2.2.1 a ha
  · obtain ⟨q, z, e1, rfl, _⟩ := one c C ns e
    obtain ⟨r, z', e2, rfl, _⟩ := one c' C' ns' e'
    have l1 := (List.getElem?_eq_some_iff.mp e1).1
    have l2 := (List.getElem?_eq_some_iff.mp e2).1
    have h3 := List.all_eq_true.mp (List.all_eq_true.mp h2 c.toNat (List.mem_range.mpr l1)) c'.toNat (List.mem_range.mpr l2)
    rw [e1, e2] at h3
    have h4 := eqB_ok h3
    rw [h4]
    have : (c.toNat == c'.toNat) = (c == c') := by
      by_cases y : c = c'
      · subst y; rw [beq_self_eq_true, beq_self_eq_true]
      · have : c.toNat ≠ c'.toNat := by omega
        rw [beq_eq_false_iff_ne.mpr this, beq_eq_false_iff_ne.mpr y]
    rw [this]
def clsB (cs : ClsT) : Bool := cs.all fun q => decide (q.2.length < 1000 ∧ q.2.Nodup)
theorem exK_fld {cs : ClsT} {K : PySem.W.Frag} (h : exK cs K = true) (hc : clsB cs = true) : FldOk ⟨K, ctOf cs K⟩ (fnsOf cs) := by
  have one : ∀ c C ns, ctOf cs K c = some (C, ns) → ∃ q, clAt cs c = some q ∧ C = He.ga K q.1 ∧ ns = q.2 ∧ exCl K q = true ∧ q.2.length < 1000 ∧ q.2.Nodup := fun c C ns e => by
    obtain ⟨q, e1, e2, e3⟩ := ct_some e
    obtain ⟨z, e4⟩ := clAt_some e1
    exact ⟨q, e1, e2, e3, List.all_eq_true.mp (He.ba h).1 q (List.mem_of_getElem? e4), of_decide_eq_true (List.all_eq_true.mp hc q (List.mem_of_getElem? e4))⟩
  refine ⟨fun c C ns e => ?_, fun c C ns f e hf => ?_, fun c C ns e => ?_, fun c C ns e => ?_⟩
  · obtain ⟨q, e1, _, rfl, _⟩ := one c C ns e
    unfold fnsOf; rw [e1]
  · obtain ⟨q, _, rfl, rfl, h3, _⟩ := one c C ns e
    exact (exCl_ok h3).2.2.2.2.2.2.2.1 f hf
  · obtain ⟨q, _, rfl, rfl, h3, _⟩ := one c C ns e
    exact (exCl_ok h3).1
  · obtain ⟨q, _, _, rfl, _, h3⟩ := one c C ns e
    exact h3
theorem exK_prop {cs : ClsT} {K : PySem.W.Frag} (h : exK cs K = true) {c : Int} {q : ClE} (e : clAt cs c = some q) {z : Str × Str} (hz : z ∈ q.pr) : Cls K (He.ga K q.1) ∧ NoAttr K (He.ga K q.1) z.2 ∧ propB K q.1 z.1 z.2 = true := by
  obtain ⟨_, e4⟩ := clAt_some e
  have h3 := exCl_ok (List.all_eq_true.mp (He.ba h).1 q (List.mem_of_getElem? e4))
  exact ⟨h3.1, h3.2.2.2.2.2.2.2.1 z.2 (h3.2.2.2.2.2.2.2.2.1 z hz).2, (h3.2.2.2.2.2.2.2.2.1 z hz).1⟩
theorem exK_ie {cs : ClsT} {K : PySem.W.Frag} (h : exK cs K = true) (c : Nat) {q : ClE} (e : cs[c]? = some q) {z : Str × Str} (hz : z ∈ q.ie) : ieB K z.1 z.2 = true := by
  have h3 := exCl_ok (List.all_eq_true.mp (He.ba h).1 q (List.mem_of_getElem? e))
  exact h3.2.2.2.2.2.2.2.2.2.2.1 z hz
structure Fx (fa : List He.Fa) (fn : List He.DefD) (cs : ClsT) (K : PySem.W.Frag) (mg : Str → Option Value) : Prop where
  d : He.SaysD fa fn K
  ex : exK cs K = true
  fr : ∀ x, (He.Fa.free x).ok K = true → mg x = none
  gl : ∀ x, (He.Fa.glo x).ok K = true → mg x = some (.ref (He.ga K x))
  it : ∀ x i, (He.Fa.int x i).ok K = true → ∃ t, mg x = some (.int i t)
  st : ∀ x z, (He.Fa.str x z).ok K = true → ∃ t, mg x = some (.str z t)
section
variable {fa : List He.Fa} {fn : List He.DefD} {cs : ClsT} {K : PySem.W.Frag} {mg : Str → Option Value}
theorem Fx.of {w : World} {h : Heap} (X : K.In h) (G : h.Ns mainGlobals mg) (c : He.SaysX fa fn [] [] (exK cs) w h K) : Fx fa fn cs K mg :=
  ⟨c.t.d, c.more, fun x => He.free_ok X G, fun x => He.glo_ok X G, fun x i => He.int_ok X G, fun x z => He.str_ok X G⟩
theorem Fx.free (h : Fx fa fn cs K mg) (i : Nat) {x : Str} (e : fa[i]? = some (.free x) := by rfl) : mg x = none := h.fr x (h.d.fact i e)
theorem Fx.glo (h : Fx fa fn cs K mg) (i : Nat) {x : Str} (e : fa[i]? = some (.glo x) := by rfl) : mg x = some (.ref (He.ga K x)) := h.gl x (h.d.fact i e)
theorem Fx.int (h : Fx fa fn cs K mg) (i : Nat) {x : Str} {n : Int} (e : fa[i]? = some (.int x n) := by rfl) : ∃ t, mg x = some (.int n t) := h.it x n (h.d.fact i e)
theorem Fx.str (h : Fx fa fn cs K mg) (i : Nat) {x z : Str} (e : fa[i]? = some (.str x z) := by rfl) : ∃ t, mg x = some (.str z t) := h.st x z (h.d.fact i e)
theorem Fx.meth (h : Fx fa fn cs K mg) (i : Nat) {x m : Str} (e : fa[i]? = some (.meth x m) := by rfl) : Meth K (He.ga K x) m (He.ma K (He.ga K x) m) := He.meth_ok (h.d.fact i e)
theorem Fx.mkr (h : Fx fa fn cs K mg) (i : Nat) {x : Str} (e : fa[i]? = some (.mkr x) := by rfl) : Mk K (He.ga K x) (He.ma K (He.ga K x) "__init__") := He.mkr_ok (h.d.fact i e)
theorem Fx.def_ (h : Fx fa fn cs K mg) (i : Nat) {d : He.DefD} (e : fn[i]? = some d := by rfl) : ∃ fd, FunD K d.name d.qual d.params d.body d.scope (d.dvs K) (d.kws K) (He.fAd K d.at_) fd := h.d.def_ i e
theorem Fx.kp (h : Fx fa fn cs K mg) (i : Nat) {d : He.DefD} (e : fn[i]? = some d := by rfl) : PySem.W.keepIn K (.ref (He.fAd K d.at_)) = true := by
  obtain ⟨fd, F⟩ := h.d.def_ i e
  exact F.kp
theorem Fx.isi (h : Fx fa fn cs K mg) : IsiOk ⟨K, ctOf cs K⟩ := exK_isi h.ex
end
theorem law_end {K : PySem.W.Frag} {CT : CTab} {cm : CM} {H : Hp} {a : Addr} {ns : List Int} {E : XK} (hO : Only H) (hS : SqL K H a (ns.map V.int)) (h : ∃ o, cm [.val (flsD (ns.map .int))] = some (.val (.bool true), o)) : spF ⟨K, CT⟩ false 1 cm [.ref a] H (fun v _ => v = .bl true) E := by
  obtain ⟨o, h⟩ := h
  refine ⟨H, [.val (flsD (ns.map .int))], Sub.refl _, .cons (.fls (FzL.of hO hS) (repL_ints ns)) .nil fun _ z => (nomatch z), rfl, ?_⟩
  rw [h]
  intro v F' H' _ _ r _
  have r : Rep ⟨K, CT⟩ F' v (.bool true) := r
  cases r
  rfl
end Pv

/-! Pvz: evaluating the pure functions. -/
namespace Pv
open PySem
theorem comp_pure {mg : GM} {mt : TM} {me : EM} {vs : List Nat} {ρ : Rho} (t : D → Bool) (f : D → D) : ∀ {ds : List D}, (∀ d ∈ ds, ∃ ρd, mg d ρ = some ρd ∧ mt ρd = some (t d, ρd) ∧ (t d = true → me ρd = some (.sv (.val (f d)), ρd)) ∧ kill vs ρd = ρ) → goComp mg mt me vs ds ρ = some ((ds.filter t).map f, ρ)
  | [], _ => rfl
  | d :: ds, h => by
    obtain ⟨ρd, h1, h2, h3, h4⟩ := h d (List.mem_cons_self ..)
    have ih := comp_pure t f (ds := ds) fun x hx => h x (List.mem_cons_of_mem _ hx)
    unfold goComp
    rw [h1]
    show (mt ρd).bind _ = _
    rw [h2]
    show (if t d = true then _ else _) = _
    cases e : t d with
    | true =>
      show (me ρd).bind _ = _
      rw [h3 e]
      show (goComp mg mt me vs ds (kill vs ρd)).bind _ = _
      rw [h4, ih]
      simp [e]
    | false =>
      show goComp mg mt me vs ds (kill vs ρd) = _
      rw [h4, ih]
      simp [e]
/-! iL -/
theorem eLe {a b : Int} : gLeD (.int a) (.int b) = some (.val (.bool (decide (a ≤ b)))) := by
  simp [gDat, pLt, PyData.plain, PySem.W.alike, PyData.depth, PySem.W.dataLt_int]
  by_cases h : b < a
  · simp [h, Int.not_le.mpr h]
  · simp [h, Int.not_lt.mp h]
theorem eGe {a b : Int} : gGeD (.int a) (.int b) = some (.val (.bool (decide (b ≤ a)))) := by
  simp [gDat, pLt, PyData.plain, PySem.W.alike, PyData.depth, PySem.W.dataLt_int]
  by_cases h : a < b
  · simp [h, Int.not_le.mpr h]
  · simp [h, Int.not_lt.mp h]
theorem eLt {a b : Int} : gLtD (.int a) (.int b) = some (.val (.bool (decide (a < b)))) := by
  simp [gDat, pLt, PyData.plain, PySem.W.alike, PyData.depth, PySem.W.dataLt_int]
theorem eGt {a b : Int} : gGtD (.int a) (.int b) = some (.val (.bool (decide (b < a)))) := by
  simp [gDat, pLt, PyData.plain, PySem.W.alike, PyData.depth, PySem.W.dataLt_int]
theorem eEq {a b : Int} : gEqD (.int a) (.int b) = some (.val (.bool (decide (a = b)))) := by
  simp [gDat, pEq, PyData.plain, PyData.depth, PyData.eqv]
  by_cases h : a = b <;> simp [h]
theorem eNe {a b : Int} : gNeD (.int a) (.int b) = some (.val (.bool (!decide (a = b)))) := by
  simp [gDat, pEq, PyData.plain, PyData.depth, PyData.eqv]
  by_cases h : a = b <;> simp [h]
theorem eEqB {a b : Bool} : gEqD (.bool a) (.bool b) = some (.val (.bool (decide (a = b)))) := by
  simp [gDat, pEq, PyData.plain, PyData.depth, PyData.eqv]
  cases a <;> cases b <;> simp
theorem eNeB {a b : Bool} : gNeD (.bool a) (.bool b) = some (.val (.bool (!decide (a = b)))) := by
  simp [gDat, pEq, PyData.plain, PyData.depth, PyData.eqv]
  cases a <;> cases b <;> simp
/-! lists of iL -/
abbrev iL (l : List Int) : List D := l.map PyData.int
/-! naturals -/
theorem depth_nilL : PyData.depth (.list []) ≤ 1 := by simp [PyData.depth, PyData.depthAll]
theorem eEqNil (xs : List D) (h : PyData.plainAll xs = true) : gEqD (.list xs) (.list []) = some (.val (.bool xs.isEmpty)) := by
  have h1 := depth_nilL
  have h2 : pEq (.list xs) (.list []) = true := by
    simp only [pEq, PyData.plain, h, Bool.and_eq_true, decide_eq_true_eq]
    exact ⟨⟨trivial, rfl⟩, by omega⟩
  show (if pEq (.list xs) (.list []) = true then _ else _) = _
  rw [if_pos h2]
  cases xs <;> simp [PyData.eqv, PyData.eqvAll]
theorem atI_ok {α : Type} {xs : List α} {i : Nat} {x : α} (h : xs[i]? = some x) : L2.atI xs (i : Int) = some x := by
  have hl : i < xs.length := (List.getElem?_eq_some_iff.mp h).1
  unfold L2.atI L2.ixN
  rw [if_pos (by omega), if_pos (by omega)]
  simpa using h
theorem eIxT {xs : List D} {i : Nat} {d : D} (h : xs[i]? = some d) : gIx (.tuple xs) (.int (i : Int)) = some (.val d) := by
  simp [gIx, atI_ok h]
theorem eIxL {xs : List D} {i : Nat} {d : D} (h : xs[i]? = some d) : gIx (.list xs) (.int (i : Int)) = some (.val d) := by
  simp [gIx, atI_ok h]
theorem small {n m : Nat} (h : n ≤ m) (hm : m ≤ 16777216 := by decide) : n ≤ sizeLine := by
  have : sizeLine = 16777216 := by decide
  omega
theorem ivArgs_eq {g : List D → Option (List D)} {ma : AM} {ρ ρ' : Rho} {rs : List Rv} {ds xs : List D} (h1 : ma ρ = some (rs, ρ')) (h2 : rdAll ρ' rs = some ds) (h3 : g ds = some xs) : ivArgs g ma ρ = some (xs, ρ') := by
  unfold ivArgs
  rw [h1]
  simp only [Option.bind_some]
  rw [h2]
  simp only [Option.bind_some]
  rw [h3]
  rfl
theorem rng_len {a : Int} {n : Nat} : (rngD a n).length = n := by simp [rngD]
theorem comp_eq {mi : IM} {mg : GM} {mt : TM} {me : EM} {vs : List Nat} {ρ ρ1 : Rho} {ds : List D} {out : List D} {ρ2 : Rho} (hi : mi ρ = some (ds, ρ1)) (hl : ds.length ≤ sizeLine) (h : goComp mg mt me vs ds (kill vs ρ1) = some (out, ρ2)) : evComp mi mg mt me vs ρ = some (.sv (.own (.lst out)), restore vs ρ1 ρ2) := by
  unfold evComp
  rw [hi]
  simp only [Option.bind_some]
  rw [if_pos hl, h]
  rfl
theorem cDiv_ok {i j : Int} (h : 0 < j) (h2 : j < 1073741824) : cDiv i j = true := by
  simp [cDiv]; omega
theorem cPos_ok {i j : Int} (h : 0 < j) : cPos i j = true := by
  simp [cPos]; omega
theorem cMul_r {i j : Int} (h : j.natAbs ≤ 18446744073709551615) : cMul i j = true := by
  simp [cMul, h]
theorem cPow_10 : cPow 10 18 = true := by decide
end Pv

/-! Pvy: more of evaluating; reachable blocks. -/
namespace Pv
open PySem
/-! blocks -/
abbrev Cov := List (List Nat)
def Vl (b : Nat) (l : List Nat) : Prop := (∀ x ∈ l, x < b) ∧ l.Pairwise (· < ·)
def Vc (cov : Cov) : Prop := ∀ (b : Nat) (l : List Nat), cov[b]? = some l → Vl b l
theorem range_lt (b : Nat) : (List.range b).Pairwise (· < ·) := List.pairwise_lt_range
theorem Vl.range (b : Nat) : Vl b (List.range b) := ⟨fun x hx => List.mem_range.mp hx, range_lt b⟩
theorem Vl.filter {b : Nat} {l : List Nat} (h : Vl b l) (t : Nat → Bool) : Vl b (l.filter t) := ⟨fun x hx => h.1 x (List.mem_filter.mp hx).1, h.2.filter t⟩
theorem Vc.snoc {cov : Cov} {l : List Nat} (h : Vc cov) (hl : Vl cov.length l) : Vc (cov ++ [l]) := by
  intro b m e
  by_cases hb : b < cov.length
  · rw [List.getElem?_append_left hb] at e; exact h b m e
  · rw [List.getElem?_append_right (by omega)] at e
    have : b - cov.length = 0 := by
      have := (List.getElem?_eq_some_iff.mp e).1
      simp at this; omega
    rw [this] at e
    simp at e
    subst e
    rw [show b = cov.length by omega]; exact hl
def at_ (cov : Cov) (b : Nat) : List Nat := cov.getD b []
inductive Rc (cov : Cov) : Nat → Nat → Prop
  | one {b x : Nat} : x ∈ at_ cov b → Rc cov b x
  | more {b y x : Nat} : y ∈ at_ cov b → Rc cov y x → Rc cov b x
theorem Vc.at {cov : Cov} (h : Vc cov) (b : Nat) : Vl b (at_ cov b) := by
  unfold at_
  cases e : cov[b]? with
  | none => rw [List.getD_eq_getElem?_getD, e]; exact ⟨by simp, by simp⟩
  | some l => rw [List.getD_eq_getElem?_getD, e]; exact h b l e
theorem Rc.lt {cov : Cov} (h : Vc cov) {b x : Nat} (r : Rc cov b x) : x < b := by
  induction r with
  | one hx => exact (h.at _).1 _ hx
  | more hy _ ih => have := (h.at _).1 _ hy; omega
theorem Rc.left {cov : Cov} {b x : Nat} (r : Rc cov b x) : b < cov.length := by
  have one : ∀ {b x : Nat}, x ∈ at_ cov b → b < cov.length := fun {b x} hx => by
    by_cases z : b < cov.length
    · exact z
    · unfold at_ at hx
      rw [List.getD_eq_getElem?_getD, List.getElem?_eq_none (by omega)] at hx
      simp at hx
  cases r with
  | one hx => exact one hx
  | more hy _ => exact one hy
theorem Rc.trans {cov : Cov} {a b c : Nat} (h : Rc cov a b) (g : Rc cov b c) : Rc cov a c := by
  induction h with
  | one hx => exact .more hx g
  | more hy _ ih => exact .more hy (ih g)
theorem Vl.len {b : Nat} {l : List Nat} (h : Vl b l) : l.length ≤ b := by
  have h1 : l.Nodup := h.2.imp fun h => Nat.ne_of_lt h
  have := List.Nodup.length_le_of_subset h1 (l₂ := List.range b) fun x hx => List.mem_range.mpr (h.1 x hx)
  simpa using this
end Pv

/-! Pvt: starred arguments. -/
namespace Pv
open PySem PySem.Spec PySem.SeqAt L2
def evStar (me : EM) (mr : AM) : AM := fun ρ => (me ρ).bind fun a => (rdD a.2 a.1).bind fun d => (seqD d).bind fun xs => (mr a.2).bind fun b => some (xs.map (fun x => Rv.sv (.val x)) ++ b.1, b.2)
theorem RRs.vals {k : Kx} {F : Hp} {ρ : Rho} {σ : L2.St} {H H1 : Hp} {rs : List Rv} {us : List V} (h : RRs k F ρ σ H H1 rs us) : ∀ {vs : List V} {xs : List D}, RepL k F vs xs → RRs k F ρ σ H H1 (xs.map (fun x => Rv.sv (.val x)) ++ rs) (vs ++ us)
  | _, _, .nil => h
  | _, _, .cons a b => .cons a (RRs.vals h b) (fun _ z => z) fun o e => by cases e
theorem RRs.lower {k : Kx} {F : Hp} {ρ : Rho} {σ : L2.St} {H H0 H1 : Hp} (hs : ∀ p, H0 p ≠ none → H1 p ≠ none) : ∀ {rs : List Rv} {vs : List V}, RRs k F ρ σ H H1 rs vs → RRs k F ρ σ H H0 rs vs
  | _, _, .nil => .nil
  | _, _, .cons (r := r) a b c d => by
    refine .cons ?_ b (fun p z => c p (hs p z)) d
    match r, a with
    | .sv (.val _), a => exact a
    | .sv (.own o), ⟨p, ho, e, n, q⟩ =>
      refine ⟨p, ho, e, ?_, q⟩
      cases z : H0 p with
      | none => rfl
      | some u => exact absurd n (hs p (by rw [z]; simp))
    | .plc i, a => exact a
theorem simStar {k : Kx} {te : TE} {tr : TA} {me : EM} {mr : AM} (he : SimE k te me) (hr : SimA k tr mr) : SimA k (StX.tStar k.K te tr) (evStar me mr) := by
  intro F ρ σ H Q f h
  unfold evStar at h
  refine he F ρ σ H _ f ((wpo_bind.mp h).mono fun a _ h => ?_)
  intro v F1 H1 A1 R1
  have h := wpo_bind.mp h
  cases e1 : rdD a.2 a.1 with
  | none => rw [e1] at h; exact h.elim
  | some d =>
    rw [e1] at h
    have h : wpo ((seqD d).bind _) _ := h
    cases e2 : seqD d with
    | none => rw [e2] at h; exact h.elim
    | some xs =>
      rw [e2] at h
      obtain ⟨p, vs, rfl, hp, rl⟩ := (R1.rd A1.fr e1).seq A1.fr.sub e2
      refine ⟨p, vs, rfl, hp.symm, ?_⟩
      have h : wpo ((mr a.2).bind _) _ := h
      refine hr F1 a.2 σ H1 _ A1.fr ((wpo_bind.mp h).mono fun b _ h => ?_)
      intro us F2 H2 A2 R2
      refine h (vs ++ us) F2 H2 (A1.trans A2) (RRs.vals (RRs.lower (fun q z => ?_) R2) (rl.mono A2.tr.sub))
      cases y : H q with
      | none => exact absurd y z
      | some u => obtain ⟨u', hu'⟩ := A1.tr.there q u y; rw [hu']; simp
theorem aStar {X : Cx} {CT : CTab} {e : Expr} {es : List Expr} {me : EM} {mr : AM} {p : Pos} (he : NE X CT e me) (hr : NA X CT es mr) (hs : starEach (.Starred e p :: es) X.env = (true, eval e X.env) :: starEach es X.env := by rfl) : NA X CT (.Starred e p :: es) (evStar me mr) := by
  obtain ⟨_, pe, se⟩ := he
  obtain ⟨_, pr, sr⟩ := hr
  exact ⟨_, StX.pa_star pe pr hs, simStar (k := kx X CT) se sr⟩
end Pv

/-! Pvu: comprehensions of two clauses. -/
namespace Pv
open PySem PySem.Spec PySem.SeqAt L2
def goComp2 (mg : GM) (mt : TM) (mi1 : IM) (mg1 : GM) (mt1 : TM) (me : EM) (vs vs1 : List Nat) : List D → Rho → Option (List D × Rho)
  | [], ρ => some ([], ρ)
  | d :: r, ρ => (mg d ρ).bind fun ρ1 => (mt ρ1).bind fun b => if b.1 = true then (mi1 b.2).bind fun c => (goComp mg1 mt1 me vs1 c.1 (kill vs1 c.2)).bind fun z => (goComp2 mg mt mi1 mg1 mt1 me vs vs1 r (kill vs z.2)).bind fun y => some (z.1 ++ y.1, y.2)
      else goComp2 mg mt mi1 mg1 mt1 me vs vs1 r (kill vs b.2)
def evComp2 (mi : IM) (mg : GM) (mt : TM) (mi1 : IM) (mg1 : GM) (mt1 : TM) (me : EM) (vs vs1 : List Nat) : EM := fun ρ => (mi ρ).bind fun a => (goComp2 mg mt mi1 mg1 mt1 me vs vs1 a.1 (kill vs a.2)).bind fun z => if z.1.length ≤ sizeLine then some (.sv (.own (.lst z.1)), restore vs a.2 z.2) else none
structure CJ (k : Kx) (e : Ent) (O : Addr → Prop) (ρ0 ρ : Rho) (σ : L2.St) (F H : Hp) (T : Addr) (acc : List V) (ds : List D) : Prop where
  s : SInv k e ρ σ F H
  ow : ∀ p, Own ρ σ p → O p
  sl : ∀ (i : Nat) (x : SV), ρ0[i]? = some (some x) → ∃ x', ρ[i]? = some (some x')
  hT : H T = some (.lst acc)
  fT : F T = none
  r : RepL k F acc ds
theorem CJ.aft {k : Kx} {e : Ent} {O : Addr → Prop} {ρ0 ρ ρ' : Rho} {σ : L2.St} {F H F' H' : Hp} {T : Addr} {acc : List V} {ds : List D} (c : CJ k e O ρ0 ρ σ F H T acc ds) (nO : ¬ O T) (A : Aft k ρ σ F H ρ' F' H') : CJ k e O ρ0 ρ' σ F' H' T acc ds :=
  ⟨c.s.aft A, fun p z => c.ow p (A.ow p z), fun i x q => let ⟨x', q'⟩ := c.sl i x q; A.sl i x' q', A.tr.keep T _ c.hT fun z => nO (c.ow T z), A.tr.new T _ c.hT trivial c.fT fun z => nO (c.ow T z), c.r.mono A.tr.sub⟩
theorem CJ.wiped {k : Kx} {e : Ent} {O : Addr → Prop} {ρ0 ρ : Rho} {σ : L2.St} {F H : Hp} {T : Addr} {acc : List V} {ds : List D} {ws : List Nat} (c : CJ k e O ρ0 ρ σ F H T acc ds) (he : e.pr = []) (hw : ∀ i ∈ ws, ∀ x, ρ0[i]? ≠ some (some x)) : CJ k e O ρ0 (kill ws ρ) (wipe σ ws) F H T acc ds :=
  ⟨⟨c.s.fr.wiped, c.s.tr, fun p z => c.s.ow p z.wiped, fun q hq => by rw [he] at hq; cases hq⟩, fun p z => c.ow p z.wiped, fun i x q => by
    obtain ⟨x', q'⟩ := c.sl i x q
    exact ⟨x', by rw [kill_out fun z => hw i z x q]; exact q'⟩, c.hT, c.fT, c.r⟩
theorem CJ.newF {k : Kx} {e : Ent} {O : Addr → Prop} {ρ0 ρ : Rho} {σ : L2.St} {F H : Hp} {T U : Addr} {o : HO} {acc : List V} {ds : List D} (c : CJ k e O ρ0 ρ σ F H T acc ds) (hU : H U = none) : CJ k e O ρ0 ρ σ (upd F U o) (upd H U o) T acc ds := by
  have ne : T ≠ U := fun z => by rw [← z, c.hT] at hU; cases hU
  exact ⟨c.s.newF hU, c.ow, c.sl, by rw [upd_ne ne]; exact c.hT, by rw [upd_ne ne]; exact c.fT, c.r.mono (Sub.upd (c.s.fr.sub.none_of hU))⟩
theorem CJ.target {k : Kx} {e : Ent} {O : Addr → Prop} {ρ0 ρ ρ' : Rho} {σ σ' : L2.St} {F H : Hp} {T : Addr} {acc : List V} {ds : List D} (c : CJ k e O ρ0 ρ σ F H T acc ds) (s' : SInv k e ρ' σ' F H) (ow : ∀ p, Own ρ' σ' p → Own ρ σ p) (sl : Sls ρ ρ') : CJ k e O ρ0 ρ' σ' F H T acc ds :=
  ⟨s', fun p z => c.ow p (ow p z), fun i x q => let ⟨x', q'⟩ := c.sl i x q; sl i x' q', c.hT, c.fT, c.r⟩
theorem CJ.push {k : Kx} {e : Ent} {O : Addr → Prop} {ρ0 ρ : Rho} {σ : L2.St} {F H : Hp} {T : Addr} {acc : List V} {ds : List D} {v : V} {d : D} (c : CJ k e O ρ0 ρ σ F H T acc ds) (nO : ¬ O T) (eT : e.H T = none) (r : Rep k F v d) : CJ k e O ρ0 ρ σ F (upd H T (.lst (acc ++ [v]))) T (acc ++ [v]) (ds ++ [d]) :=
  ⟨c.s.temp eT c.fT fun z => nO (c.ow T z), c.ow, c.sl, upd_same, c.fT, c.r.append (.cons r .nil)⟩
theorem lc_in {J : It} {n : Nat} {G : Hp → Prop} {Y : Nat → Hp → V → Hp → Prop} (w : Walk J n G Y) {g1 : TG} {tt1 : TT} {te : TE} {vs1 : List Nat} {σ2 : L2.St} {H4 : Hp} {D : Addr} {Nx : Hp → Prop} (Pv : Nat → Hp → Prop) (h0 : Pv 0 H4) (hG : ∀ i H, i ≤ n → Pv i H → G H)
    (hs : ∀ i x H H', i < n → Pv i H → Y i H x H' → g1 x (wipe σ2 vs1) H' fun σ3 H5 => wipe σ3 vs1 = wipe σ2 vs1 ∧ tt1 σ3 H5 fun b H6 => if b = true then te σ3 H6 fun y H7 => ∃ acc, H7 D = some (.lst acc) ∧ acc.length < sizeLine ∧ Pv (i + 1) (upd H7 D (.lst (acc ++ [y]))) else Pv (i + 1) H6) (hd : ∀ H, Pv n H → Nx H) :
    ∃ W1 : Nat → Nat → Hp → Prop, (∃ m, W1 0 m H4) ∧ ∀ j k H, W1 j k H →
      (J.stop j H ∧ Nx H) ∨ (J.go j H ∧ ∃ Nx1 : Hp → Prop, (∀ H', Nx1 H' → ∃ k', k' < k ∧ W1 (j + 1) k' H') ∧ ∀ x H', J.yld j H x H' → g1 x (wipe σ2 vs1) H' fun σ3 H5 => wipe σ3 vs1 = wipe σ2 vs1 ∧ tt1 σ3 H5 fun b H6 =>
        if b = true then te σ3 H6 fun y H7 => ∃ acc, H7 D = some (.lst acc) ∧ acc.length < sizeLine ∧ Nx1 (upd H7 D (.lst (acc ++ [y]))) else Nx1 H6) := by
  refine ⟨fun i m H => m = n - i ∧ i ≤ n ∧ Pv i H, ⟨n, by simp, Nat.zero_le _, h0⟩, ?_⟩
  rintro i m H ⟨rfl, hi, p⟩
  have q := hG i H hi p
  by_cases hlt : i < n
  · exact .inr ⟨w.goes i H hlt q, Pv (i + 1), fun H' p' => ⟨n - (i + 1), by omega, rfl, hlt, p'⟩, fun x H' y => hs i x H H' hlt p (w.yields i H x H' hlt q y)⟩
  · have e : i = n := by omega
    subst e
    exact .inl ⟨w.stops H q, hd H p⟩
section
variable {k : Kx} {e : Ent} {O : Addr → Prop} {ρ0 : Rho} {T : Addr} (he0 : e.pr = []) (nO : ¬ O T) (eT : e.H T = none)
include he0 nO eT
theorem turn_in {ts1 vs1 : List Nat} {g1 : TG} {tt1 : TT} {te : TE} {mg1 : GM} {mt1 : TM} {me : EM} (hg : SimG k [] ts1 g1 mg1) (ht : SimT k tt1 mt1) (hee : SimE k te me) (hv : ∀ t ∈ ts1, t ∈ vs1) (hw : ∀ i ∈ vs1, ∀ x, ρ0[i]? ≠ some (some x)) {ρ : Rho} {σ2 : L2.St} {F H : Hp} {acc : List V} {ds : List D} {x : V} {d : D} {N : Hp → Prop} {r : List D} {C : List D × Rho → Prop}
    (c : CJ k e O ρ0 ρ (wipe σ2 vs1) F H T acc ds) (rp : Rep k F x d) (h : wpo (goComp mg1 mt1 me vs1 (d :: r) ρ) C) (hC : ∀ z, C z → (ds ++ z.1).length ≤ sizeLine)
    (fin : ∀ ρ' F' H' acc' zs, Sub F F' → CJ k e O ρ0 ρ' (wipe σ2 vs1) F' H' T acc' (ds ++ zs) → wpo (goComp mg1 mt1 me vs1 r ρ') (fun z => C (zs ++ z.1, z.2)) → N H') :
    g1 x (wipe σ2 vs1) H fun σ3 H5 => wipe σ3 vs1 = wipe σ2 vs1 ∧ tt1 σ3 H5 fun b H6 => if b = true then te σ3 H6 fun y H7 => ∃ acc, H7 T = some (.lst acc) ∧ acc.length < sizeLine ∧ N (upd H7 T (.lst (acc ++ [y]))) else N H6 := by
  unfold goComp at h
  refine hg e ρ (wipe σ2 vs1) F H x _ _ (fun q hq => by rw [he0] at hq; cases hq) c.s rp ((wpo_bind.mp h).mono fun ρ1 _ h => ?_)
  intro σ3 s3 ag ow3 sl3
  have ew : wipe σ3 vs1 = wipe σ2 vs1 := (wipe_agr ag hv).trans wipe_wipe
  have c3 := c.target s3 ow3 sl3
  refine ⟨ew, ht F ρ1 σ3 H _ s3.fr ((wpo_bind.mp h).mono fun b _ h => ?_)⟩
  intro F3 H3 A3
  have c4 := c3.aft nO A3
  split at h
  · rename_i eb
    rw [if_pos eb]
    refine hee F3 b.2 σ3 H3 _ c4.s.fr ((wpo_bind.mp h).mono fun z _ h => ?_)
    intro v F4 H4 A4 R4
    have h := wpo_bind.mp h
    cases ef : frz1 z.2 z.1 with
    | none => rw [ef] at h; exact h.elim
    | some y =>
      rw [ef] at h
      obtain ⟨F5, A5, s5, r5, _⟩ := frz1_ok c4.s.fr A4 R4 ef
      have c5 := c4.aft nO A5
      have h : wpo ((goComp mg1 mt1 me vs1 r (kill vs1 y.2)).bind fun z => some (y.1 :: z.1, z.2)) C := h
      have h := wpo_bind.mp h
      have hl : acc.length < sizeLine := by
        rw [c.r.length]
        cases q : goComp mg1 mt1 me vs1 r (kill vs1 y.2) with
        | none => rw [q] at h; exact h.elim
        | some u =>
          rw [q] at h
          have := hC _ h
          simp only [List.length_append, List.length_cons] at this
          omega
      refine ⟨acc, c5.hT, hl, ?_⟩
      have c6 := (c5.push nO eT r5).wiped (ws := vs1) he0 hw
      rw [ew] at c6
      exact fin (kill vs1 y.2) F5 _ _ [y.1] (A3.tr.sub.trans A5.tr.sub) c6 (h.mono fun u _ q => q)
  · rename_i eb
    rw [if_neg eb]
    have c6 := c4.wiped (ws := vs1) he0 hw
    rw [ew] at c6
    exact fin (kill vs1 b.2) F3 H3 acc [] A3.tr.sub (by rw [List.append_nil]; exact c6) (h.mono fun u _ q => q)
theorem walk_in {ts1 vs1 : List Nat} {wi1 : TI} {g1 : TG} {tt1 : TT} {te : TE} {mi1 : IM} {mg1 : GM} {mt1 : TM} {me : EM} (hi : SimI k wi1 mi1) (hg : SimG k [] ts1 g1 mg1) (ht : SimT k tt1 mt1) (hee : SimE k te me) (hv : ∀ t ∈ ts1, t ∈ vs1) (hw : ∀ i ∈ vs1, ∀ x, ρ0[i]? ≠ some (some x)) {ρ : Rho} {σ2 : L2.St} {F H : Hp} {acc : List V} {ds : List D} {N : Hp → Prop} {C : List D × Rho → Prop}
    (c : CJ k e O ρ0 ρ σ2 F H T acc ds) (h : wpo (mi1 ρ) fun a => wpo (goComp mg1 mt1 me vs1 a.1 (kill vs1 a.2)) C) (hC : ∀ z, C z → (ds ++ z.1).length ≤ sizeLine)
    (fin : ∀ F' H' acc' z, C z → CJ k e O ρ0 z.2 (wipe σ2 vs1) F' H' T acc' (ds ++ z.1) → N H') :
    wi1 σ2 H fun J1 H4 => ∃ W1 : Nat → Nat → Hp → Prop, (∃ m, W1 0 m H4) ∧ ∀ j k H, W1 j k H →
      (J1.stop j H ∧ N H) ∨ (J1.go j H ∧ ∃ Nx1 : Hp → Prop, (∀ H', Nx1 H' → ∃ k', k' < k ∧ W1 (j + 1) k' H') ∧ ∀ x H', J1.yld j H x H' → g1 x (wipe σ2 vs1) H' fun σ3 H5 => wipe σ3 vs1 = wipe σ2 vs1 ∧ tt1 σ3 H5 fun b H6 =>
        if b = true then te σ3 H6 fun y H7 => ∃ acc, H7 T = some (.lst acc) ∧ acc.length < sizeLine ∧ Nx1 (upd H7 T (.lst (acc ++ [y]))) else Nx1 H6) := by
  refine hi F ρ σ2 H _ c.s.fr (h.mono fun a _ h => ?_)
  intro J F1 H1 A1 W
  obtain ⟨G, Y, w, hG, hY⟩ := W.w
  have c1 := (c.aft nO A1).wiped (ws := vs1) he0 hw
  refine lc_in w (fun i H => ∃ ρ F acc zs, Sub F1 F ∧ CJ k e O ρ0 ρ (wipe σ2 vs1) F H T acc (ds ++ zs) ∧ wpo (goComp mg1 mt1 me vs1 (a.1.drop i) ρ) (fun z => C (zs ++ z.1, z.2))) ?_ ?_ ?_ ?_
  · exact ⟨_, F1, acc, [], Sub.refl _, by rw [List.append_nil]; exact c1, h.mono fun z _ q => q⟩
  · rintro i H hi ⟨ρ', F', acc', zs, sb, c', _⟩
    exact hG F' H sb c'.s.fr.sub
  · rintro i x H H' hi ⟨ρ', F', acc', zs, sb, c', h⟩ y
    have e1 : a.1[i]? = some a.1[i] := List.getElem?_eq_getElem hi
    rw [List.drop_eq_getElem_cons hi] at h
    have go : ∀ F2 H2, Sub F1 F2 → CJ k e O ρ0 ρ' (wipe σ2 vs1) F2 H2 T acc' (ds ++ zs) → Rep k F2 x a.1[i] → _ := fun F2 H2 sb2 c2 rp =>
      turn_in he0 nO eT hg ht hee hv hw (N := fun H => ∃ ρ F acc zs, Sub F1 F ∧ CJ k e O ρ0 ρ (wipe σ2 vs1) F H T acc (ds ++ zs) ∧ wpo (goComp mg1 mt1 me vs1 (a.1.drop (i + 1)) ρ) (fun z => C (zs ++ z.1, z.2))) c2 rp h
        (fun z q => by have := hC _ q; simpa [List.append_assoc] using this) fun ρ4 F4 H4 acc4 zs4 sb4 c4 h4 => ⟨ρ4, F4, acc4, zs ++ zs4, sb2.trans sb4, by rw [← List.append_assoc]; exact c4, h4.mono fun u _ q => by
          have : (zs ++ zs4) ++ u.1 = zs ++ (zs4 ++ u.1) := List.append_assoc ..
          rw [this]; exact q⟩
    obtain ⟨F2, A2, rp⟩ := (hY i _ F' H x H' e1 sb c'.s.fr.sub y).aft c'.s.fr
    exact go F2 H' (sb.trans A2.tr.sub) (c'.aft nO A2) rp
  · rintro H' ⟨ρ', F', acc', zs, sb, c', h⟩
    rw [List.drop_length] at h
    have h : C (zs ++ [], ρ') := h
    rw [List.append_nil] at h
    exact fin F' H' acc' (zs, ρ') h c'
end
theorem wipe_sub {σ : L2.St} {vs vs1 : List Nat} (h : ∀ i ∈ vs1, i ∈ vs) : wipe (wipe σ vs1) vs = wipe σ vs := by
  apply List.ext_getElem?
  intro i
  by_cases hi : i ∈ vs
  · rw [wipe_in hi, wipe_in hi, wipe_length]
  · rw [wipe_ne hi, wipe_ne hi, wipe_ne fun z => hi (h i z)]
theorem simComp2_at {k : Kx} {ts ts1 vs vs1 : List Nat} {wi wi1 : TI} {g g1 : TG} {tt tt1 : TT} {te : TE} {mi mi1 : IM} {mg mg1 : GM} {mt mt1 : TM} {me : EM} (hg : SimG k [] ts g mg) (ht : SimT k tt mt) (hi1 : SimI k wi1 mi1) (hg1 : SimG k [] ts1 g1 mg1) (ht1 : SimT k tt1 mt1) (he : SimE k te me) (hv : ∀ t ∈ ts, t ∈ vs) (hv1 : ∀ t ∈ ts1, t ∈ vs1) (hvv : ∀ i ∈ vs1, i ∈ vs) {F : Hp} {ρ : Rho} {σ : L2.St} {H : Hp} {Q : VK} (f : FR k F ρ σ H)
    (hi : ∀ R : It → Hp → Prop, wpo (mi ρ) (fun x => ∀ J F' H', Aft k ρ σ F H x.2 F' H' → WalkL k J F' H' x.1 → R J H') → wi σ H R)
    (h : wpo (evComp2 mi mg mt mi1 mg1 mt1 me vs vs1 ρ) (fun x => ∀ v F' H', Aft k ρ σ F H x.2 F' H' → RR k H F' x.2 σ H' x.1 v → Q v H')) : tLc2 wi g tt wi1 g1 tt1 te vs vs1 σ H Q := by
  unfold evComp2 at h
  refine hi _ ((wpo_bind.mp h).mono fun a _ h => ?_)
  intro J F1 H1 A1 W T hT
  obtain ⟨G, Y, w, hG, hY⟩ := W.w
  let e : Ent := ⟨F1, H1, Own (kill vs a.2) (wipe σ vs), []⟩
  have s0 : SInv k e (kill vs a.2) (wipe σ vs) F1 H1 := ⟨A1.fr.wiped, Tr.refl, fun p z => .inl z, fun q hq => by cases hq⟩
  have nT : F1 T = none := A1.fr.sub.none_of hT
  have eT : e.H T = none := hT
  have nO : ¬ Own (kill vs a.2) (wipe σ vs) T := fun z => by
    obtain ⟨u, hu⟩ := s0.fr.own_some z
    rw [hT] at hu; cases hu
  have hw : ∀ i ∈ vs, ∀ x, (kill vs a.2)[i]? ≠ some (some x) := fun i hi x q => (kill_get q).2 hi
  have lk : ∀ {ρ' : Rho} {F' H' : Hp}, SInv k e ρ' (wipe σ vs) F' H' → LkK F1 H1 H' := fun {ρ' F' H'} s' b od u h1 h2 => s'.tr.keep b _ h2 fun z => h1 (s0.fr.own_none z)
  let C : List D → List D × Rho → Prop := fun ds z => (ds ++ z.1).length ≤ sizeLine ∧ ∀ v F' H', Aft k ρ σ F H (restore vs a.2 z.2) F' H' → RR k H F' (restore vs a.2 z.2) σ H' (.sv (.own (.lst (ds ++ z.1)))) v → Q v H'
  let Pv : Nat → Hp → Prop := fun i H => ∃ ρ F acc ds, CJ k e (Own (kill vs a.2) (wipe σ vs)) (kill vs a.2) ρ (wipe σ vs) F H T acc ds ∧ wpo (goComp2 mg mt mi1 mg1 mt1 me vs vs1 (a.1.drop i) ρ) (C ds)
  have P0 : Pv 0 (upd H1 T (.lst [])) := by
    refine ⟨kill vs a.2, F1, [], [], ⟨s0.temp hT nT nO, fun p z => z, fun i x q => ⟨x, q⟩, upd_same, nT, .nil⟩, (wpo_bind.mp h).mono fun z _ h => ?_⟩
    split at h
    · rename_i hz
      exact ⟨hz, fun v F' H' A R => h v F' H' A R⟩
    · exact h.elim
  refine ⟨fun i m H => m = a.1.length - i ∧ i ≤ a.1.length ∧ Pv i H, ⟨a.1.length, by simp, Nat.zero_le _, P0⟩, ?_⟩
  rintro i m H ⟨rfl, hin, ρ', F', acc, ds, c, h⟩
  have q := hG F' H c.s.tr.sub c.s.fr.sub (lk c.s)
  by_cases hlt : i < a.1.length
  · refine .inr ⟨w.goes i H hlt q, Pv (i + 1), fun H' p' => ⟨a.1.length - (i + 1), by omega, rfl, hlt, p'⟩, fun x H' y => ?_⟩
    have y := w.yields i H x H' hlt q y
    have e1 : a.1[i]? = some a.1[i] := List.getElem?_eq_getElem hlt
    rw [List.drop_eq_getElem_cons hlt] at h
    unfold goComp2 at h
    have go : ∀ F2 H2, CJ k e (Own (kill vs a.2) (wipe σ vs)) (kill vs a.2) ρ' (wipe σ vs) F2 H2 T acc ds → Rep k F2 x a.1[i] → g x (wipe σ vs) H2 fun σ2 H2 => wipe σ2 vs = wipe σ vs ∧ tt σ2 H2 fun b H3 =>
    if b = true then wi1 σ2 H3 fun J1 H4 => ∃ W1 : Nat → Nat → Hp → Prop, (∃ m, W1 0 m H4) ∧ ∀ j k H, W1 j k H →
      (J1.stop j H ∧ Pv (i + 1) H) ∨ (J1.go j H ∧ ∃ Nx1 : Hp → Prop, (∀ H', Nx1 H' → ∃ k', k' < k ∧ W1 (j + 1) k' H') ∧ ∀ x H', J1.yld j H x H' → g1 x (wipe σ2 vs1) H' fun σ3 H5 => wipe σ3 vs1 = wipe σ2 vs1 ∧ tt1 σ3 H5 fun b H6 =>
        if b = true then te σ3 H6 fun y H7 => ∃ acc, H7 T = some (.lst acc) ∧ acc.length < sizeLine ∧ Nx1 (upd H7 T (.lst (acc ++ [y]))) else Nx1 H6)
    else Pv (i + 1) H3 := by
      intro F2 H2 c rp
      refine hg e ρ' (wipe σ vs) F2 H2 x _ _ (fun q hq => by cases hq) c.s rp ((wpo_bind.mp h).mono fun ρ1 _ h => ?_)
      intro σ3 s3 ag ow3 sl3
      have ew : wipe σ3 vs = wipe σ vs := (wipe_agr ag hv).trans wipe_wipe
      have c3 := c.target s3 ow3 sl3
      refine ⟨ew, ht F2 ρ1 σ3 H2 _ s3.fr ((wpo_bind.mp h).mono fun b _ h => ?_)⟩
      intro F3 H3 A3
      have c4 := c3.aft nO A3
      split at h
      · rename_i eb
        rw [if_pos eb]
        refine walk_in (k := k) (e := e) rfl nO eT hi1 hg1 ht1 he hv1 (fun i hi => hw i (hvv i hi)) c4 (C := fun z => wpo (goComp2 mg mt mi1 mg1 mt1 me vs vs1 (a.1.drop (i + 1)) (kill vs z.2)) (C (ds ++ z.1))) ((wpo_bind.mp h).mono fun u _ h => (wpo_bind.mp h).mono fun z _ h => (wpo_bind.mp h).mono fun v _ h => ?_) (fun z hz => ?_) fun F' H' acc' z hz cz => ?_
        · obtain ⟨h1, h2⟩ := h
          exact ⟨by simpa [List.append_assoc] using h1, fun v F' H' A R => h2 v F' H' A (by rw [List.append_assoc] at R; exact R)⟩
        · cases q : goComp2 mg mt mi1 mg1 mt1 me vs vs1 (a.1.drop (i + 1)) (kill vs z.2) with
          | none => rw [q] at hz; exact hz.elim
          | some u =>
            rw [q] at hz
            have := hz.1
            simp only [List.length_append] at this ⊢
            omega
        · have c6 := cz.wiped (ws := vs) rfl hw
          rw [wipe_sub hvv, ew] at c6
          exact ⟨kill vs z.2, F', acc', _, c6, hz⟩
      · rename_i eb
        rw [if_neg eb]
        have c6 := c4.wiped (ws := vs) rfl hw
        rw [ew] at c6
        exact ⟨kill vs b.2, F3, acc, ds, c6, h⟩
    obtain ⟨F2, A2, rp⟩ := (hY i _ F' H x H' e1 c.s.tr.sub c.s.fr.sub (lk c.s) y).aft c.s.fr
    exact go F2 H' (c.aft nO A2) rp
  · have ei : i = a.1.length := by omega
    subst ei
    rw [List.drop_length] at h
    have h : C ds ([], ρ') := h
    refine .inl ⟨w.stops H q, h.2 _ F' H ?_ ?_⟩
    · refine A1.trans ⟨FR.restored A1.fr c.s.tr c.ow c.s.fr, ⟨c.s.tr.sub, fun p o q nI => c.s.tr.keep p o q fun z => nI z.wiped, fun p o q m f nI => c.s.tr.new p o q m f fun z => nI z.wiped, c.s.tr.there⟩, fun p z => z.restored c.ow, fun i s q => ?_⟩
      by_cases hi : i ∈ vs
      · refine ⟨s, restore_in q ?_ (.inl hi)⟩
        have l1 := (List.getElem?_eq_some_iff.mp q).1
        have l2 := c.s.fr.len
        rw [wipe_length] at l2
        show i < ρ'.length
        have l3 := A1.fr.len
        omega
      · obtain ⟨x', q'⟩ := c.sl i s (by rw [kill_out hi]; exact q)
        exact ⟨x', by rw [restore_out hi]; exact q'⟩
    · exact ⟨T, _, rfl, A1.none_of hT, c.hT, c.fT, acc, rfl, by rw [List.append_nil]; exact c.r⟩
theorem simComp2 {k : Kx} {ts ts1 vs vs1 : List Nat} {wi wi1 : TI} {g g1 : TG} {tt tt1 : TT} {te : TE} {mi mi1 : IM} {mg mg1 : GM} {mt mt1 : TM} {me : EM} (hi : SimI k wi mi) (hg : SimG k [] ts g mg) (ht : SimT k tt mt) (hi1 : SimI k wi1 mi1) (hg1 : SimG k [] ts1 g1 mg1) (ht1 : SimT k tt1 mt1) (he : SimE k te me) (hv : ∀ t ∈ ts, t ∈ vs) (hv1 : ∀ t ∈ ts1, t ∈ vs1) (hvv : ∀ i ∈ vs1, i ∈ vs) :
    SimE k (tLc2 wi g tt wi1 g1 tt1 te vs vs1) (evComp2 mi mg mt mi1 mg1 mt1 me vs vs1) := fun F ρ σ H Q f h => simComp2_at hg ht hi1 hg1 ht1 he hv hv1 hvv f (fun R q => hi F ρ σ H R f (q.mono fun x _ q J F1 H1 A W => q J F1 H1 A W.l)) h
section
variable {X : Cx} {CT : CTab} {pos : Pos} {e tg it tg1 it1 : Expr} {mi mi1 : IM} {mg mg1 : GM} {mt mt1 : TM} {me : EM} {P ts ts1 vs vs1 : List Nat} {Wx : Option WX}
def cI (k : Kx) (m : IM) : TI := fun σ H R => ∃ F ρ, FR k F ρ σ H ∧ wpo (m ρ) (fun x => ∀ J F' H', Aft k ρ σ F H x.2 F' H' → WalkD k J F' x.1 → R J H')
theorem cI_sim {k : Kx} {m : IM} : SimI k (cI k m) m := fun F ρ σ H R f h => ⟨F, ρ, f, h⟩
theorem cI_pi {k : Kx} {X : Cx} {tg it : Expr} {m : IM} (h : ∃ w, PI X tg it w ∧ SimI k w m) : PI X tg it (cI k m) := by
  obtain ⟨te, p, s⟩ := h
  exact ⟨fun pins sh σ H R I ⟨F, ρ, f, q⟩ => p.run pins sh σ H R I (s F ρ σ H R f q)⟩
theorem nComp2 {scope : Scope} {ifs ifs1 : List Expr} (own : List (Str × Nat)) (hc : X.calm = true) (hN : X.N.Nodup) (ok : BlkOk X.N X.env.scope scope own) (hi : NI X CT tg it mi) (hg : Blk X scope fun Y => NG Y CT [] ts tg mg) (ht : Blk X scope fun Y => NTs Y CT ifs mt) (hi1 : Blk X scope fun Y => NI Y CT tg1 it1 mi1) (hg1 : Blk X scope fun Y => NG Y CT [] ts1 tg1 mg1) (ht1 : Blk X scope fun Y => NTs Y CT ifs1 mt1) (he : Blk X scope fun Y => NE Y CT e me)
    (hv : ∀ t ∈ ts, t ∈ own.map (·.2) := by decide) (hv1 : ∀ t ∈ ts1, t ∈ vs1 := by decide) (hvv : ∀ t ∈ vs1, t ∈ own.map (·.2) := by decide) (hs : ∀ x, foldedSetIterable it X.env x = pure x := by intro _; rfl) (hs1 : ∀ env x, foldedSetIterable it1 env x = pure x := by intro _ _; rfl) (hvs : own.map (·.2) = vs := by rfl) :
    NE X CT (.ListComp e [⟨tg, it, ifs, 0⟩, ⟨tg1, it1, ifs1, 0⟩] scope pos) (evComp2 mi mg mt mi1 mg1 mt1 me vs vs1) := by
  obtain ⟨_, p1, s1⟩ := hi
  subst hvs
  exact ⟨_, pe_lc2 hc hN p1 ok hvv (fun s H C cl fp => cG_of (k := kx X CT) (hg s H C cl fp)) (fun s H C cl fp => cT_of (k := kx X CT) (ht s H C cl fp)) (fun s H C cl fp => cI_pi (k := kx X CT) (hi1 s H C cl fp)) (fun s H C cl fp => cG_of (k := kx X CT) (hg1 s H C cl fp)) (fun s H C cl fp => cT_of (k := kx X CT) (ht1 s H C cl fp)) (fun s H C cl fp => cE_of (k := kx X CT) (he s H C cl fp)) hs hs1,
    simComp2 s1 cG_sim cT_sim cI_sim cG_sim cT_sim cE_sim hv hv1 hvv⟩
end
end Pv

/-! Pvv: sorted(xs, key=f), f a def of one's own. -/
namespace Pv
open PySem PySem.Spec PySem.SeqAt L2 PySem.W PyProof.Rows
def keysOf (cm : CM) : List D → Option (List D)
  | [] => some []
  | d :: r => (cm [.val d]).bind fun x => match x.1 with
    | .val kd => (keysOf cm r).bind fun ks => some (kd :: ks)
    | _ => none
def srtK (xs ks : List D) : List D := ((xs.zip ks).mergeSort (dataLe false fun b => b.2)).map (·.1)
def gSortK (cm : CM) : List D → Option SV
  | [.list xs] => (keysOf cm xs).bind fun ks => if pSort ks = true then some (.own (.lst (srtK xs ks))) else none
  | _ => none
theorem keysOf_len {cm : CM} : ∀ {xs ks : List D}, keysOf cm xs = some ks → ks.length = xs.length
  | [], ks, h => by simp only [keysOf, Option.some.injEq] at h; subst h; rfl
  | d :: r, ks, h => by
    unfold keysOf at h
    rw [Option.bind_eq_some_iff] at h
    obtain ⟨x, _, h⟩ := h
    split at h
    · rw [Option.bind_eq_some_iff] at h
      obtain ⟨ks', h1, h2⟩ := h
      cases h2
      simp [keysOf_len h1]
    · cases h
theorem keysOf_at {cm : CM} : ∀ {xs ks : List D} {i : Nat} {d : D}, keysOf cm xs = some ks → xs[i]? = some d → ∃ kd o, cm [.val d] = some (.val kd, o) ∧ ks[i]? = some kd
  | [], ks, i, d, h, e => by simp at e
  | d0 :: r, ks, i, d, h, e => by
    unfold keysOf at h
    rw [Option.bind_eq_some_iff] at h
    obtain ⟨⟨x, o⟩, h0, h⟩ := h
    split at h
    · rename_i kd hx
      rw [Option.bind_eq_some_iff] at h
      obtain ⟨ks', h1, h2⟩ := h
      cases h2
      cases i with
      | zero =>
        simp only [List.getElem?_cons_zero, Option.some.injEq] at e
        subst e
        have hx : x = .val kd := hx
        subst hx
        exact ⟨kd, o, h0, rfl⟩
      | succ i => simpa using keysOf_at h1 (by simpa using e)
    · cases h
def rSortK (k : Kx) (cm : CM) (g : Addr) : List V → List V → Hp → VK → Prop := fun vs zs H Q => ∃ (l : Addr) (ws : List V) (xs ks : List D) (F : Hp), vs = [.ref l] ∧ zs = [.ref g] ∧ SqL k.K H l ws ∧ Sub F H ∧ RepL k F ws xs ∧ keysOf cm xs = some ks ∧ pSort ks = true ∧
  ∀ (F' H' : Hp) (p : Addr) (us : List V), Tr (fun _ => False) F H F' H' → Sub F' H' → H' p = none → H p = none → RepL k F' us (srtK xs ks) → Q (.ref p) (upd H' p (.lst us))
theorem vals_snoc {vs : List V} {us : List Value} {v : V} {u : Value} (h : Vals vs us) (r : RelV v u) : Vals (vs ++ [v]) (us ++ [u]) := by
  induction h with
  | nil => exact .cons r .nil
  | cons a b ih => exact .cons a ih
theorem each_pair {β : Type} {R : Value → β → Prop} : ∀ {us : List Value} {bs : List β}, us.length = bs.length → (∀ (i : Nat) u b, us[i]? = some u → bs[i]? = some b → R u b) → EachIs R us bs
  | [], [], _, _ => .nil
  | [], _ :: _, h, _ => by simp at h
  | _ :: _, [], h, _ => by simp at h
  | u :: us, b :: bs, h, q => .cons (q 0 u b rfl rfl) (each_pair (by simpa using h) fun i u' b' e1 e2 => q (i + 1) u' b' (by simpa using e1) (by simpa using e2))
theorem vals_at {vs : List V} {us : List Value} (h : Vals vs us) : ∀ {i : Nat} {u : Value}, us[i]? = some u → ∃ v, vs[i]? = some v ∧ RelV v u := by
  induction h with
  | nil => intro i u e; simp at e
  | cons a b ih =>
    intro i u e
    cases i with
    | zero => simp only [List.getElem?_cons_zero, Option.some.injEq] at e; subst e; exact ⟨_, rfl, a⟩
    | succ i => obtain ⟨v, h1, h2⟩ := ih (i := i) (u := u) (by simpa using e); exact ⟨v, by simpa using h1, h2⟩
theorem paired_get {α β : Type} {R : α → β → Prop} : ∀ {as : List α} {bs : List β} {i : Nat} {a : α} {b : β}, Paired R as bs → as[i]? = some a → bs[i]? = some b → R a b
  | _, _, i, _, _, .nil, h, _ => by simp at h
  | _, _, 0, a, b, .cons r t, h1, h2 => by simp at h1 h2; subst h1 h2; exact r
  | _, _, i + 1, a, b, .cons r t, h1, h2 => paired_get (i := i) t (by simpa using h1) (by simpa using h2)
theorem run_un {X : Cx} {pins : List (Addr × Obj)} {σ : L2.St} {H : Hp} {s : Shared} {A : Around} {n : Nat} {g : Addr} {fd : FuncData} {ps : List Str} {sp : Sp} {Q : VK} {us : List Value} {ws : List V} (F : FnOk X.prog X.w X.K X.mg X.base CX0 n g fd ps sp) (hb : Binds X.K fd ps [])
    (hr : Room n A) (e0 : Env0 X.prog X.w X.K X.mg X.base A X.stack s H) (I : L2.Inv X pins σ H s) (r : Vals ws us) (h : sp ws H Q E0) :
    wpAny (model X.prog X.w) A (call (.ref g) us) (fun u s' => EP X pins σ (fun z H' => Un (frs X.stack) [] H H' s.heap s'.heap ∧ Q z H') u s') (fun _ _ => False) s := by
  have hl : us.length = ps.length := by rw [← r.length]; exact F.len _ _ _ _ h
  have bt := hb s us I.kIn (by rw [List.append_nil]; exact hl)
  rw [List.append_nil] at bt
  refine wpAny_call (codeAny_mono (F.run A X.stack s H ⟨us, []⟩ us ws Q E0 hr e0 bt r h) fun res s' hq => ?_)
  match res, hq with
  | .error _, hq => exact (show False from hq).elim
  | .ok (.ret _), hq =>
    obtain ⟨v, H', os, bare, un, hok, rv, q⟩ := (show CE _ _ _ _ _ _ _ _ from hq)
    exact I.after ⟨v, H', os, bare, un, hok, rv, un, q⟩
  | .ok .next, hq => exact hq.elim
  | .ok .brk, hq => exact hq.elim
  | .ok .cont, hq => exact hq.elim
theorem cr_sortK {X : Cx} {CT : CTab} {n : Nat} {g : Addr} {io : Bool} {fd : FuncData} {ps : List Str} {cm : CM} (hr : Room (n + 2) X.A) (FN : FnOk X.prog X.w X.K X.mg X.base CX0 n g fd ps (spF ⟨X.K, CT⟩ io 1 cm)) (hb : Binds X.K fd ps []) :
    CallRK X (.builtin "sorted") [Str.ofString "key"] (rSortK (kx X CT) cm g) := by
  intro pins s σ H vs zs us ws0 Q I rv rz h
  obtain ⟨l, ws, xs, ks, F, rfl, rfl, hq, sF, rl, hks, hp, q⟩ := h
  obtain rfl := Vals.ref1 rv
  obtain rfl := Vals.ref1 rz
  have hu := hr.u
  simp only [pSort, Bool.and_eq_true, decide_eq_true_eq, List.all_eq_true] at hp
  obtain ⟨⟨⟨p1, p2⟩, p3⟩, p4⟩ := hp
  obtain ⟨its, ri, hL, hz⟩ := I.list hq
  have hil : its.length = xs.length := by rw [← ri.length]; exact rl.length
  have hZ : its.length ≤ sizeLine := by rw [← ri.length]; exact hz
  show wpAny (model X.prog X.w) X.A (call (.builtin "sorted") [.ref l] [(Str.ofString "key", .ref g)]) _ _ _
  refine sorted_of_sort hL.isList hZ (ksk_s1 _ _) (fun _ => ksk_l1 _ _) fun E' => ?_
  rw [ksk_t1]
  generalize hA : s.heap.objs.size + 1 = a
  have ho : (copyHeap s.heap its).get? a = some (seqObj "list" its.toArray 0) := by rw [← hA]; exact copyHeap_at s.heap its
  have hlt : (a : Nat) < (copyHeap s.heap its).objs.size := Heap.lt_size ho
  have oldC : ∀ b o, s.heap.get? b = some o → (copyHeap s.heap its).get? b = some o := fun b o e => copyHeap_old e
  have Ha : H a = none := I.hok.fresh (by omega)
  obtain ⟨e1, ho1⟩ : ∃ e1, ((copyHeap s.heap its).update a (Obj.mapSeq fun _ => (#[] : Array Value))).get? a = some (seqObj "list" #[] e1) := ⟨_, get?_update_seq ho fun _ => #[]⟩
  unfold ksk_tree
  refine wpAny_bind (listItems_at ho rfl ?_)
  refine wpAny_bind (listUpdate_at ho rfl ?_ (by rw [List.size_toArray]; exact hZ) (Nat.zero_le _))
  refine wpAny_bind (seqEpoch_at ho1 rfl ?_)
  refine wpAny_bind (wpAny_newTuple ?_ (by show its.length ≤ _; exact hZ))
  refine wpAny_bind (wpAny_newList ?_ (Nat.zero_le _))
  refine wpAny_holding ?_
  generalize hh0 : (((copyHeap s.heap its).update a (Obj.mapSeq fun _ => (#[] : Array Value))).push (seqObj "tuple" its.toArray 0)) = h0
  have hs0 : s.heap.objs.size ≤ h0.objs.size := by
    rw [← hh0, size_push', Heap.size_update]
    omega
  have old0 : ∀ b o, s.heap.get? b = some o → (h0.push (seqObj "list" #[] 0)).get? b = some o := fun b o e => by
    refine Heap.get?_push_of_some _ ?_
    rw [← hh0]
    refine Heap.get?_push_of_some _ ?_
    have hba : b ≠ a := Nat.ne_of_lt (Nat.lt_of_lt_of_le (Heap.lt_size e) (by omega))
    exact ((Heap.SameBut.update (copyHeap s.heap its) a (Obj.mapSeq fun _ => (#[] : Array Value))).2 b hba).trans (oldC b o e)
  have hk0 : (h0.push (seqObj "list" #[] 0)).get? h0.objs.size = some (seqObj "list" #[] 0) := Heap.get?_push_size _ rfl
  have ha0 : (h0.push (seqObj "list" #[] 0)).get? a = some (seqObj "list" #[] e1) := by
    refine Heap.get?_push_of_some _ ?_
    rw [← hh0]
    exact Heap.get?_push_of_some _ ho1
  have hka : h0.objs.size ≠ a := by
    rw [← hh0, size_push', Heap.size_update]
    omega
  generalize hkS : h0.objs.size = kS at hk0 hka hs0
  have HkS : H kS = none := I.hok.fresh hs0
  have fpa : ∀ H', H' a = none → FpOk X pins H' a := fun H' e => I.fpOk (by omega) e
  have fpk : ∀ H', H' kS = none → FpOk X pins H' kS := fun H' e => I.fpOk hs0 e
  have I0 : Inv X pins σ H { s with heap := h0.push (seqObj "list" #[] 0) } := I.kept (t' := s.toks) old0
  show wpAny (model X.prog X.w) X.A.in1.in1 (ksk_rest a (.ref g) false its.toArray e1 (.ref kS)) _ _ { s with heap := h0.push (seqObj "list" #[] 0) }
  unfold ksk_rest
  refine wpAny_bind (wpAny_rule ?_)
  first
    | rw [List.forIn_toArray]
    | (rw [← Array.forIn_toList]; simp only [List.toList_toArray])
  let J : Nat → Shared → Prop := fun i s' => ∃ F' H' kvs kA e, Inv X pins σ H' s' ∧ Un (frs X.stack) [] H H' s.heap s'.heap ∧ Tr (fun _ => False) F H F' H' ∧ Sub F' H' ∧ s'.heap.get? kS = some (seqObj "list" kA e) ∧ s'.heap.get? a = some (seqObj "list" #[] e1) ∧ H' kS = none ∧ H' a = none ∧ Vals kvs kA.toList ∧ RepL (kx X CT) F' kvs (ks.take i)
  refine wpAny_bind (ksk_fold J its 0 _ ⟨F, H, [], #[], 0, I0, Un.kept old0, Tr.refl, sF, hk0, ha0, HkS, Ha, .nil, by rw [List.take_zero]; exact .nil⟩ ?step ?done)
  case step =>
    rintro j x s' hx ⟨F', H', kvs, kA, e, I', un, tr, sb, nk, na, fk, fa, vk, rk⟩
    simp only [Nat.zero_add] at rk ⊢
    obtain ⟨v, hv, rxv⟩ := vals_at ri hx
    obtain ⟨d, hd, rd⟩ := rl.getV hv
    obtain ⟨kd, o, hc, hkd⟩ := keysOf_at hks hd
    have fps : ∀ b ∈ [a, kS], FpOk X pins H' b := fun b hb => by
      simp only [List.mem_cons, List.not_mem_nil, or_false] at hb
      rcases hb with rfl | rfl
      · exact fpa H' fa
      · exact fpk H' fk
    have I1 := I'.pinned (fp := [a, kS]) fps fun b hb => by
      simp only [List.mem_cons, List.not_mem_nil, or_false] at hb
      rcases hb with rfl | rfl
      · exact ⟨_, na, fun v => by simp⟩
      · exact ⟨_, nk, fun v => by simp⟩
    have sp : spF ⟨X.K, CT⟩ io 1 cm [v] H' (fun z H2 => ∃ F2, Sub F2 H2 ∧ Tr (fun _ => False) F H F2 H2 ∧ Sub F' F2 ∧ Rep (kx X CT) F2 z kd) E0 := by
      refine ⟨F', [.val d], sb, .cons (rd.mono tr.sub) .nil (fun _ z => by cases z), rfl, ?_⟩
      rw [hc]
      intro z F2 H2 s2 tr2 rr _
      have tr2' : Tr (fun _ => False) F' H' F2 H2 := tr2.mono fun p ⟨i, ob, e, _⟩ => by
        cases i with
        | zero => simp at e
        | succ i => simp at e
      exact ⟨F2, s2, tr.trans tr2' (fun p z => z.elim), tr2.sub, rr⟩
    refine wpAny_bind (wpAny_attempt (wpAny_mono (run_un (us := [x]) (ws := [v]) FN hb hr.in1.in1 I'.env0.in1.in1 I1 (.cons rxv .nil) sp) (fun u s2 z => ?_) fun e s2 z => ?_))
    · obtain ⟨z, H2, I2, rz, un2, F2, s2', tr2, sb2, rep2⟩ := z
      have pa := I2.pin (a, seqObj "list" #[] e1) (List.mem_append_right _ (List.mem_append_right _ (mem_pinsAt (by simp) na)))
      have pk := I2.pin (kS, seqObj "list" kA e) (List.mem_append_right _ (List.mem_append_right _ (mem_pinsAt (by simp) nk)))
      have I3 := I2.unpinned
      have s1 := Heap.SameBut.update s2.heap kS (Obj.mapSeq (·.push u))
      obtain ⟨c2, hc2⟩ : ∃ c2, (s2.heap.update kS (Obj.mapSeq (·.push u))).get? kS = some (seqObj "list" (kA.push u) c2) := ⟨_, get?_update_seq pk.1 (·.push u)⟩
      have hsz : kA.size ≤ sizeLine := by
        have h1 : kvs.length = kA.size := by rw [← Array.length_toList]; exact vk.length
        have h3 := rk.length
        rw [List.length_take] at h3
        have h2 := keysOf_len hks
        omega
      refine wpAny_bind (listUpdate_at pk.1 rfl ?_ hsz (Nat.le_trans (Nat.le_of_eq (Array.size_push ..)) (Nat.succ_le_succ hsz)))
      obtain ⟨f0, f1, f2, f3, f4, f5⟩ := fpk H2 pk.2.1
      have I4 := I3.turned (t' := s2.toks) (fun b o hb e => (s1.2 b hb).trans e) f0 f1 f3 f4 f5
      have nkS : s.heap.get? kS = none := Heap.get?_none_of_le hs0
      have un3 : Un (frs X.stack) [] H H2 s.heap (s2.heap.update kS (Obj.mapSeq (·.push u))) := by
        have t := un.trans un2
        have ne : ∀ b o, s.heap.get? b = some o → b ≠ kS := fun b o e z => by rw [z, nkS] at e; cases e
        exact ⟨fun b o e n hb hx => (s1.2 b (ne b o e)).trans (t.keep b o e n hb hx), fun b o e n hb hx => let ⟨sl, q⟩ := t.slot b o e n hb hx; ⟨sl, (s1.2 b (ne b o e)).trans q⟩, t.free, fun b o e hx => let ⟨o', q⟩ := t.there b o e hx; ⟨o', (s1.2 b (ne b o e)).trans q⟩, t.tups, t.frzs, t.tbls⟩
      refine wpAny_pure ⟨rfl, F2, H2, kvs ++ [z], kA.push u, c2, I4, un3, tr2, s2', hc2, (s1.2 a hka.symm).trans pa.1, pk.2.1, pa.2.1, ?_, ?_⟩
      · rw [Array.toList_push]; exact vals_snoc vk rz
      · rw [List.take_add_one, hkd]
        exact (rk.mono sb2).append (.cons rep2 .nil)
    · exact z.elim
  case done =>
    rintro s' ⟨F', H', kvs, kA, e, I', un, tr, sb, nk, na, fk, fa, vk, rk⟩
    have hkl := keysOf_len hks
    rw [Nat.zero_add, List.take_of_length_le (by omega)] at rk
    have hsz : kA.size = its.length := by
      have h1 : kvs.length = kA.size := by rw [← Array.length_toList]; exact vk.length
      have h3 := rk.length
      omega
    have dps : DpAll X.K H' kvs ks := dpAllMono sb (rk.dp p1)
    have er : EachIs (fun v (k : D) => ∃ as, Reads s'.heap v k as) kA.toList ks := each_pair (by rw [Array.length_toList]; omega) fun i u b e1 e2 => by
      obtain ⟨v, h1, h2⟩ := vals_at vk e1
      have hdp := paired_get (dpAll_paired dps) h1 e2
      exact Dp.reads I' b v u hdp h2
    have hal : AllAlike ks := fun d hd d' hd' => p2 d hd d' hd'
    refine wpAny_bind (listItems_at nk rfl ?_)
    obtain ⟨G, g1, g2⟩ := restrict s'.heap fun b => decide (b ≠ kS)
    have gs : ∀ b o, G.get? b = some o → s'.heap.get? b = some o := fun b o q => by
      by_cases hb : b = kS
      · rw [hb, g2 kS (decide_eq_false fun z => z rfl)] at q; cases q
      · rw [← g1 b (decide_eq_true hb)]; exact q
    refine keyH_end (κ := dataKind s'.heap ks) (h₁ := G) (fun b o _ e => gs b o e) (g2 kS (decide_eq_false fun z => z rfl)) nk na hka (SortsAt.data er hal (sortable_ok p3) fun d hd => by have := depth_mem hd; show X.A.units + 1 + 1 + d.depth < cLine; omega) hsz hZ fun h3 tk c k3 n3 => ⟨rfl, ?_⟩
    have ko : KeyedOut false (((xs.zip ks)).map fun b => b.2) its (sortVals (dataKind s'.heap ks) false kA.toList its) := by
      have e2 : (xs.zip ks).map (fun b => b.2) = ks := by
        have := List.map_snd_zip (l₁ := xs) (l₂ := ks) (by omega)
        exact this
      rw [e2]
      exact ⟨s'.heap, kA.toList, hal, rfl, er⟩
    have eR : EachIs (fun u (b : D × D) => ∃ v, RelV v u ∧ Rep (kx X CT) F' v b.1) its (xs.zip ks) := each_pair (by rw [List.length_zip]; omega) fun i u b e1 e2 => by
      rw [List.getElem?_zip_eq_some] at e2
      obtain ⟨v, h1, h2⟩ := vals_at ri e1
      obtain ⟨d, h3, h4⟩ := rl.getV h1
      rw [e2.1] at h3; cases h3
      exact ⟨v, h2, h4.mono tr.sub⟩
    have eo := keyedOut_each (fun b : D × D => b.2) ko eR
    have eo2 : EachIs (fun u (d : D) => ∃ v, RelV v u ∧ Rep (kx X CT) F' v d) (sortVals (dataKind s'.heap ks) false kA.toList its) (srtK xs ks) := by
      have m : ∀ {us : List Value} {bs : List (D × D)}, EachIs (fun u (b : D × D) => ∃ v, RelV v u ∧ Rep (kx X CT) F' v b.1) us bs → EachIs (fun u (d : D) => ∃ v, RelV v u ∧ Rep (kx X CT) F' v d) us (bs.map (·.1)) := by
        intro us bs h
        induction h with
        | nil => exact .nil
        | cons a b ih => exact .cons a ih
      exact m eo
    obtain ⟨uz, z1, z2⟩ := each_un eo2
    have hlen : uz.length ≤ sizeLine := by
      rw [z1.length, ko.length (by rw [List.length_map, List.length_zip]; omega)]
      exact hZ
    have keep : ∀ b o, b ∉ [a, kS] → s'.heap.get? b = some o → h3.get? b = some o := fun b o hb e => by
      simp only [List.mem_cons, List.not_mem_nil, or_false, not_or] at hb
      exact k3 b o hb.1 (by rw [g1 b (decide_eq_true hb.2)]; exact e)
    have na0 : s.heap.get? a = none := Heap.get?_none_of_le (by omega)
    have nkS : s.heap.get? kS = none := Heap.get?_none_of_le hs0
    have nin : ∀ b o, s.heap.get? b = some o → b ∉ [a, kS] := fun b o e => by
      simp only [List.mem_cons, List.not_mem_nil, or_false, not_or]
      exact ⟨fun z => (by rw [z, na0] at e; cases e), fun z => (by rw [z, nkS] at e; cases e)⟩
    have tin : ∀ b u, H' b = some u → b ∉ [a, kS] := fun b u e => by
      simp only [List.mem_cons, List.not_mem_nil, or_false, not_or]
      exact ⟨fun z => (by rw [z, fa] at e; cases e), fun z => (by rw [z, fk] at e; cases e)⟩
    have nua : ∀ b u, H' b = some u → upd H' a (.lst uz) b = some u := fun b u e => by rw [upd_ne (ne_of_none e fa)]; exact e
    have un4 : Un (frs X.stack) [] H (upd H' a (.lst uz)) s.heap h3 := by
      refine ⟨fun b o e n hb hx => keep b o (nin b o e) (un.keep b o e n hb hx), fun b o e n hb hx => ?_, fun b o e n hx => ?_, fun b o e hx => ?_, fun b xs e => nua _ _ (un.tups b xs e), fun b o u e => nua _ _ (un.frzs b o u e), fun b ps e => ?_⟩
      · obtain ⟨sl, q⟩ := un.slot b o e n hb hx
        exact ⟨sl, keep b _ (nin b o e) q⟩
      · rw [upd_ne fun z => by rw [z, na0] at e; cases e]
        exact un.free b o e n hx
      · obtain ⟨o', q⟩ := un.there b o e hx
        exact ⟨o', keep b _ (nin b o e) q⟩
      · obtain ⟨more, q⟩ := un.tbls b ps e
        exact ⟨more, nua _ _ q⟩
    have hok : HOk X.prog X.w (upd H' a (.lst uz)) h3 := fun b u e => by
      by_cases hba : b = a
      · subst hba
        rw [upd_same] at e
        cases e
        exact ⟨hlen, _, c, z1, n3⟩
      · rw [upd_ne hba] at e
        refine (I'.hok b u e).stay (fun b' o' hb' e' => keep b' o' ?_ e') (fun b' e' => nua _ _ e') fun b' ys e' => nua _ _ e'
        rcases hb' with rfl | hb'
        · exact tin _ _ e
        · exact tin _ _ hb'
    have os : s'.os = s.os := I'.os.trans I.os.symm
    exact I.after (s' := { s' with heap := h3, toks := tk }) ⟨.ref a, upd H' a (.lst uz), os, I'.bare, un4, hok, rfl, q F' H' a uz tr sb fa Ha (paired_repL z2)⟩
/-! the node -/
theorem gSortK_eq {cm : CM} {ds : List D} {s : SV} (h : gSortK cm ds = some s) : ∃ xs ks, ds = [.list xs] ∧ keysOf cm xs = some ks ∧ pSort ks = true ∧ s = .own (.lst (srtK xs ks)) := by
  unfold gSortK at h
  split at h
  · rename_i xs
    rw [Option.bind_eq_some_iff] at h
    obtain ⟨ks, h1, h2⟩ := h
    split at h2
    · rename_i hp
      cases h2
      exact ⟨xs, ks, rfl, h1, hp, rfl⟩
    · cases h2
  · cases h
theorem simSortK {k : Kx} {cm : CM} {g : Addr} {te : TE} {tk : TA} {me : EM} (he : SimE k te me) (hk : ∀ σ H Q, Q [V.ref g] H → tk σ H Q) : SimE k (tCKw (rSortK k cm g) (tCons te tNil) tk) (evCall (gSortK cm) (evCons me evNil)) := by
  intro F ρ σ H Q f h
  unfold evCall at h
  refine simCons he simNil F ρ σ H _ f ((wpo_bind.mp h).mono fun a _ h => ?_)
  intro vs F1 H1 A1 R1
  refine hk σ H1 _ ?_
  have h := wpo_bind.mp h
  cases e1 : rdAll a.2 a.1 with
  | none => rw [e1] at h; exact h.elim
  | some ds =>
    rw [e1] at h
    have rd := R1.rd A1.fr e1
    have h : wpo ((gSortK cm ds).bind _) _ := h
    have h := wpo_bind.mp h
    cases e3 : gSortK cm ds with
    | none => rw [e3] at h; exact h.elim
    | some sv =>
      rw [e3] at h
      obtain ⟨xs, ks, rfl, e2, hp, rfl⟩ := gSortK_eq e3
      obtain ⟨v, rfl, r⟩ := rd.one
      obtain ⟨l, ws, rfl, hl, rl⟩ := r.lst A1.fr.sub
      refine ⟨l, ws, xs, ks, F1, rfl, rfl, .inl (.inl hl), A1.fr.sub, rl, e2, hp, fun F' H' p us tr sb n' n ru => ?_⟩
      have A2 := A1.call0 sb tr (fun p z => z)
      exact h _ F' _ (A2.trans (Aft.newO A2.fr n')) ⟨p, _, rfl, A1.none_of n, upd_same, sb.none_of n', us, rfl, ru⟩
theorem nSortK {X : Cx} {CT : CTab} {e : Expr} {me : EM} {n : Nat} {g : Addr} {io : Bool} {cm : CM} {f : Str} {p pos kp fp : Pos} (hc : Fun X CT n g io 1 cm) (hr : Room (n + 2) X.A) (hm : X.mg "sorted" = none) (hf : X.mg f = some (.ref g)) (hkp : keepIn X.K (.ref g) = true) (he : NE X CT e me)
    (hg : Gl X "sorted" := by rfl) (hgf : Gl X f := by rfl) (hd : (f == ("__debug__" : Str)) = false := by decide) (hs : starEach [e] X.env = (false, eval e X.env) :: starEach [] X.env := by rfl)
    (he1 : backTo pos (starEach [e] X.env) = (false, eval e X.env) :: backTo pos (starEach [] X.env) := by rfl) (hpl : (backTo pos (starEach [e] X.env)).any (·.1) = false := by rfl)
    (hall : (backToKw pos (keywordEach [⟨some "key", .Name f fp, kp⟩] X.env)).all (·.1.isSome) = true := by rfl) (hnone : (backToKw pos (keywordEach [⟨some "key", .Name f fp, kp⟩] X.env)).any (·.1.isNone) = false := by rfl) (hks : (backToKw pos (keywordEach [⟨some "key", .Name f fp, kp⟩] X.env)).filterMap (·.1) = [Str.ofString "key"] := by rfl) :
    NE X CT (.Call (.Name "sorted" p) [e] [⟨some "key", .Name f fp, kp⟩] pos) (evCall (gSortK cm) (evCons me evNil)) := by
  obtain ⟨_, pa, sa⟩ := he
  obtain ⟨fd, ps, F, hb⟩ := hc
  have pk : PE X (.Name f fp) (tC (.ref g)) := pe_glob (v := .ref g) hgf hf rfl hd
  exact ⟨_, pe_callBK (cr_sortK (CT := CT) hr F hb) hg hm boot_sorted (pa_cons pa pa_nil hs) (pk_cons pk pk_nil) (by decide) (by decide) he1 hpl hall hnone hks, simSortK (k := kx X CT) sa fun σ H Q q => q⟩
end Pv

/-! Pvw: set(tuple of ints). -/
namespace Pv
open PySem PySem.Spec PySem.SeqAt L2
open PyProof.Rows (IntsAre)
section
variable {P : Program} {w : World} {A : Around} {E : Value → Shared → Prop} {s : Shared}
set_option maxHeartbeats 6400000 in
theorem set_of_intsT {l : Addr} {its : Array Value} {Q : Value → Shared → Prop} (ns : List Int) (calm : A.handled = none) (il : s.heap.IsTuple l its) (ii : IntsAre its.toList ns) (few : ns.length + 1 < scanBound)
    (q : ∀ s₂, SetGot w s ns s₂ → Q (.ref s.heap.objs.size) s₂) : wpAny (model P w) A (call (.type "set") [.ref l]) Q E s := by
  have len : its.size = ns.length := by have z := IntsAre.length ii; rwa [Array.length_toList] at z
  obtain ⟨_, _, mro⟩ := F.called_set.mro
  have made := F.called_set.made
  have subs := F.called_set.sub
  refine wpAny_call (codeAny_of_tree (show wpAny _ _ (callAny (.type "set") _) _ _ _ from wpAny_pure ⟨Code.quiet_builtin _ (by decide +kernel), codeAny_builtin F.entry_type_call ?_⟩))
  rw [Around.under_plain (weight_type_call_type "set" [.ref l] []) rfl]
  have noType := F.called_set.notType
  have creates := F.called_set.canCreate
  have one := F.typeCall_set_1 (.ref l)
  repeat (any_goals (first | assumption | wp_step))
  let s1 : Shared := { s with heap := s.heap.push (set0 w) }
  refine codeAny_mono (code_set_led1 (.ref l) (E := E) (Q₁ := fun obj sx => obj = .ref s.heap.objs.size ∧ sx = s1) ⟨rfl, rfl⟩) fun res sx hres => ?_
  match res, hres with
  | .error _, hres => exact hres
  | .ok .next, hres => exact hres.elim
  | .ok .brk, hres => exact hres.elim
  | .ok .cont, hres => exact hres.elim
  | .ok (.ret _), ⟨e1, e2⟩ =>
    subst e1 e2
    have at0 : s1.heap.get? s.heap.objs.size = some (set0 w) := Heap.get?_push_size _ rfl
    have ty : Shared.TypeIs s1 (.ref s.heap.objs.size) "set" := ⟨_, at0, rfl⟩
    have li := F.called_set.init.lookup
    have bi := F.called_set.init.bind (.ref s.heap.objs.size)
    repeat (any_goals (first | assumption | wp_step))
    have body : codeAny (model P w) A.in1 (.call (.builtin "set.__init__") ⟨[.ref s.heap.objs.size, .ref l], []⟩) (wants (fun r s₂ => r = .none ∧ SetGot w s ns s₂) E) s1 := by
      refine codeAny_call_builtin F.called_set.init.plain F.entry_set_init (check_set_init_1 ty ?_)
      obtain ⟨ol, h1, h2, nl, h4⟩ := il
      obtain ⟨c1, c2, c3, c4⟩ := ol
      dsimp only at h2 h4
      subst h2 h4
      have atl : s1.heap.get? l = some { cls := .type "tuple", dict := c2, data := .seq its nl, slots := c4 } := Heap.get?_push_of_some _ h1
      have ns1 := F.sub_tuple_set
      have ns2 := F.sub_tuple_frozenset
      have ns3 : (Value.type "tuple" == Value.type "dict") = false := by decide
      have il1 : s1.heap.IsTuple l its := ⟨_, atl, rfl, nl, rfl⟩
      unfold Builtin.«set.__init__» noKeywords Builtin.Frozenset.updateFrom
      generalize hPI : pyIter = PI
      wp_walk
      subst hPI
      refine wpAny_pyIter_tuple il1 (wpAny_bind (wpAny_runValue ?_))
      have lt : l < s.heap.objs.size := Heap.lt_size h1
      have calm3 : A.in1.in1.in1.handled = none := by simp [calm]
      have sz1 : s1.heap.objs.size = s.heap.objs.size + 1 := Heap.size_push ..
      have nl1 : l ≠ s1.heap.objs.size := by rw [sz1]; exact neA (Nat.lt_succ_of_lt lt)
      have ns0 : s.heap.objs.size ∉ [s1.heap.objs.size, l] := by
        rw [sz1]
        intro z
        rcases List.mem_cons.mp z with z | z
        · exact neA (Nat.lt_succ_self _) z
        · exact neA lt (List.mem_singleton.mp z).symm
      have vals : ∀ (i : Nat) (v : Value), its[i]? = some v → ∃ k t, ns[i]? = some k ∧ v = .int k t := fun i v hv => by
        obtain ⟨lt1, _⟩ := Array.getElem?_eq_some_iff.mp hv
        have lt2 : i < ns.length := by omega
        obtain ⟨t, e⟩ := IntsAre.int_at ii i v (by rw [Array.getElem?_toList, hv])
        exact ⟨ns[i], t, by simp [lt2], by rw [e]; simp [List.getD, lt2]⟩
      refine set_update_ints ((Walks.tuple calm3 _ l nl1 its).toS) s.heap.objs.size ns0 ns len few vals (its.size - 0) 0 _ (by omega) (Nat.zero_le _) ⟨⟨_, Heap.get?_push_size _ rfl, rfl, rfl⟩, il1.push _⟩ ?start ?fin
      case start => exact ⟨0, Nat.le_refl 0, setR_new_at (Heap.get?_push_of_some _ at0)⟩
      case fin =>
        intro s' c' mv hc' hS'
        obtain ⟨h', g2, d', tk', os'⟩ := s'
        cases (show g2 = s.gens from mv.gens)
        cases (show d' = s.drawn from mv.drawn)
        cases (show os' = s.os from mv.os)
        show wpAny _ _ _ _ _ _
        refine wpAny_pure (show wpAny _ _ (ret Value.none) _ _ _ from wpAny_pure ⟨rfl, h', tk', c', rfl, hS', by omega, fun b o e => ?_⟩)
        have lb : b < s.heap.objs.size := Heap.lt_size e
        refine mv.heap b o (fun z => ?_) (Heap.get?_push_of_some _ (Heap.get?_push_of_some _ e))
        rcases List.mem_cons.mp z with z | z
        · exact neA lb z
        · exact neA (Nat.lt_succ_of_lt lb) ((List.mem_singleton.mp z).trans sz1)
    refine codeAny_mono body fun r₂ s₂ hr₂ => ?_
    match r₂, hr₂ with
    | .error _, z => exact z
    | .ok .next, z => exact z.elim
    | .ok .brk, z => exact z.elim
    | .ok .cont, z => exact z.elim
    | .ok (.ret _), ⟨e3, got⟩ =>
      subst e3
      repeat (any_goals (first | assumption | wp_step))
      exact q _ got
end
section
variable {X : Cx} {CT : CTab} {pos p : Pos} {e : Expr} {mr : AM}
end
end Pv

/-! Pvx: things repeated. -/
namespace Pv
open PySem PySem.Spec PySem.SeqAt L2
def repOk (xs : List D) (k : Int) : Bool := decide (xs ≠ []) && Nat.ble 2 k.toNat && Nat.ble k.toNat 1000 && Nat.ble xs.length 1000
def repOkL (xs : List D) (k : Int) : Bool := decide (0 ≤ k) && Nat.ble k.toNat 1000 && Nat.ble xs.length 1000
def gMulA : D → D → Option SV
  | .tuple xs, .int k => if repOk xs k = true then some (.val (.tuple (List.replicate k.toNat xs).flatten)) else none
  | .list xs, .int k => if repOkL xs k = true then some (.own (.lst (List.replicate k.toNat xs).flatten)) else none
  | x, y => gMulI x y
theorem gMulA_int (i j : Int) : gMulA (.int i) (.int j) = gMulI (.int i) (.int j) := rfl
theorem repOk_ok {xs : List D} {k : Int} (h : repOk xs k = true) : xs ≠ [] ∧ 2 ≤ k ∧ k ≤ 1000 ∧ xs.length ≤ 1000 := by
  simp only [repOk, Bool.and_eq_true, decide_eq_true_eq, Nat.ble_eq] at h
  obtain ⟨⟨⟨h1, h2⟩, h3⟩, h4⟩ := h
  exact ⟨h1, by omega, by omega, h4⟩
theorem repOkL_ok {xs : List D} {k : Int} (h : repOkL xs k = true) : 0 ≤ k ∧ k ≤ 1000 ∧ xs.length ≤ 1000 := by
  simp only [repOkL, Bool.and_eq_true, decide_eq_true_eq, Nat.ble_eq] at h
  obtain ⟨⟨h2, h3⟩, h4⟩ := h
  exact ⟨h2, by omega, h4⟩
def rMulA (K : PySem.W.Frag) : R2 := fun x y H Q => (rI CMul (fun i j => .int (i * j)) x y H Q ∨ rRepT K x y H Q) ∨ rRep x y H Q
theorem op_mulA {X : Cx} : OpR X (binaryOp .Mult) (rMulA X.K) := (op_mul.or op_repT).or op_rep
theorem RepL.rep {k : Kx} {F : Hp} {vs : List V} {ds : List D} (h : RepL k F vs ds) : ∀ n, RepL k F (List.replicate n vs).flatten (List.replicate n ds).flatten
  | 0 => .nil
  | n + 1 => by
    rw [List.replicate_succ, List.replicate_succ, List.flatten_cons, List.flatten_cons]
    exact h.append (RepL.rep h n)
theorem simMulA {k : Kx} : OpSim k (rMulA k.K) gMulA := by
  intro F ρ σ H x y dx dy Q f rx ry h
  unfold gMulA at h
  split at h
  · rename_i xs i
    split at h
    · rename_i hz
      obtain ⟨z1, z2, z3, z4⟩ := repOk_ok hz
      obtain ⟨a, vs, rfl, ha', ha, ra⟩ := rx.tup f.sub
      refine .inl (.inr ⟨a, _, vs, rfl, ry.int, ha, fun e => ?_, z2, z3, by rw [ra.length]; exact z4, fun p hp => ?_⟩)
      · subst e; cases ra; exact z1 rfl
      · exact h _ _ _ (Aft.newF f hp) (Rep.tup upd_same ((ra.rep _).mono (Sub.upd (f.sub.none_of hp))))
    · exact h.elim
  · rename_i xs i
    split at h
    · rename_i hz
      obtain ⟨z2, z3, z4⟩ := repOkL_ok hz
      obtain ⟨a, vs, rfl, ha, ra⟩ := rx.lst f.sub
      refine .inr ⟨a, _, vs, rfl, ry.int, ha, by omega, by omega, ?_, fun p hp => ?_⟩
      · rw [ra.length]
        have := Nat.mul_le_mul z4 (show i.toNat ≤ 1000 by omega)
        exact Nat.le_trans this (by decide)
      · exact h _ F _ (Aft.newO f hp) ⟨p, _, rfl, hp, upd_same, f.sub.none_of hp, _, rfl, ra.rep _⟩
    · exact h.elim
  · exact .inl (.inl (simMulI F ρ σ H x y _ _ Q f rx ry h))
section
variable {X : Cx} {CT : CTab} {a b : Expr} {ma mb : EM}
theorem nMulA {pos} : NE X CT a ma → NE X CT b mb → NE X CT (.BinOp a .Mult b pos) (evBin gMulA ma mb) := fun ⟨_, pa, sa⟩ ⟨_, pb, sb⟩ => ⟨_, pe_op op_mulA pa pb, simBin (k := kx X CT) simMulA sa sb⟩
end
end Pv

/-! Pw1: zip of two lists or of two tuples. -/
namespace Pv
open PySem PySem.Spec PySem.SeqAt L2 RZ
section
variable {X : Cx} {CT : CTab} {pos p : Pos} {a b : Expr} {mr : AM}
end
end Pv

/-! Pw2: a list goes from one name to another. -/
namespace Pv
open PySem PySem.Spec PySem.SeqAt L2
section
variable {X : Cx} {CT : CTab} {P : List Nat} {Wx : Option WX} {e : Expr} {pos : Pos}
end
end Pv

/-! Pw3: tuples taken once, or not at all. -/
namespace Pv
open PySem PySem.Spec PySem.SeqAt L2 PyProof.Rows
theorem tup_mul1W (l : Addr) (items : Array Value) (n : Nat) (dd : Option Addr) (sl : Array (Option Value)) (u : Tok) :
    Meets (Builtin.«tuple.__mul__» ⟨[.ref l, .int 1 u], []⟩) (fun _ R s => s.heap.get? l = some { cls := .type "tuple", dict := dd, data := .seq items n, slots := sl } ∧
      R (.ok (.ret (Value.ref l))) s) :=
  .of_wp fun prog w A R s h => by
    obtain ⟨hp, g, d, tk, os⟩ := s
    obtain ⟨hl, h⟩ := h
    have f1 := AutoSeq1.idx_int
    have c1 : (items.isEmpty || (1 : Int) == 1) = true := by simp
    wp_walk using wpAny_loadPart' hl
    repeat (first
      | (refine wpAny_ite_false (decide_eq_false (by decide)) ?_; wp_walk using wpAny_loadPart' hl)
      | (refine wpAny_ite_true (decide_eq_true c1) ?_; wp_walk using wpAny_loadPart' hl))
    exact ⟨_, rfl, h⟩
end Pv
namespace Pv
open PySem PySem.Spec PySem.SeqAt L2 PyProof.Rows
theorem tup_mul0W (l : Addr) (items : Array Value) (n : Nat) (dd : Option Addr) (sl : Array (Option Value)) (u : Tok) (hi : items.isEmpty = false) :
    Meets (Builtin.«tuple.__mul__» ⟨[.ref l, .int 0 u], []⟩) (fun _ R s => s.heap.get? l = some { cls := .type "tuple", dict := dd, data := .seq items n, slots := sl } ∧
      R (.ok (.ret (Value.ref s.heap.objs.size))) { s with heap := s.heap.push { cls := Value.type "tuple", data := Data.seq #[] }, toks := s.toks }) :=
  .of_wp fun prog w A R s h => by
    obtain ⟨hp, g, d, tk, os⟩ := s
    obtain ⟨hl, h⟩ := h
    have f1 := AutoSeq1.idx_int
    have c1 : (items.isEmpty || (0 : Int) == 1) = false := by rw [hi]; rfl
    have c2 : (decide ((0 : Int) ≤ 0) || items.isEmpty) = true := by rw [hi]; rfl
    wp_walk using wpAny_loadPart' hl
    repeat (first
      | (refine wpAny_ite_false (decide_eq_false (by decide)) ?_; wp_walk using wpAny_loadPart' hl)
      | (refine wpAny_ite_false (decide_eq_false (by rw [c1]; exact Bool.false_ne_true)) ?_; wp_walk using wpAny_loadPart' hl)
      | (refine wpAny_ite_true (decide_eq_true c2) ?_; wp_walk using wpAny_loadPart' hl))
    exact ⟨_, rfl, h⟩
def rRepT1 (K : PySem.W.Frag) : R2 := fun x y H Q => ∃ l xs, x = .ref l ∧ y = .int 1 ∧ SqT K H l xs ∧ Q (.ref l) H
def rRepT0 (K : PySem.W.Frag) : R2 := fun x y H Q => ∃ l xs, x = .ref l ∧ y = .int 0 ∧ SqT K H l xs ∧ xs ≠ [] ∧ ∀ p, H p = none → Q (.ref p) (upd H p (.tup []))
section
variable {X : Cx}
theorem op_repT1 : OpR X (binaryOp .Mult) (rRepT1 X.K) := by
  intro pins s σ H x y v u Q I rx ry h
  obtain ⟨l, xs, rfl, rfl, hT, q⟩ := h
  cases rx
  obtain ⟨t, rfl⟩ := ry
  obtain ⟨its, r, ⟨⟨cls, dd, data, sl⟩, ho, hc, n, hd⟩, hs⟩ := I.tuple hT
  simp only at hc hd
  subst hc hd
  refine wpAny_binaryOp_repeat_ref (T := "tuple") (U := "int") (by decide) ⟨_, ho, rfl⟩ (fun s' => typeIs_int s' 1 t) noFill_tuple_mul F.fills_int_mul F.slot_int_rmul repeat_tuple F.slot_int_index.lookup
    (call_meets F.slot_int_rmul (typeIs_int s 1 t) F.entry_int_rmul (F.args_int_rmul_2 _ _) (int_rmul_tuple 1 t l its.toArray n dd sl)
      ⟨ho, rfl, ⟨_, ho, rfl⟩, call_meets F.slot_tuple_mul ⟨_, ho, rfl⟩ F.entry_tuple_mul (F.args_tuple_mul_2 _ _) (tup_mul1W l its.toArray n dd sl t) ⟨ho, ?_⟩⟩)
  exact ⟨.ref l, _, I, rfl, q⟩
theorem op_repT0 : OpR X (binaryOp .Mult) (rRepT0 X.K) := by
  intro pins s σ H x y v u Q I rx ry h
  obtain ⟨l, xs, rfl, rfl, hT, hne, q⟩ := h
  cases rx
  obtain ⟨t, rfl⟩ := ry
  obtain ⟨its, r, ⟨⟨cls, dd, data, sl⟩, ho, hc, n, hd⟩, hs⟩ := I.tuple hT
  simp only at hc hd
  subst hc hd
  have hle : its.length = xs.length := r.length.symm
  have hn : its ≠ [] := fun e => hne (by
    rw [e] at hle
    exact List.eq_nil_of_length_eq_zero hle.symm)
  have hi : its.toArray.isEmpty = false := by
    cases its with
    | nil => exact absurd rfl hn
    | cons a b => rfl
  refine wpAny_binaryOp_repeat_ref (T := "tuple") (U := "int") (by decide) ⟨_, ho, rfl⟩ (fun s' => typeIs_int s' 0 t) noFill_tuple_mul F.fills_int_mul F.slot_int_rmul repeat_tuple F.slot_int_index.lookup
    (call_meets F.slot_int_rmul (typeIs_int s 0 t) F.entry_int_rmul (F.args_int_rmul_2 _ _) (int_rmul_tuple 0 t l its.toArray n dd sl)
      ⟨ho, rfl, ⟨_, ho, rfl⟩, call_meets F.slot_tuple_mul ⟨_, ho, rfl⟩ F.entry_tuple_mul (F.args_tuple_mul_2 _ _) (tup_mul0W l its.toArray n dd sl t hi) ⟨ho, ?_⟩⟩)
  refine ⟨.ref s.heap.objs.size, _, I.laid (t' := s.toks) (o := .tup []) (fun b ob q => Heap.get?_push_of_some _ q) (Nat.le_refl _) ?_, rfl, q _ (I.hok.fresh (Nat.le_refl _))⟩
  exact ⟨by simp, [], r.rep 0, IsTup.new _ _⟩
end
def gMulB : D → D → Option SV
  | .tuple xs, .int k => if k = 1 then some (.val (.tuple xs)) else if k = 0 ∧ xs ≠ [] then some (.val (.tuple [])) else gMulA (.tuple xs) (.int k)
  | x, y => gMulA x y
def rMulB (K : PySem.W.Frag) : R2 := fun x y H Q => (rMulA K x y H Q ∨ rRepT1 K x y H Q) ∨ rRepT0 K x y H Q
theorem op_mulB {X : Cx} : OpR X (binaryOp .Mult) (rMulB X.K) := (op_mulA.or op_repT1).or op_repT0
theorem simMulB {k : Kx} : OpSim k (rMulB k.K) gMulB := by
  intro F ρ σ H x y dx dy Q f rx ry h
  unfold gMulB at h
  split at h
  · rename_i xs i
    split at h
    · rename_i hk
      subst hk
      obtain ⟨a, vs, rfl, ha', ha, ra⟩ := rx.tup f.sub
      exact .inl (.inr ⟨a, vs, rfl, ry.int, ha, h _ F H (Aft.refl f) (Rep.tup ha' ra)⟩)
    · split at h
      · rename_i hk
        obtain ⟨rfl, hne⟩ := hk
        obtain ⟨a, vs, rfl, ha', ha, ra⟩ := rx.tup f.sub
        refine .inr ⟨a, vs, rfl, ry.int, ha, fun e => ?_, fun p hp => ?_⟩
        · subst e; cases ra; exact hne rfl
        · exact h _ _ _ (Aft.newF f hp) (Rep.tup upd_same .nil)
      · exact .inl (.inl (simMulA F ρ σ H x y _ _ Q f rx ry h))
  · exact .inl (.inl (simMulA F ρ σ H x y _ _ Q f rx ry h))
section
variable {X : Cx} {CT : CTab} {a b : Expr} {ma mb : EM}
theorem nMulB {pos} : NE X CT a ma → NE X CT b mb → NE X CT (.BinOp a .Mult b pos) (evBin gMulB ma mb) := fun ⟨_, pa, sa⟩ ⟨_, pb, sb⟩ => ⟨_, pe_op op_mulB pa pb, simBin (k := kx X CT) simMulB sa sb⟩
end
end Pv

/-! Pw4: properties that tell a field. -/
namespace Pv
open PySem PySem.Spec PySem.SeqAt L2
def propD (fn : FNs) (c : Int) (f : Str) : D → Option SV
  | .dict [(.none, .int c'), (.none, .tuple fs)] => if c' = c then (((fn c').zip fs).lookup f).map SV.val else none
  | _ => none
theorem simProp {k : Kx} {fn : FNs} (ok : FldOk k fn) {c : Int} {C : Addr} {ns : List Str} (hC : k.CT c = some (C, ns)) {f : Str} {E : XK} {te : TE} {me : EM} (he : SimE k te me) : SimE k (tProp C (getSp C f) [] E te) (evUn (propD fn c f) me) := by
  have one : UnSim k (fun x H Q => ∃ a dx fs, x = .ref a ∧ H a = some (.ins C dx fs) ∧ getSp C f [.ref a] H Q E) (propD fn c f) := by
    intro F ρ σ H x d Q fr r h
    unfold propD at h
    split at h
    · rename_i c' fs
      split at h
      · rename_i ec
        subst ec
        obtain ⟨a, dx, C', ns', vs, rfl, q1, q2, q3, q4⟩ := r.obj fr.sub
        have q1' := q1
        rw [hC] at q1'
        cases q1'
        have en := ok.ns c' C ns q1
        subst en
        cases e : ((fn c').zip fs).lookup f with
        | none => rw [e] at h; exact h.elim
        | some d =>
          rw [e] at h
          obtain ⟨h1, v, h2, h3⟩ := lookup_zip q3 e
          exact ⟨a, dx, _, rfl, q2, a, dx, _, v, rfl, q2, h2, h v F H (Aft.refl fr) h3⟩
      · exact h.elim
    · exact h.elim
  intro F ρ σ H Q fr h
  exact simUn one he F ρ σ H Q fr h
section
variable {X : Cx} {a : Expr} {ma : EM} {pos : Pos}
end
end Pv

/-! Pw5: a value is frozen where it is made. -/
namespace Pv
open PySem PySem.Spec PySem.SeqAt L2
def evFz (me : EM) : EM := fun ρ => (me ρ).bind fun a => (frz1 a.2 a.1).bind fun b => some (.sv (.val b.1), b.2)
theorem simFz {k : Kx} {te : TE} {me : EM} (he : SimE k te me) : SimE k te (evFz me) := by
  intro F ρ σ H Q f h
  unfold evFz at h
  refine he F ρ σ H _ f ((wpo_bind.mp h).mono fun a _ h => ?_)
  intro v F1 H1 A1 R1
  have h := wpo_bind.mp h
  cases e1 : frz1 a.2 a.1 with
  | none => rw [e1] at h; exact h.elim
  | some b =>
    rw [e1] at h
    obtain ⟨F2, A2, _, r, _⟩ := frz1_ok f A1 R1 e1
    exact h v F2 H1 A2 r
theorem nFz {X : Cx} {CT : CTab} {e : Expr} {me : EM} : NE X CT e me → NE X CT e (evFz me) := fun ⟨_, p, s⟩ => ⟨_, p, simFz s⟩
end Pv

/-! Pw6: list(range(a, b)). -/
namespace Pv
open PySem PySem.Spec PySem.SeqAt L2
section
variable {X : Cx} {CT : CTab} {a b : Expr} {ma mb : EM} {p pos : Pos}
end
end Pv

/-! Pw7: l.index(n), of ints. -/
namespace Pv
open PySem PySem.Spec PySem.SeqAt L2
section
variable {X : Cx} {CT : CTab} {e : Expr} {mr : AM} {p pos : Pos}
end
end Pv

/-! Pw8: the truth of a list or a tuple. -/
namespace Pv
open PySem PySem.Spec PySem.SeqAt L2
section
variable {X : Cx} {CT : CTab} {a : Expr} {ma : EM}
end
end Pv

/-! Pw9: l.insert(i, x). -/
namespace Pv
open PySem PySem.Spec PySem.SeqAt L2
section
variable {X : Cx} {CT : CTab} {e f : Expr} {mr : AM} {p pos : Pos}
end
end Pv

/-! PwA: dicts whose keys are tuples of ints, or ints. -/
namespace Pv
open PySem PySem.Spec PySem.SeqAt L2
def intsOf : List D → Option (List Int)
  | [] => some []
  | .int i :: r => (intsOf r).map (i :: ·)
  | _ => none
def keyOf (t : Bool) (d : D) : Option (List Int) := match t, d with
  | true, .tuple xs => intsOf xs
  | false, .int i => some [i]
  | _, _ => none
theorem RdR.dct {k : Kx} {F H : Hp} {v : V} {t : Bool} {kd ds : List D} (s : Sub F H) (h : RdR k F H v (.dict [(.bool false, .tuple [.bool t, .list kd, .list ds])])) : ∃ a ks vs, v = .ref a ∧ kd = ks.map (fun k => (PyData.tuple (k.map .int) : D)) ∧ Rd H a (hoD t ks vs) ∧ ks.length = vs.length ∧ RepL k F vs ds := by
  rcases h with h | ⟨q, o, ho, rfl, h1, h2, e⟩
  · cases h with
    | dct h hl r => exact ⟨_, _, _, rfl, rfl, s.rd h rdK_hoD, hl, r⟩
  · cases o with
    | lst ys => cases e
    | ins c fs => cases e
    | dct t' ks ds' =>
      cases e
      obtain ⟨vs, rfl, hl, r⟩ := h2
      exact ⟨q, ks, vs, rfl, rfl, .inl h1, hl, r⟩
    | dcn ks ds => cases e
section
variable {X : Cx} {CT : CTab} {a b : Expr} {ma mb : EM} {pos : Pos}
end
/-! d[y] = v -/
section
variable {X : Cx} {CT : CTab} {P : List Nat} {Wx : Option WX} {o i value : Expr} {mk mv : EM} {pos pos' : Pos}
end
end Pv

/-! PwB: dicts in tests, y not in d. -/
namespace Pv
open PySem PySem.Spec PySem.SeqAt L2
theorem _root_.L2.Room.u1 {n : Nat} {A : Around} (r : Room n A) : A.units + 1 < cLine := by have := r.u; omega
section
variable {X : Cx} {CT : CTab} {a b : Expr} {ma mb : EM} {pos : Pos}
end
end Pv

/-! PwC: walks of dicts, locked meanwhile. -/
namespace Pv
open PySem PySem.Spec PySem.SeqAt L2
section
variable {k : Kx} {F H F' H' : Hp} {ρ ρ' : Rho} {σ σ' : L2.St} {a : Addr} {u : HO} {od : Obj}
end
structure Lkd (k : Kx) (j : Nat) (t : Bool) (ks : List (List Int)) (vs : List V) (ds : List D) (F : Hp) (σ : L2.St) (H : Hp) (a : Addr) (od : Obj) : Prop where
  s : σ[j]? = some (some (.ref a))
  h : H a = some (.frz od (hoD t ks vs))
  f : F a ≠ none
  l : ks.length = vs.length
  r : RepL k F vs ds
/-! a statement that walks the dict of slot j -/
/-! expressions -/
/-! ### the keys -/
section
variable {X : Cx} {CT : CTab} {P ts : List Nat} {tg : Expr} {body : List Stmt} {mg : GM} {mb : SM} {mt : TM} {me : EM} {pos p : Pos} {x : Str} {e : Expr}
end
end Pv

/-! PwD: more of dicts: get, list, len, displays of one pair. -/
namespace Pv
open PySem PySem.Spec PySem.SeqAt PyProof.Rows L2
/-! list(d), len(d), truth -/
section
variable {X : Cx} {CT : CTab} {o e g : Expr} {ma mk mx : EM} {apos cpos : Pos}
end
/-! {y: z} -/
theorem Aft.temp {k : Kx} {ρ ρ' : Rho} {σ : L2.St} {F H F' H' : Hp} {p : Addr} {o o' : HO} (f : FR k F ρ σ H) (hp : H p = none) (m : NoT o) (A : Aft k ρ σ F (upd H p o) ρ' F' H') : H' p = some o ∧ F' p = none ∧ Aft k ρ σ F H ρ' F' (upd H' p o') := by
  have nO : ¬ Own ρ σ p := fun z => by obtain ⟨u, hu⟩ := f.own_some z; rw [hp] at hu; cases hu
  have e1 := A.tr.keep p o upd_same nO
  have e2 := A.tr.new p o upd_same m (f.sub.none_of hp) nO
  refine ⟨e1, e2, ⟨⟨fun a u q => ?_, A.fr.len, A.fr.vals, fun i ob q => ?_, A.fr.dist⟩, ⟨A.tr.sub, fun a u q n => ?_, fun a u q mm z n => ?_, fun a u q => ?_⟩, A.ow, A.sl⟩⟩
  · have ne : a ≠ p := fun w => by rw [w, e2] at q; cases q
    rw [upd_ne ne]; exact A.fr.sub a u q
  · obtain ⟨b, ho, s, hb, n, r⟩ := A.fr.owns i ob q
    have ne : b ≠ p := fun w => nO (A.ow p ⟨i, ob, q, w ▸ s⟩)
    exact ⟨b, ho, s, by rw [upd_ne ne]; exact hb, n, r⟩
  · have ne := ne_of_none q hp
    rw [upd_ne ne]; exact A.tr.keep a u (by rw [upd_ne ne]; exact q) n
  · exact A.tr.new a u (by rw [upd_ne (ne_of_none q hp)]; exact q) mm z n
  · have ne := ne_of_none q hp
    obtain ⟨u', q'⟩ := A.tr.there a u (by rw [upd_ne ne]; exact q)
    exact ⟨u', by rw [upd_ne ne]; exact q'⟩
section
variable {X : Cx} {CT : CTab} {a b : Expr} {mk mv : EM} {pos : Pos}
end
end Pv

/-! PwE: a comprehension that walks a list which stays its owner's. -/
namespace Pv
open PySem PySem.Spec PySem.SeqAt L2
structure WalkI (k : Kx) (J : It) (I : Addr → Prop) (F H : Hp) (ds : List D) : Prop where
  w : ∃ G Y, Walk J ds.length G Y ∧ (∀ F' H', Sub F F' → Sub F' H' → (∀ p o, H p = some o → ¬ I p → H' p = some o) → G H') ∧
    ∀ (i : Nat) (d : D) (F' H' : Hp) (x : V) (H'' : Hp), ds[i]? = some d → Sub F F' → Sub F' H' → (∀ p o, H p = some o → ¬ I p → H' p = some o) → Y i H' x H'' → YOk k F' H' x H'' d
section
variable {X : Cx} {CT : CTab} {ts : List Nat} {tg : Expr} {mg : GM} {mt : TM} {me : EM} {pos p : Pos} {x : Str} {e : Expr}
end
end Pv

/-! PwF: a list told from its end. -/
namespace Pv
open PySem PySem.Spec PySem.SeqAt L2
section
variable {X : Cx} {CT : CTab} {a : Expr} {ma : EM}
end
end Pv

/-! PwG: xs[i] += e on a list of ints. -/
namespace Pv
open PySem PySem.Spec PySem.SeqAt L2
section
variable {X : Cx} {CT : CTab} {P : List Nat} {Wx : Option WX} {a e : Expr} {ma me : EM} {p tpos pos : Pos}
end
end Pv

/-! PwH: l.index(x), items of any depth. -/
namespace Pv
open PySem PySem.Spec PySem.SeqAt L2
section
variable {X : Cx} {CT : CTab} {e : Expr} {mr : AM} {p pos : Pos}
end
end Pv

/-! PwI: l.index(x) of a frozen list. -/
namespace Pv
open PySem PySem.Spec PySem.SeqAt L2
section
variable {X : Cx} {CT : CTab} {e : Expr} {mr : AM} {p pos : Pos}
end
end Pv

/-! PwJ: exceptions: raise, calls that may raise. -/
namespace Pv
open PySem PySem.Spec PySem.SeqAt L2
def isXD : D → Bool
  | .dict ((.str _, _) :: _) => true
  | _ => false
def isX : Rv → Bool
  | .sv (.val d) => isXD d
  | _ => false
theorem rep_noX {k : Kx} {F : Hp} {v : V} {d : D} (h : Rep k F v d) : isXD d = false := by
  cases h <;> rfl
theorem rr_noX {k : Kx} {H F H' : Hp} {ρ : Rho} {σ : L2.St} {r : Rv} {v : V} (h : RR k H F ρ σ H' r v) : isX r = false := by
  match r, h with
  | .sv (.val d), h => exact rep_noX h
  | .sv (.own o), _ => rfl
  | .plc i, _ => rfl
def SimEX (k : Kx) (W : WX) (te : TE) (me : EM) : Prop := ∀ (F : Hp) (ρ : Rho) (σ : L2.St) (H : Hp) (Q : VK), FR k F ρ σ H →
  wpo (me ρ) (fun x => (∀ v F' H', Aft k ρ σ F H x.2 F' H' → RR k H F' x.2 σ H' x.1 v → Q v H') ∧ ∀ y fs, x.1 = .sv (.val (excD y fs)) → ∀ cls d F' H', Aft k ρ σ F H x.2 F' H' → ExcR k F' H' y fs cls d → W cls d σ H') → te σ H Q
theorem simCallX {k : Kx} {io : Bool} {np : Nat} {cm : CM} {W : WX} {ta : TA} {ma : AM} (ha : SimA k ta ma) : SimEX k W (tCallS (spX k io np cm) (WE W) ta) (evCallL np cm ma) := by
  intro F ρ σ H Q f h
  unfold evCallL at h
  refine ha F ρ σ H _ f ((wpo_bind.mp h).mono fun a _ h => ?_)
  intro vs F1 H1 A1 R1
  have h := wpo_bind.mp h
  cases e1 : passB a.2 a.1 with
  | none => rw [e1] at h; exact h.elim
  | some as =>
    rw [e1] at h
    have h : wpo (if as.length = np then (cm as).bind fun x => some (Rv.sv x.1, if nlS x.1 = true then a.2 else frAll a.2 a.1) else none) _ := h
    obtain ⟨ar, ao⟩ := passB_ok (all := a.1) (rs := a.1) f A1 (fun _ z => z) (fun _ z => z) (fun _ z => z) R1 e1
    split at h
    · rename_i hl
      have el := ar.len
      refine ⟨_, as, lend_in A1.fr, ar, by omega, (wpo_bind.mp h).mono fun x _ h => ?_⟩
      have hI : ∀ p, ArgOwn as vs p → ¬ Own a.2 σ p := fun p z o => by
        obtain ⟨u, hu⟩ := f.own_some (A1.ow p o)
        rw [(ao p z).1] at hu; cases hu
      have hI' : ∀ p, ArgOwn as vs p → ¬ Own a.2 σ p ∨ ∃ j o, Rv.plc j ∉ a.1 ∧ a.2[j]? = some (some (.own o)) ∧ σ[j]? = some (some (.ref p)) := fun p z => .inl (hI p z)
      have fin : ∀ {F' H' : Hp}, Sub F' H' → Tr (ArgOwn as vs) (lendF (Lent a.2 σ a.1) F1 H1) H1 F' H' → ∀ {ρ2 : Rho} {F2 : Hp}, ((F2 = unlF (Lent a.2 σ a.1) F' ∧ ρ2 = a.2) ∨ (F2 = F' ∧ ρ2 = frAll a.2 a.1)) → Aft k ρ σ F H ρ2 F2 H' := fun {F' H'} sb tr {ρ2 F2} hF => by
        obtain ⟨b1, b2, b3, b4, b5, b6, b7, b8⟩ := backL A1.fr sb tr hI' hF
        have ow : ∀ p, Own ρ2 σ p → Own a.2 σ p := fun p ⟨i, o, q1, q2⟩ => ⟨i, o, (b6 i o q1).1, q2⟩
        refine ⟨⟨b1, b3, b5, fun i o q => ?_, fun i j o o' p q1 q2 q3 q4 => A1.fr.dist i j o o' p (b6 i o q1).1 (b6 j o' q2).1 q3 q4⟩, ⟨A1.tr.sub.trans b2, fun p o q n => ?_, fun p o q m n n2 => ?_, fun p o q => ?_⟩, fun p z => A1.ow p (ow p z), fun i s q => let ⟨s', q'⟩ := A1.sl i s q; b4 i s' q'⟩
        · obtain ⟨q0, p, ho, q1, q2⟩ := b6 i o q
          obtain ⟨q3, q4, q5⟩ := q2 fun z => hI p z ⟨i, o, q0, q1⟩
          exact ⟨p, ho, q1, q3, q4, q5⟩
        · exact b7 p o (A1.tr.keep p o q n) fun z => by rw [(ao p z).1] at q; cases q
        · exact b8 p o (A1.tr.keep p o q n2) m (A1.tr.new p o q m n n2) (fun z => by rw [(ao p z).1] at q; cases q) fun z => n2 (A1.ow p z)
        · obtain ⟨o', q'⟩ := A1.tr.there p o q
          exact tr.there p o' q'
      have res : ∀ {ρ2 : Rho} {F2 H' : Hp} {v : V}, ResR k (ArgGiv io as vs) H1 F2 H' x.1 v → RR k H F2 ρ2 σ H' (.sv x.1) v := fun {ρ2 F2 H' v} rr => by
        cases hx : x.1 with
        | val d => rw [hx] at rr; exact rr
        | own o =>
          rw [hx] at rr
          obtain ⟨p, ho, q1, q2, q3⟩ := rr
          refine ⟨p, ho, q1, ?_, q3⟩
          rcases q2 with q2 | ⟨i, o', _, q4, q5⟩
          · exact A1.none_of q2
          · exact (ao p ⟨i, o', q4, q5⟩).1
      refine ⟨fun v F' H' sb tr rr _ => ?_, fun y fs ex cls d F' H' sb tr er => ?_⟩
      · by_cases hn : nlS x.1 = true
        · have h := h.1 v (unlF (Lent a.2 σ a.1) F') H'
          simp only [if_pos hn] at h
          exact h (fin sb tr (.inl ⟨rfl, rfl⟩)) (res (nlS_del (Lent.lstF A1.fr tr) hn rr))
        · have h := h.1 v F' H'
          simp only [if_neg hn] at h
          exact h (fin sb tr (.inr ⟨rfl, rfl⟩)) (res rr)
      · have hn : ¬ nlS x.1 = true := by rw [ex]; simp [nlS, nl]
        have h := h.2 y fs (congrArg Rv.sv ex) cls d F' H'
        simp only [if_neg hn] at h
        exact h (fin sb tr (.inr ⟨rfl, rfl⟩)) er
    · exact h.elim

def evNoX (me : EM) : EM := fun ρ => (me ρ).bind fun a => if isX a.1 = true then none else some a
theorem simNoX {k : Kx} {te : TE} {me : EM} (he : SimEX k (fun _ _ _ _ => False) te me) : SimE k te (evNoX me) := by
  intro F ρ σ H Q f h
  unfold evNoX at h
  refine he F ρ σ H _ f ((wpo_bind.mp h).mono fun a _ h => ?_)
  have h : wpo (if isX a.1 = true then none else some a) _ := h
  split at h
  · exact h.elim
  · rename_i hx
    exact ⟨h, fun y fs e => absurd (by rw [e]; rfl) hx⟩
section
variable {k : Kx} {P : List Nat} {W : WX} {Wx : Option WX}
def exAsgX (P : List Nat) (i : Nat) (me : EM) : SM := fun ρ => (me ρ).bind fun a => if isX a.1 = true then some (.ret a.1, a.2) else (stoS P i a.2 a.1).bind fun ρ' => some (.nx, ρ')
theorem simAsgX {te : TE} {me : EM} {i : Nat} (he : SimEX k W te me) : SimS k P (some W) (tAsg te (gName i)) (exAsgX P i me) := by
  intro e ρ σ F H D hP s h
  unfold exAsgX at h
  refine he F ρ σ H _ s.fr ((wpo_bind.mp h).mono fun a _ h => ?_)
  refine ⟨fun v F1 H1 A1 R1 => ?_, fun y fs ex cls d F1 H1 A1 er => ?_⟩
  · rw [if_neg (by rw [rr_noX R1]; exact Bool.false_ne_true)] at h
    have h := wpo_bind.mp h
    cases e1 : stoS P i a.2 a.1 with
    | none => rw [e1] at h; exact h.elim
    | some ρ' =>
      rw [e1] at h
      have s1 := s.aft A1
      obtain ⟨F', s2, _⟩ := sto_ok hP s1 (s.back R1) (fun o ho p hp z => by
        rw [ho] at R1
        obtain ⟨q, _, e2, n, _⟩ := R1
        rw [hp] at e2; cases e2
        obtain ⟨u, hu⟩ := s.fr.own_some (A1.ow p z)
        rw [n] at hu; cases hu) e1
      exact h _ F' H1 s2
  · rw [if_pos (by rw [ex]; rfl)] at h
    exact h.2 W rfl y fs ex cls d σ F1 H1 (s.aft A1) er
def exExprX (me : EM) : SM := fun ρ => (me ρ).bind fun a => if isX a.1 = true then some (.ret a.1, a.2) else some (.nx, a.2)
theorem simExprX {te : TE} {me : EM} (he : SimEX k W te me) : SimS k P (some W) (tDrop te) (exExprX me) := by
  intro e ρ σ F H D hP s h
  unfold exExprX at h
  refine he F ρ σ H _ s.fr ((wpo_bind.mp h).mono fun a _ h => ?_)
  refine ⟨fun v F1 H1 A1 R1 => ?_, fun y fs ex cls d F1 H1 A1 er => ?_⟩
  · rw [if_neg (by rw [rr_noX R1]; exact Bool.false_ne_true)] at h
    exact h σ F1 H1 (s.aft A1)
  · rw [if_pos (by rw [ex]; rfl)] at h
    exact h.2 W rfl y fs ex cls d σ F1 H1 (s.aft A1) er
def exRaise (x : Str) : SM := fun ρ => some (.ret (.sv (.val (excD x []))), ρ)
theorem simRaise0 {x : Str} : SimS k P (some W) (fun _ σ H => (fun (_ : L2.St) (H : Hp) (Q : XK) => Q (.ref (He.ga k.K x)) none H) σ H fun cls d H' => W cls d σ H') (exRaise x) := by
  intro e ρ σ F H D hP s h
  exact h.2 W rfl x [] rfl _ _ σ F H s ⟨[], rfl, .nil, .inl ⟨rfl, rfl⟩⟩
end
theorem pmk_own0 {X : Cx} {C : Addr} {bmB : List Value} {B newId initId : String} {x : Str} {p pos : Pos} (F : ExcBaseFacts B newId initId bmB) (q : PySem.W.excIn X.K C bmB newId = true) (gC : X.mg x = some (.ref C))
    (kC : PySem.W.keepIn X.K (.ref C) = true) (r : Raises X (.ref C)) (hg : Gl X x) (hdb : (x == ("__debug__" : Str)) = false := by decide) :
    PMk X (.Call (.Name x p) [] [] pos) (fun _ H Q => Q (.ref C) none H) := by
  intro pins s σ H Q I h
  refine wpAny_Call_Name_kw (ld_glob I hg gC ?_ hdb)
  refine PySem.W.callWith_K0 I.kIn kC ?_
  show wpAny _ _ (call (.ref C) []) _ _ _
  obtain ⟨bm, N, nm, qn, bs, hdct, sn, sub, ab, col, dd, k0, k1, k2, k3, k5, mN, hC, hN, hni, T⟩ := exc_obj I.kIn q
  refine wpAny_call_exc_subT F T hC hN hni (fun h' e hm => ?_) (Nat.zero_le _)
  exact mk_of I hm r h (I.hok.gone hm.new)
section
variable {X : Cx} {CT : CTab} {P : List Nat} {Wx : Option WX} {W : WX}
theorem nRaise0 {x : Str} {p pos pos' : Pos} (tk : Takes X W) (ex : (He.Fa.exc x).ok X.K = true) (gC : X.mg x = some (.ref (He.ga X.K x))) (hc : X.calm = true := by rfl) (hg : Gl X x := by rfl) (hdb : (x == ("__debug__" : Str)) = false := by decide) :
    NS X CT P (some W) (.Raise (some (.Call (.Name x p) [] [] pos)) none pos') (exRaise x) := by
  obtain ⟨h1, h2, h3, h4⟩ := He.exc_ok ex
  exact ⟨_, ps_raise hc tk (pmk_own0 PySem.F.excBase_ValueError h1 gC h2 (raises_own h3 h4) hg hdb), simRaise0 (k := kx X CT)⟩
def FunKX (P : Program) (w : World) (K : PySem.W.Frag) (mg : Str → Option Value) (base : Heap) (CT : CTab) (n : Nat) (f : Addr) (io : Bool) (np : Nat) (cm : CM) : Prop := ∃ fd ps, FnOk P w K mg base (L2.CX P w) n f fd ps (spX ⟨K, CT⟩ io np cm) ∧ Binds K fd ps []
abbrev FunX (X : Cx) (CT : CTab) (n : Nat) (f : Addr) (io : Bool) (np : Nat) (cm : CM) : Prop := FunKX X.prog X.w X.K X.mg X.base CT n f io np cm
def NX (X : Cx) (CT : CTab) (W : WX) (e : Expr) (me : EM) : Prop := ∃ te, PE X e te ∧ SimEX (kx X CT) W te me
variable {x : Str} {p pos : Pos} {e : Expr} {es : List Expr} {f : Addr} {io : Bool} {np j : Nat} {cm : CM} {mr : AM}
theorem nCallX (tk : Takes X W) (F : FunX X CT j f io np cm) (hr : Room j X.A) (hm : X.mg x = some (.ref f)) (hk : PySem.W.keepIn X.K (.ref f) = true) (ha : NA X CT (e :: es) mr) (hg : Gl X x := by rfl) (hdb : (x == ("__debug__" : Str)) = false := by decide)
    (he : starEach (e :: es) X.env = (false, eval e X.env) :: starEach es X.env := by rfl) (hpl : (backTo pos (starEach es X.env)).any (·.1) = false := by rfl) : NX X CT W (.Call (.Name x p) (e :: es) [] pos) (evCallL np cm mr) := by
  obtain ⟨fd, ps, F, hb⟩ := F
  obtain ⟨_, pa, sa⟩ := ha
  exact ⟨_, pe_callS F hr hg hm hk hb (fun σ => passAt tk σ) pa hdb he hpl, simCallX sa⟩
theorem nNoX {me : EM} (h : NX X CT (fun _ _ _ _ => False) e me) : NE X CT e (evNoX me) := by
  obtain ⟨_, pe, se⟩ := h
  exact ⟨_, pe, simNoX se⟩
variable {me : EM}
end
end Pv

/-! PwK: try, except; defs that may raise. -/
namespace Pv
open PySem PySem.Spec PySem.SeqAt L2
def hdOf (y : Str) : List (List Str × SM) → Option SM
  | [] => none
  | (l, m) :: r => if y ∈ l then some m else hdOf y r
def exTry (up : Bool) (kn : List Str) (m : SM) (hs : List (List Str × SM)) : SM := fun ρ => (m ρ).bind fun a => match a.1 with
  | .ret (.sv (.val (.dict ((.str y, z) :: l)))) => if y ∈ kn then (match hdOf y hs with
    | some mh => mh a.2
    | none => if up = true then some a else none) else none
  | _ => some a
def wx : Option WX → WX
  | some W => W
  | none => fun _ _ _ _ => False
section
variable {X : Cx} {CT : CTab} {P : List Nat} {Wx : Option WX}
def tBody (X : Cx) (body : List Stmt) (W : WX) : TS := fun D σ H => ∀ (pn : List (Addr × Obj)) (xe : Value → Shared → Prop), Takes (X.tr pn xe) W → PassesOwn (model X.prog X.w) X.A X.env xe → ∃ ts, PSs (X.tr pn xe) body ts ∧ ts D σ H
def tSuite (X : Cx) (suite : List Stmt) (a : Addr) (cls : Value) (d : Option Addr) : TS := fun D σ H => ∀ (oe : Obj) (pn : List (Addr × Obj)), Zc cls d oe → (∃ vs, oe.data = .fields vs) → ∃ ts, PSs (X.suite a ((a, oe) :: pn)) suite ts ∧ ts D σ H
theorem tBody_ok {body : List Stmt} (W : WX) (pn : List (Addr × Obj)) (xe : Value → Shared → Prop) (tk : Takes (X.tr pn xe) W) (po : PassesOwn (model X.prog X.w) X.A X.env xe) : PSs (X.tr pn xe) body (tBody X body W) :=
  ⟨fun pins s σ H D I h => by
    obtain ⟨ts, p, q⟩ := h pn xe tk po
    exact p.run pins s σ H D I q⟩
theorem tSuite_ok {suite : List Stmt} (a : Addr) (oe : Obj) (cls : Value) (d : Option Addr) (pn : List (Addr × Obj)) (hz : Zc cls d oe) (hf : ∃ vs, oe.data = .fields vs) : PSs (X.suite a ((a, oe) :: pn)) suite (tSuite X suite a cls d) :=
  ⟨fun pins s σ H D I h => by
    obtain ⟨ts, p, q⟩ := h oe pn hz hf
    exact p.run pins s σ H D I q⟩
inductive NHs (X : Cx) (CT : CTab) (P : List Nat) (kn : List Str) : List ExceptHandler → List (List Str × SM) → List (Value × (Addr → Value → Option Addr → TS)) → Prop
  | nil : NHs X CT P kn [] [] []
  | cons {x : Str} {L : List Str} {m : SM} {b₀ : Stmt} {suite : List Stmt} {np pos' : Pos} {hds : List ExceptHandler} {ms : List (List Str × SM)} {l : List (Value × (Addr → Value → Option Addr → TS))} (hc : Names X x (.ref (He.ga X.K x)))
      (hx : ∀ y ∈ kn, PySem.W.exmOne X.K (.ref (He.ga X.K y)) (.ref (He.ga X.K x)) = some (decide (y ∈ L)))
      (hsu : ∀ (a : Addr) (oe : Obj) (cls : Value) (d : Option Addr) (pn : List (Addr × Obj)), Zc cls d oe → (∃ vs, oe.data = .fields vs) → NSs (X.suite a ((a, oe) :: pn)) CT P none (b₀ :: suite) m) (r : NHs X CT P kn hds ms l) :
      NHs X CT P kn (.ExceptHandler (some (.Name x np)) none (b₀ :: suite) pos' :: hds) ((L, m) :: ms) ((.ref (He.ga X.K x), tSuite X (b₀ :: suite)) :: l)
theorem NHs.ok {kn : List Str} {hds : List ExceptHandler} {ms : List (List Str × SM)} {l : List (Value × (Addr → Value → Option Addr → TS))} (h : NHs X CT P kn hds ms l) : HdsOk X hds l := by
  induction h with
  | nil => exact .nil
  | cons hc hx hsu r ih => exact .cons hc (fun a oe cls d pn hz hf => tSuite_ok a oe cls d pn hz hf) ih
end
section
variable {P : Program} {w : World} {K : PySem.W.Frag} {mg : Str → Option Value} {base : Heap} {x qual : Str} {params : Arguments} {body : List Stmt} {scope : Scope} {f : Addr} {fd : FuncData}
abbrev cxX (P : Program) (w : World) (K : PySem.W.Frag) (mg : Str → Option Value) (base : Heap) (N : List Str) (qual : Str) (scope : Scope) (f : Addr) (cd : Value) (A : Around) (outer : List Env) (s : Shared) (H : Hp) (E : XK) : Cx := cxOf (L2.CX P w) P w K mg base N qual scope f cd A outer s H E
theorem spX_len {k : Kx} {io : Bool} {np : Nat} {cm : CM} {vs : List V} {H : Hp} {Q : VK} {E : XK} (h : spX k io np cm vs H Q E) : vs.length = np := by
  obtain ⟨F, args, _, _, e, _⟩ := h; exact e
theorem cxX_takes {N : List Str} {cd : Value} {A : Around} {outer : List Env} {s : Shared} {H : Hp} {E : XK} : Takes (cxX P w K mg base N qual scope f cd A outer s H E) (fun cls d _ H => E cls d H) :=
  takes_of rfl rfl rfl rfl
theorem def_okX {CT : CTab} {io : Bool} {np nl n : Nat} {N ps : List Str} {mb : SM} (F : FunD K x qual params body scope [] [] f fd) (S : FnScope N ps scope) (hps : ps.length = np) (hN : N.length = nl) (hio : io = true → 0 < np)
    (hb : ∀ (cd : Value) (A : Around) (outer : List Env) (s : Shared) (H : Hp) (E : XK), Room n (cxX P w K mg base N qual scope f cd A outer s H E).A → NSs (cxX P w K mg base N qual scope f cd A outer s H E) CT (if io = true then [0] else []) (some fun cls d _ H => E cls d H) body mb) :
    FnOk P w K mg base (L2.CX P w) (n + 1) f fd ps (spX ⟨K, CT⟩ io np (runB io nl mb)) := by
  refine F.ok S (fun vs H Q E h => by rw [hps]; exact spX_len h) fun cd A outer s H vs Q E hr h => ?_
  obtain ⟨ts, p, si⟩ := hb cd A outer s H E hr
  exact ⟨ts, p, runB_okX hN hio si (fun _ _ _ _ z => z) h⟩
end
section
variable {X : Cx} {CT : CTab} {P : List Nat} {W : WX} {e : Expr} {me : EM} {pos : Pos}
theorem sSetX (i : Nat) {x : Str} {pos' : Pos} (hN : X.N.Nodup) (he : NX X CT W e me) (hi : X.N[i]? = some x := by rfl) (hx : Loc X.env.scope x := by first | exact Or.inl rfl | exact Or.inr rfl) (hs : swapsWith e (some (.Name x pos')) pos.line X.env = pure false := by rfl)
    (hf : X.fn x = true ∨ X.env.scope.names.lookup x = some .local := by first | exact .inl rfl | exact .inr rfl) : NS X CT P (some W) (.Assign [.Name x pos'] e pos) (exAsgX P i me) := by
  obtain ⟨_, pa, sa⟩ := he
  exact ⟨_, ps_set hN hi hx pa hs hf, simAsgX sa⟩
theorem sExprX (he : NX X CT W e me) (hs : swapsWith e none pos.line X.env = pure false := by rfl) : NS X CT P (some W) (.Expr e pos) (exExprX me) := by
  obtain ⟨_, pe, se⟩ := he
  exact ⟨_, ps_expr pe hs, simExprX se⟩
theorem namesG {x : Str} (gC : X.mg x = some (.ref (He.ga X.K x))) (hg : Gl X x := by rfl) (hdb : (x == ("__debug__" : Str)) = false := by decide) : Names X x (.ref (He.ga X.K x)) := ⟨hg, hdb, .inl gC⟩
end
section
variable {fa : List He.Fa} {fn : List He.DefD} {cs : ClsT} {K : PySem.W.Frag} {mg : Str → Option Value}
theorem Fx.exc (h : Fx fa fn cs K mg) (i : Nat) {x : Str} (e : fa[i]? = some (.exc x) := by rfl) : (He.Fa.exc x).ok K = true := h.d.fact i e
theorem Fx.exm (h : Fx fa fn cs K mg) (i : Nat) {x y : Str} {b : Bool} (e : fa[i]? = some (.exm x y b) := by rfl) : PySem.W.exmOne K (.ref (He.ga K x)) (.ref (He.ga K y)) = some b := He.exm_ok (h.d.fact i e)
end
end Pv

/-! PwL: sum over tuples. -/
namespace Pv
open PySem PySem.Spec PySem.SeqAt PyProof.Rows L2
section
variable {prog : Program} {w : World} {A : Around} {E : Value → Shared → Prop} {s : Shared} {l : Addr}
end
section
variable {X : Cx}
end
section
variable {X : Cx} {n : Nat}
end
/-! e.index(x), e any list -/
section
variable {X : Cx} {CT : CTab} {e o : Expr} {mo : EM} {mr : AM} {p pos : Pos}
end
/-! a walk over a global tuple of ints -/
section
variable {X : Cx} {CT : CTab} {p : Pos} {tg : Expr}
end
section
variable {X : Cx} {CT : CTab} {p pos : Pos} {x : Str} {f : Addr} {io : Bool} {np j : Nat} {cm : CM}
end
section
variable {X : Cx} {CT : CTab} {a b : Expr} {ma mb : EM} {p pos : Pos}
end
end Pv

/-! PwM: sorted over tuples, the first of which is empty. -/
namespace PySem.SeqAt
open PySem PySem.Spec PySem.Builtin
section
variable {A : Around} {s : Shared}
theorem call_tuple_ltE {prog : Program} {w : World} {E : Value → Shared → Prop} {Q : Value → Shared → Prop} {l b : Addr} {items items2 : Array Value} {e r : Nat → Bool} (hl : s.heap.IsTuple l items) (hb : s.heap.IsTuple b items2)
    (he : ∀ j (h1 : j < items.size) (h2 : j < items2.size), EqAt A.in1 s items[j] items2[j] (e j)) (hr : ∀ j (h1 : j < items.size) (h2 : j < items2.size), e j = false → RcLt A.in1 s items[j] items2[j] (r j))
    (h : Q (.bool (firstLt e r (decide (items.size < items2.size)) (List.range (min items.size items2.size)))) s) : wpAny (model prog w) A (call (.builtin "tuple.__lt__") [.ref l, .ref b]) Q E s := by
  obtain ⟨⟨cls, dd, data, sl⟩, ho, hc, n, hd⟩ := id hl
  obtain ⟨⟨cls2, dd2, data2, sl2⟩, ho2, hc2, n2, hd2⟩ := id hb
  simp only at hc hd hc2 hd2
  subst hc hd hc2 hd2
  exact call_meets F.slot_tuple_lt ⟨_, ho, rfl⟩ F.entry_tuple_lt (F.args_tuple_lt_2 _ _) (tuple_ltAt l b items items2 n n2 dd dd2 sl sl2 e r) ⟨ho, ho2, he, hr, h⟩
end
end PySem.SeqAt
namespace PySem.W
open PySem PySem.SeqAt PySem.Calls PyProof.Rows
section
variable {prog : Program} {w : World} {A : Around} {E : Value → Shared → Prop} {s : Shared}
theorem oneLt_tupleE {xs ys : List PyData} {a b : Value} {as bs : List Addr} {Q : Bool → Shared → Prop} (ra : Reads s.heap a (.tuple xs) as) (rb : Reads s.heap b (.tuple ys) bs) (h : alike (.tuple xs) (.tuple ys) = true)
    (hu : A.units + min (PyData.depth (.tuple xs)) (PyData.depth (.tuple ys)) < cLine) (hq : Q (dataLt (.tuple xs) (.tuple ys)) s) : wpAny (model prog w) A (oneLt' true a b) Q E s := by
  have hal : alikeAll xs ys = true := by simpa [alike] using h
  cases ra with
  | @tuple l o vs n _ as₁ h1 h2 h3 h4 =>
    cases rb with
    | @tuple l' o' vs' n' _ bs₁ k1 k2 k3 k4 =>
      have n1 : vs.size = xs.length := by simpa using ReadsAll.length _ _ _ h4
      have n2 : vs'.size = ys.length := by simpa using ReadsAll.length _ _ _ k4
      rw [dataLt_tuple, ← firstLt_toks xs ys hal, ← n1, ← n2] at hq
      rw [oneLt'_eq]
      simp only [if_true]
      refine wpAny_bind (wpAny_cRoomFor (room_here hu) ?_)
      refine wpAny_bind (wpAny_callSpecialIfBound?_slot (T := "tuple") ⟨_, h1, h2⟩ F.slot_tuple_lt (call_tuple_ltE (e := pairEq xs ys) (r := fun j => dataLt (xs.getD j .none) (ys.getD j .none)) ⟨_, h1, h2, _, h3⟩ ⟨_, k1, k2, _, k3⟩ (fun j j1 j2 => ?_) (fun j j1 j2 hj => ?_) ?_))
      · have := eqAt_alikeAll xs ys A.in1 s vs.toList vs'.toList _ _ h4 k4 hal (room_in hu) j (by simpa using j1) (by simpa using j2)
        simpa using this
      · have := rcLt_alikeAll xs ys A.in1 s vs.toList vs'.toList _ _ h4 k4 hal (room_in hu) j (by simpa using j1) (by simpa using j2) hj
        simpa using this
      · exact wpAny_truthy_bool hq
end
section
variable {M : Model} {A : Around} {E : Value → Shared → Prop} {s : Shared}
theorem firsts_tupE {ds : List PyData} : ∀ (vs : List Value) {Q : List (Option Value) → Shared → Prop}, EachIs (fun v d => (∃ as, Reads s.heap v d as) ∧ ∃ xs, d = .tuple xs) vs ds → (∀ os : List (Option Value), os.length = vs.length → (ds.head? = some (.tuple []) → os.head? = some none) → Q os s) → wpAny M A (vs.mapM firstOfTuple') Q E s := by
  intro vs
  induction vs generalizing ds with
  | nil =>
    intro Q e h
    rw [List.mapM_nil]
    cases e
    exact wpAny_pure (h [] rfl (fun z => by cases z))
  | cons v vs ih =>
    intro Q e h
    cases e with
    | @cons _ d _ ds' e1 e2 =>
      obtain ⟨⟨as, r⟩, xs, rfl⟩ := e1
      rw [List.mapM_cons]
      cases r with
      | @tuple l o ws n _ _ h1 h2 h3 h4 =>
        refine wpAny_bind ?_
        rw [kas_first_eq]
        refine wpAny_bind (Looks.here (show Looks M s.heap (typeOf (.ref l)) o.cls from (Looks.ld h1).andThen .now) ?_)
        rw [h2, if_neg (by first | decide | simp)]
        refine wpAny_bind (listItems_at h1 h3 (wpAny_pure ?_))
        refine wpAny_bind (ih (Q := fun bs s' => wpAny M A (pure (ws[0]? :: bs)) Q E s') e2 fun os ho hh => wpAny_pure (h _ (by simp [ho]) fun z => ?_))
        simp only [List.head?_cons, Option.some.injEq, PyData.tuple.injEq] at z
        subst z
        have : ws.toList.length = 0 := by simpa using SeqAt.ReadsAll.length _ _ _ h4
        have : ws.size = 0 := by simpa using this
        simp [this]
theorem kind_tupE {vs : List Value} {ds : List PyData} {Q : SortKind → Shared → Prop} (h2 : 2 ≤ vs.length) (e : EachIs (fun v d => (∃ as, Reads s.heap v d as) ∧ ∃ xs, d = .tuple xs) vs ds) (h0 : ds.head? = some (.tuple [])) (h : Q oneType' s) :
    wpAny M A (keyKind' vs.toArray) Q E s := by
  obtain ⟨v₁, v₂, rest, rfl⟩ : ∃ v₁ v₂ rest, vs = v₁ :: v₂ :: rest := by
    match vs, h2 with
    | [], h2 => simp at h2
    | [_], h2 => simp at h2
    | v₁ :: v₂ :: rest, _ => exact ⟨v₁, v₂, rest, rfl⟩
  have hT : ∀ v ∈ v₁ :: v₂ :: rest, Looks M s.heap (typeOf v) (.type "tuple") := fun v hv => by
    obtain ⟨d, hd, ⟨as, r⟩, xs, rfl⟩ := e.left v hv
    exact looks_reads r
  rw [keyKind'_eq, List.mapM_toArray, map_eq_pure_bind]
  refine wpAny_bind (wpAny_bind (firsts_tupE _ e fun os ho hh => wpAny_pure ?_))
  have hn := hh h0
  obtain ⟨os', rfl⟩ : ∃ os', os = none :: os' := by
    cases os with
    | nil => cases hn
    | cons x os' => simp at hn; exact ⟨os', by rw [hn]⟩
  rw [if_neg (by simp), if_neg (by simp)]
  rw [oneTypeOnly'_eq, List.mapM_toArray, map_eq_pure_bind]
  refine wpAny_bind (wpAny_bind (wpAny_bind (kas_mapM (r := Value.type "tuple") _ (fun v hv Q' hq => (hT v hv).here hq) (wpAny_pure ?_))))
  have hall : ((List.map (fun _ => Value.type "tuple") (v₁ :: v₂ :: rest)).toArray.all fun x => x == Value.type "tuple") = true := by
    simp only [List.all_toArray, List.all_map, List.all_eq_true]
    intro _ _
    exact beq_self_eq_true _
  have h0 : (List.map (fun _ => Value.type "tuple") (v₁ :: v₂ :: rest)).toArray[0]? = some (Value.type "tuple") := by simp
  rw [h0]
  simp only [hall, if_true]
  exact wpAny_pure (wpAny_pure h)
end
section
variable {prog : Program} {w : World} {A : Around} {s : Shared}
theorem SortsAt.tupE {vs : List Value} {ds : List PyData} (e : EachIs (fun v d => ∃ as, Reads s.heap v d as) vs ds) (hal : AllAlike ds) (ht : ∀ d, d ∈ ds → ∃ xs, d = .tuple xs) (h0 : ds.head? = some (.tuple [])) (hu : ∀ d, d ∈ ds → A.units + d.depth < cLine) : SortsAt prog w A s (dataKind s.heap ds) vs := by
  have room : ∀ {d d' : PyData}, d ∈ ds → A.units + min d.depth d'.depth < cLine := fun {d d'} hd => Nat.lt_of_le_of_lt (Nat.add_le_add_left (Nat.min_le_left _ _) _) (hu d hd)
  refine ⟨fun v hv => ?_, oneType', ?_, fun h2 E Q hq => ?_⟩
  · obtain ⟨d, hd, as, r⟩ := e.left v hv
    exact ⟨_, dataKind_some hal hd r⟩
  · intro E x y a b Q ha hb hq
    obtain ⟨d, as, hd, ra, rfl⟩ := dataKind_inv ha
    obtain ⟨d', as', hd', rb, rfl⟩ := dataKind_inv hb
    have hdd := hal d hd d' hd'
    have hroom := room (d' := d') hd
    obtain ⟨xs, rfl⟩ := ht d hd
    obtain ⟨ys, rfl⟩ := ht d' hd'
    rw [keyLt'_oneType]
    exact oneLt_tupleE ra rb hdd hroom hq
  · exact kind_tupE h2 ((each_mem e).mono fun v d q => ⟨q.1, ht d q.2⟩) h0 hq
end
section
variable {prog : Program} {w : World} {A : Around} {E : Value → Shared → Prop} {s : Shared} {β : Type} {vs : List Value} {bs : List β} {enc : β → PyData} {R : Value → β → Prop}
theorem sorted_tupE {l : Addr} {Q : Value → Shared → Prop} (hl : s.heap.IsList l vs.toArray) (e : EachIs R vs bs) (er : EachIs (fun v b => ∃ as, Reads s.heap v (enc b) as) vs bs) (hal : AllAlike (bs.map enc)) (ht : ∀ d, d ∈ bs.map enc → ∃ xs, d = .tuple xs) (h0 : (bs.map enc).head? = some (.tuple [])) (hL : bs.length ≤ sizeLine)
    (hu : ∀ b, b ∈ bs → A.units + 2 + (enc b).depth < cLine) (h : ∀ out, out.length = bs.length → EachIs R out (bs.mergeSort (dataLe false enc)) → Q (.ref (s.heap.objs.size + 1)) { s with heap := sortedAll s.heap vs (List.toArray out) }) :
    wpAny (model prog w) A (call (.builtin "sorted") [.ref l]) Q E s := by
  have er' : EachIs (fun v b => ∃ as, Reads (sortingHeap (copyHeap s.heap vs) (s.heap.objs.size + 1) vs) v (enc b) as) vs bs := er.mono fun _ _ ⟨as, r⟩ => ⟨as, PyProof.Rows.Reads.keeps (fun _ _ => sorting_copy_old) r⟩
  exact sorted_vals hl (SortsAt.tupE (s := { s with heap := sortingHeap (copyHeap s.heap vs) (s.heap.objs.size + 1) vs }) (each_map (R := fun v d => ∃ as, Reads (sortingHeap (copyHeap s.heap vs) (s.heap.objs.size + 1) vs) v d as) enc er') hal ht h0 (bound_map hu)) (by rw [e.length]; exact hL)
    (h _ (by rw [sortVals_length false rfl]; exact e.length) (sortVals_data false e er' hal))
end
end PySem.W
namespace Pv
open PySem PySem.Spec PySem.SeqAt L2
def sortableE (ds : List D) : Bool := (ds.all fun d => match d with
  | .tuple _ => true
  | _ => false) && match ds with
  | .tuple [] :: _ => true
  | _ => false
def pSortE (xs : List D) : Bool := PyData.plainAll xs && xs.all (fun x => xs.all fun y => PySem.W.alike x y) && sortableE xs && decide (PyData.depthAll xs ≤ 100)
def gSortedE : List D → Option SV
  | [.list xs] => if pSortE xs = true then some (.own (.lst (srtD xs))) else none
  | _ => none
def rSrtE (K : PySem.W.Frag) : List V → Hp → VK → Prop := fun vs H Q => ∃ (a : Addr) (ws : List V) (xs : List D) (R0 : V → D → Prop), vs = [.ref a] ∧ SqL K H a ws ∧ DpAll K H ws xs ∧ PySem.W.AllAlike xs ∧ sortableE xs = true ∧ PyData.depthAll xs ≤ 100 ∧ Paired R0 ws xs ∧
  ∀ (zs : List V) (p : Addr), H p = none → Paired R0 zs (srtD xs) → Q (.ref p) (upd H p (.lst zs))
theorem sortableE_ok {ds : List D} (h : sortableE ds = true) : (∀ d, d ∈ ds → ∃ xs, d = .tuple xs) ∧ ds.head? = some (.tuple []) := by
  simp only [sortableE, Bool.and_eq_true, List.all_eq_true] at h
  refine ⟨fun d hd => ?_, ?_⟩
  · have := h.1 d hd
    split at this
    · exact ⟨_, rfl⟩
    · cases this
  · have := h.2
    split at this
    · rfl
    · cases this
theorem cr_srtE {X : Cx} (hu : X.A.units + 200 < cLine) : CallR X (.builtin "sorted") (rSrtE X.K) := by
  intro pins s σ H vs us Q I r h
  obtain ⟨a, ws, xs, R0, rfl, hq, hd, ha, hs, hdp, hp, q⟩ := h
  rw [Vals.ref1 r]
  obtain ⟨its, rv, p, hz⟩ := I.list hq
  obtain ⟨s1, s2⟩ := sortableE_ok hs
  have hl : xs.length ≤ sizeLine := by rw [← Paired.len hp]; exact hz
  have e1 : PySem.W.EachIs (fun v b => ∃ x, RelV x v ∧ R0 x b) its xs := each_mk (fun x v b r q => ⟨x, r, q⟩) rv hp
  have e2 : PySem.W.EachIs (fun v (b : D) => ∃ as, Reads s.heap v (id b) as) its xs := each_mk (fun x v b r q => Dp.reads I b x v q r) rv (dpAll_paired hd)
  refine PySem.W.sorted_tupE (enc := id) p.isList e1 e2 (by rw [List.map_id]; exact ha) (by rw [List.map_id]; exact s1) (by rw [List.map_id]; exact s2) hl (fun b hb => by have := depth_mem hb; show X.A.units + 2 + b.depth < cLine; omega) fun out ho eo => ?_
  obtain ⟨zs, z1, z2⟩ := each_un eo
  obtain ⟨c, hc⟩ := PyProof.Rows.sortedAll_at s.heap its out.toArray
  have hf : H (s.heap.objs.size + 1) = none := I.hok.fresh (Nat.le_succ _)
  have hlen : zs.length ≤ sizeLine := by rw [z1.length, ho]; exact hl
  exact ⟨.ref (s.heap.objs.size + 1), upd H (s.heap.objs.size + 1) (.lst zs), I.laid (t' := s.toks) (fun b u e => PyProof.Rows.sortedAll_old e) (Nat.le_succ _) ⟨hlen, out, c, z1, hc⟩, rfl, q zs _ hf z2⟩
theorem simSrtE {k : Kx} : CallSim k (rSrtE k.K) gSortedE := by
  intro F ρ σ H vs ds Q f rd h
  unfold gSortedE at h
  split at h
  · rename_i xs
    split at h
    · rename_i hc
      simp only [pSortE, Bool.and_eq_true, decide_eq_true_eq, List.all_eq_true] at hc
      obtain ⟨⟨⟨c1, c2⟩, c3⟩, c4⟩ := hc
      obtain ⟨v, rfl, r⟩ := rd.one
      obtain ⟨a, ws, rfl, ha, rl⟩ := r.lst f.sub
      refine ⟨a, ws, xs, Rep k F, rfl, .inl (.inl ha), dpAllMono f.sub (rl.dp c1), fun d hd d' hd' => c2 d hd d' hd', c3, c4, repL_paired rl, fun zs p hp pz => ?_⟩
      exact h _ F _ (Aft.newO f hp) ⟨p, _, rfl, hp, upd_same, f.sub.none_of hp, _, rfl, paired_repL pz⟩
    · exact h.elim
  · exact h.elim
end Pv

/-! PwN: d[x], x a global tuple; len(set(..)) of a tuple. -/
namespace Pv
open PySem PySem.Spec PySem.SeqAt PyProof.Rows L2
theorem dd_leN : ∀ l : List Int, (dd l).length ≤ l.length
  | [] => by simp [dd]
  | x :: r => by
    have := dd_leN r
    unfold dd
    split <;> simp <;> omega
section
variable {X : Cx} {CT : CTab} {a : Expr} {ma : EM} {p pos : Pos}
end
/-! len(set(xs)), xs a tuple of ints -/
def tLenSetT (K : PySem.W.Frag) (ta : TE) : TE := fun σ H Q => ta σ H fun x H1 => ∃ (l : Addr) (ns : List Int), x = V.ref l ∧ SqT K H1 l (ns.map V.int) ∧ ns.length + 1 < scanBound ∧ Q (.int (dd ns).length) H1
theorem pe_lenSetT {X : Cx} {a : Expr} {ta : TE} {p p2 q pos : Pos} (hc : X.calm = true) (hg : Gl X "len") (hm : X.mg "len" = none) (hg2 : Gl X "set") (hm2 : X.mg "set" = none) (ha : PE X a ta)
    (na : starEach [a] X.env = (false, eval a X.env) :: starEach [] X.env := by rfl) : PE X (.Call (.Name "len" p) [.Call (.Name "set" p2) [a] [] q] [] pos) (tLenSetT X.K ta) := by
  refine ⟨fun pins s σ H Q I h => ?_⟩
  refine Call_ (ld_blt I hg hm PySem.boot_len ?_)
  refine PyProof.Rows.callWith_builtin1 (PyProof.Rows.args_cons ?_ rfl) rfl rfl
  refine Call_ (ld_blt I hg2 hm2 PyProof.Rows.boot_set ?_)
  refine PyProof.Rows.callWith_type1 (PyProof.Rows.args_cons (thn (ha.run pins s σ H _ I h) fun v s1 ⟨x, H1, I1, r1, q1⟩ => PyProof.Rows.args_nil ?_) na) na rfl
  obtain ⟨l, ns, rfl, hq, hl, q1⟩ := q1
  cases r1
  obtain ⟨its, rv, pt, hz⟩ := I1.tuple hq
  refine set_of_intsT ns (I1.ok.hd hc) pt (by simpa using vals_ints rv) hl fun s₂ got => ?_
  obtain ⟨h', tk, c, rfl, R, _, kp⟩ := got
  have ec := SetR.count R
  refine PyProof.Rows.args_nil ?_
  obtain ⟨o, es, ep, t, ho, hex, hd, _, _, _, hsb, hf, hn, _⟩ := R
  have I2 : Inv X pins σ H1 { s1 with heap := h', toks := tk } := I1.kept fun b o e => kp b o e
  have hsz : (dd ns).length ≤ ns.length := dd_leN ns
  refine call_len_set ho hex hd hf (by rw [hn, ec]; unfold scanBound at hl; omega) ⟨.int (dd ns).length, H1, I2.tok _, ⟨_, by rw [hn, ec]⟩, q1⟩
def gLenSetT : D → Option SV
  | .tuple xs => (intsD xs).bind fun ns => if ns.length < 4000 then some (.val (.int (dd ns).length)) else none
  | .dict [(.bool true, .tuple xs)] => (intsD xs).bind fun ns => if ns.length < 4000 then some (.val (.int (dd ns).length)) else none
  | _ => none
theorem simLenSetT {k : Kx} {ta : TE} {ma : EM} (ha : SimE k ta ma) : SimE k (tLenSetT k.K ta) (evUn gLenSetT ma) := by
  intro F ρ σ H Q f h
  unfold evUn at h
  refine ha F ρ σ H _ f ((wpo_bind.mp h).mono fun a _ h => ?_)
  intro v F1 H1 A1 R1
  have h := wpo_bind.mp h
  cases e1 : rdD a.2 a.1 with
  | none => rw [e1] at h; exact h.elim
  | some d =>
    rw [e1] at h
    have rx := R1.rd A1.fr e1
    replace h := wpo_bind.mp h
    unfold gLenSetT at h
    split at h
    · rename_i xs
      obtain ⟨l, vs, rfl, _, hs, rl⟩ := rx.tup A1.fr.sub
      cases e : intsD xs with
      | none => rw [e] at h; exact h.elim
      | some ns =>
        rw [e, Option.bind_some] at h
        split at h
        · rename_i hz
          exact ⟨l, ns, rfl, by rw [← rl.ints e]; exact hs, by unfold scanBound; omega, h _ F1 H1 A1 (.int _)⟩
        · exact h.elim
    · rename_i xs
      obtain ⟨l, vs, rfl, _, hs, rl⟩ := rx.xtp A1.fr.sub
      cases e : intsD xs with
      | none => rw [e] at h; exact h.elim
      | some ns =>
        rw [e, Option.bind_some] at h
        split at h
        · rename_i hz
          exact ⟨l, ns, rfl, by rw [← rl.ints e]; exact hs, by unfold scanBound; omega, h _ F1 H1 A1 (.int _)⟩
        · exact h.elim
    · exact h.elim
section
variable {X : Cx} {CT : CTab} {a : Expr} {ma : EM} {p p2 q pos : Pos}
theorem nLenSetT (hc : X.calm = true) (hm : X.mg "len" = none) (hm2 : X.mg "set" = none) (ha : NE X CT a ma) (hg : Gl X "len" := by rfl) (hg2 : Gl X "set" := by rfl) (na : starEach [a] X.env = (false, eval a X.env) :: starEach [] X.env := by rfl) :
    NE X CT (.Call (.Name "len" p) [.Call (.Name "set" p2) [a] [] q] [] pos) (evUn gLenSetT ma) := by
  obtain ⟨_, pa, sa⟩ := ha
  exact ⟨_, pe_lenSetT hc hg hm hg2 hm2 pa na, simLenSetT (k := kx X CT) sa⟩
end
end Pv
/-! sorted(xs), xs a tuple -/
namespace PySem.W
open PySem PySem.Calls PyProof.Rows
section
variable {prog : Program} {w : World} {A : Around} {E : Value → Shared → Prop} {s : Shared} {κ : PyProof.Rows.KeyKind}
end
section
variable {prog : Program} {w : World} {A : Around} {E : Value → Shared → Prop} {s : Shared} {β : Type} {vs : List Value} {bs : List β} {enc : β → PyData} {R : Value → β → Prop}
end
end PySem.W
namespace Pv
open PySem PySem.Spec PySem.SeqAt PyProof.Rows L2
end Pv

/-! PwO: except C as e: x = a if isinstance(e, D) else b; defs as values. -/
namespace Pv
open PySem PySem.Spec PySem.SeqAt L2
def exAs (P : List Nat) (i j : Nat) (s1 : Str) : SM := fun ρ => if j ∈ P ∨ i = j ∨ ¬ i < ρ.length then none else some (.nx, (kill [i] ρ).set j (some (.val (.str s1))))
def noF : Fl → Bool
  | .ret (.sv (.val (.dict ((.str _, _) :: l)))) => l.isEmpty
  | _ => true
def exNoF (m : SM) : SM := fun ρ => (m ρ).bind fun a => if noF a.1 = true then some a else none
section
variable {X : Cx} {CT : CTab} {P : List Nat} {Wx : Option WX}
theorem set_over {σ : L2.St} {i j : Nat} {x y : Option V} (h : i ≠ j) : (((σ.set i x).set j y).set i none) = (σ.set i none).set j y := by
  apply List.ext_getElem?
  intro n
  by_cases h1 : n = i
  · subst h1
    by_cases hl : n < σ.length
    · rw [List.getElem?_set_self (by simpa using hl), List.getElem?_set_ne (Ne.symm h), List.getElem?_set_self hl]
    · rw [List.getElem?_eq_none (by simpa using Nat.le_of_not_lt hl), List.getElem?_eq_none (by simpa using Nat.le_of_not_lt hl)]
  · rw [List.getElem?_set_ne (Ne.symm h1)]
    by_cases h2 : n = j
    · subst h2
      by_cases hl : n < σ.length
      · rw [List.getElem?_set_self (by simpa using hl), List.getElem?_set_self (by simpa using hl)]
      · rw [List.getElem?_eq_none (by simpa using Nat.le_of_not_lt hl), List.getElem?_eq_none (by simpa using Nat.le_of_not_lt hl)]
    · rw [List.getElem?_set_ne (Ne.symm h2), List.getElem?_set_ne (Ne.symm h2), List.getElem?_set_ne (Ne.symm h1), List.getElem?_set_ne (Ne.symm h1)]
theorem SInv.gone {k : Kx} {e : Ent} {ρ : Rho} {σ : L2.St} {F H : Hp} (s : SInv k e ρ σ F H) (i : Nat) (x : Option V) (hi : ∀ q ∈ e.pr, q.1 ≠ i) : SInv k e (Pv.kill [i] ρ) (σ.set i x) F H := by
  have sk := s.kill [i]
  have other : ∀ {n : Nat} {sv : SV}, (Pv.kill [i] ρ)[n]? = some (some sv) → n ≠ i := fun {n sv} h z => by
    obtain ⟨_, h2⟩ := kill_get h
    simp [z] at h2
  refine ⟨⟨sk.fr.sub, by simpa using sk.fr.len, fun n d q => ?_, fun n o q => ?_, fun a b o o' p q1 q2 q3 q4 => ?_⟩, sk.tr, fun p h => ?_, fun q hq => ?_⟩
  · rw [List.getElem?_set_ne (Ne.symm (other q))]; exact sk.fr.vals n d q
  · rw [List.getElem?_set_ne (Ne.symm (other q))]; exact sk.fr.owns n o q
  · rw [List.getElem?_set_ne (Ne.symm (other q1))] at q3
    rw [List.getElem?_set_ne (Ne.symm (other q2))] at q4
    exact sk.fr.dist a b o o' p q1 q2 q3 q4
  · obtain ⟨n, o, q1, q2⟩ := h
    rw [List.getElem?_set_ne (Ne.symm (other q1))] at q2
    exact sk.ow p ⟨n, o, q1, q2⟩
  · rw [List.getElem?_set_ne (Ne.symm (hi q hq))]; exact s.pr q hq
theorem sTryAs {up : Bool} {kn L : List Str} {body : List Stmt} {m : SM} (i j : Nat) {x n fnd cc : Str} {s1 s2 : Str} {np pos pos' p1 p2 q1 q2 q3 q4 q5 r1 r2 : Pos} {u1 u2} (hup : up = true → ∃ W, Wx = some W) (tk : Takes X (wx Wx))
    (hb : ∀ (W : WX) (pn : List (Addr × Obj)) (xe : Value → Shared → Prop), Takes (X.tr pn xe) W → PassesOwn (model X.prog X.w) X.A X.env xe → NSs (X.tr pn xe) CT P (some W) body m)
    (hN : X.N.Nodup) (hi : X.N[i]? = some n) (hj : X.N[j]? = some fnd) (hln : X.env.kindOf n = some .local) (hlj : Loc X.env.scope fnd) (hx : Names X x (.ref (He.ga X.K x)))
    (hm : ∀ y ∈ kn, PySem.W.exmOne X.K (.ref (He.ga X.K y)) (.ref (He.ga X.K x)) = some (decide (y ∈ L))) (hie : ∀ y ∈ L, ieB X.K y cc = true)
    (gI : X.mg "isinstance" = none) (gC : X.mg cc = some (.ref (He.ga X.K cc))) (hgI : Gl X "isinstance") (hgC : Gl X cc) (hiP : i ∈ P → False)
    (hvn : Vis X.env.scope n) (hfj : X.fn fnd = true ∨ X.env.scope.names.lookup fnd = some .local)
    (hd : (n == ("__debug__" : Str)) = false := by decide) (hcd : (n == ("__classdict__" : Str)) = false := by decide) (hdc : (cc == ("__debug__" : Str)) = false := by decide) (hcv : cc ≠ "ValueError" := by decide)
    (he : starEach [.Name n q2, .Name cc q3] X.env = (false, eval (.Name n q2) X.env) :: starEach [.Name cc q3] X.env := by rfl) (he2 : starEach [.Name cc q3] X.env = (false, eval (.Name cc q3) X.env) :: starEach [] X.env := by rfl) (hpl : (backTo q4 (starEach [.Name cc q3] X.env)).any (·.1) = false := by rfl)
    (hsw : swapsWith (.IfExp (.Call (.Name "isinstance" q1) [.Name n q2, .Name cc q3] [] q4) (.Constant (.str s1) u1 r1) (.Constant (.str s2) u2 r2) q5) (some (.Name fnd p1)) p2.line X.env = pure false := by rfl)
    (hs : X.stack = X.env :: X.outer := by rfl) (hf : X.env.frame = some X.env.locals := by rfl) :
    NS X CT P Wx (.Try body [.ExceptHandler (some (.Name x np)) (some n) [.Assign [.Name fnd p1] (.IfExp (.Call (.Name "isinstance" q1) [.Name n q2, .Name cc q3] [] q4) (.Constant (.str s1) u1 r1) (.Constant (.str s2) u2 r2) q5) p2] pos'] [] [] pos) (exTry up kn (exNoF m) [(L, exAs P i j s1)]) := by
  refine ⟨_, ps_try_as (tb := tBody X body) (ts := tSuite X _) hs hf hN hi hln hx tk (fun W pn xe tk po => tBody_ok W pn xe tk po) (fun a oe cls d pn hz hf => tSuite_ok a oe cls d pn hz hf), ?_⟩
  intro e ρ σ F H N hP s h pn xe tk' po
  obtain ⟨ts, p, si⟩ := hb _ pn xe tk' po
  refine ⟨ts, p, si e ρ σ F H N hP s ?_⟩
  unfold exTry at h
  have h := wpo_bind.mp h
  unfold exNoF at h
  refine (wpo_bind.mp h).mono fun a _ h => ?_
  obtain ⟨fl, ρ1⟩ := a
  have hnf : noF fl = true := by
    cases z : noF fl with
    | true => rfl
    | false => simp only [z, Bool.false_eq_true, if_false] at h; exact h.elim
  simp only [hnf, if_true] at h
  replace h : wpo (match fl with
    | .ret (.sv (.val (.dict ((.str y, z) :: l)))) => if y ∈ kn then (match hdOf y [(L, exAs P i j s1)] with
      | some mh => mh ρ1
      | none => if up = true then some (fl, ρ1) else none) else none
    | _ => some (fl, ρ1)) (Post (kx X CT) e Wx N) := h
  cases fl with
  | nx => exact h
  | bk => exact h
  | ct => exact h
  | ret r =>
    refine ⟨fun v σ1 F1 H1 s1 R1 => ?_, fun W' hW y fs er cls d σ1 F1 H1 s1' ex => ?_⟩
    · have hx := rr_noX R1
      try dsimp only at h
      split at h
      · rename_i y z l e1
        cases e1
        cases hx
      · exact h.1 v σ1 F1 H1 s1 R1
    · cases hW
      subst er
      obtain ⟨vs, ecls, rep, hdf⟩ := id ex
      subst ecls
      try dsimp only at h
      split at h
      · rename_i hy
        refine ⟨_, hm y hy, fun hb a na => ?_, fun hb => ?_⟩
        · have hb : y ∈ L := of_decide_eq_true hb
          simp only [hdOf, if_pos hb] at h
          unfold exAs at h
          intro oe pn' hz hoe
          split at h
          · exact h.elim
          · rename_i hij
            obtain ⟨hE, hk⟩ := ieB_ok (hie y hb) hcv
            have hd0 : d = none := by
              rcases hdf with ⟨h1, _⟩ | ⟨dd, hne, _⟩
              · exact h1
              · have hl : (fs.map fun p : Str × D => ((.str p.1 : D), p.2)).isEmpty = true := hnf
                simp only [List.isEmpty_map, List.isEmpty_iff] at hl
                exact absurd hl hne
            subst hd0
            have hl : i < σ1.length := by
              have := s1'.fr.len
              have := Classical.byContradiction fun z => hij (.inr (.inr z))
              omega
            have ij : i ≠ j := fun z => hij (.inr (.inl z))
            refine ⟨_, pss_one (ps_set (X := X.suite a ((a, oe) :: pn')) hN hj hlj (pe_ifExp (pt_val (pe_callB (X := X.suite a ((a, oe) :: pn')) (call_isE hE hz hoe) hgI gI PyProof.Rows.boot_isinstance (pa_cons (pe_var (X := X.suite a ((a, oe) :: pn')) hi hvn hd hcd) (pa_cons (pe_glob (X := X.suite a ((a, oe) :: pn')) (v := .ref (He.ga X.K cc)) hgC gC rfl hdc) pa_nil he2) he) (he := he) (hpl := hpl))) pe_str pe_str) hsw hfj), ?_⟩
            refine ⟨.ref a, by rw [List.getElem?_set_self hl], ?_⟩
            refine ⟨_, .ref (He.ga X.K cc), true, rfl, fun u r => by cases r; rfl, hk, ⟨true, rfl, ?_⟩⟩
            show N.nx (((σ1.set i (some (.ref a))).set j (some (.str s1))).set i none) H1
            rw [set_over ij]
            refine h _ F1 _ ?_
            have s2 := s1'.gone i none (fun q hq z => hiP (z ▸ hP q hq))
            have hjP : j ∉ P := fun z => hij (.inl z)
            exact ⟨s2.fr.setVal (.str s1), s2.tr, fun p z => s2.ow p z.of_setVal, pr_set hP hjP s2.pr⟩
        · have hb : ¬ y ∈ L := of_decide_eq_false hb
          simp only [hdOf, if_neg hb] at h
          split at h
          · rename_i hu
            obtain ⟨W, rfl⟩ := hup hu
            exact h.2 W rfl y fs rfl _ d σ1 F1 H1 s1' ex
          · exact h.elim
      · exact h.elim
end
end Pv
/-! ### defs as values -/
namespace Pv
open PySem PySem.Spec PySem.SeqAt L2
section
variable {X : Cx} {CT : CTab} {W : WX} {x : Str} {p pos : Pos} {e : Expr} {es : List Expr} {mr : AM} {L : List (Str × Nat × CM)}
end
end Pv

/-! PwP: {} as a value; a tuple told from its end. -/
namespace Pv
open PySem PySem.Spec PySem.SeqAt L2 PyProof.Rows
section
variable {prog : Program} {w : World} {A : Around} {E : Value → Shared → Prop} {s : Shared}
end
end Pv

/-! PwQ: what may raise, within an expression that begins with it. -/
namespace Pv
open PySem PySem.Spec PySem.SeqAt L2
def evR (r : Rv) : EM := fun ρ => some (r, ρ)
def evX (M : EM → EM) (me : EM) : EM := fun ρ => (me ρ).bind fun a => if isX a.1 = true then some a else M (evR a.1) a.2
theorem simNoX' {k : Kx} {W : WX} {te : TE} {me : EM} (he : SimEX k W te me) : SimE k te (evNoX me) := by
  intro F ρ σ H Q f h
  unfold evNoX at h
  refine he F ρ σ H _ f ((wpo_bind.mp h).mono fun a _ h => ?_)
  have h : wpo (if isX a.1 = true then none else some a) _ := h
  split at h
  · exact h.elim
  · rename_i hx
    exact ⟨h, fun y fs e => absurd (by rw [e]; rfl) hx⟩
theorem simX {k : Kx} {W : WX} {T : TE → TE} {M : EM → EM} {te : TE} {me : EM} (he : SimEX k W te me) (hT : ∀ me0, SimE k te me0 → SimE k (T te) (M me0)) (hx : ∀ σ H Q, ∃ R, te σ H R → T te σ H Q)
    (hM : ∀ (me0 : EM) (ρ : Rho) (a : Rv × Rho), me0 ρ = some a → M me0 ρ = M (evR a.1) a.2) : SimEX k W (T te) (evX M me) := by
  intro F ρ σ H Q f h
  unfold evX at h
  cases e : me ρ with
  | none => rw [e] at h; exact h.elim
  | some a =>
    rw [e, Option.bind_some] at h
    by_cases z : isX a.1 = true
    · rw [if_pos z] at h
      obtain ⟨R, hR⟩ := hx σ H Q
      refine hR (he F ρ σ H R f ?_)
      rw [e]
      exact ⟨fun v F' H' A rr => absurd (z.symm.trans (rr_noX rr)) (by decide), h.2⟩
    · rw [if_neg z] at h
      refine hT _ (simNoX' he) F ρ σ H Q f ?_
      have e2 : evNoX me ρ = some a := by simp only [evNoX, e, Option.bind_some, if_neg z]
      rw [hM _ _ _ e2]
      exact h.mono fun _ _ x => x.1
section
variable {X : Cx} {CT : CTab} {W : WX} {a b c e : Expr} {es : List Expr} {ma mb me : EM} {mt : TM} {mr : AM} {pos p : Pos} {x : Str} {f : Addr} {io : Bool} {np j : Nat} {cm : CM}
end
section
variable {X : Cx} {W : WX} {a : Expr} {ma : EM} {pos : Pos}
theorem nPropX {cs : ClsT} (ex : exK cs X.K = true) (hc : clsB cs = true) (c : Int) {q : ClE} {f fld : Str} (hr : Room 2 X.A) (ha : NX X (ctOf cs X.K) W a ma) (e : clAt cs c = some q := by rfl) (hz : (f, fld) ∈ q.pr := by decide) (hb : attributeBase a f X.env (eval a X.env) = eval a X.env := by rfl) : NX X (ctOf cs X.K) W (.Attribute a f pos) (evX (fun m => evUn (propD (fnsOf cs) c fld) m) ma) := by
  obtain ⟨_, pa, sa⟩ := ha
  obtain ⟨h1, h2, h3⟩ := exK_prop ex e hz
  obtain ⟨p, g, oc, od, fd, osl, h4, h5, h6⟩ := propB_ok h3
  obtain ⟨F, B⟩ := getter_ok (P := X.prog) (w := X.w) (mg := X.mg) (base := X.base) (k := 0) h5 h6 h1 h2
  refine ⟨_, pe_prop pa h1 h4 F hr B .nil pass0 hb, ?_⟩
  refine simX (T := fun te => tProp _ (getSp _ _) [] _ te) sa (fun me0 h0 => simProp (k := kx X (ctOf cs X.K)) (exK_fld ex hc) (ns := q.2) (by simp only [kx, ctOf, e]; rfl) h0) (fun σ H Q => ⟨_, id⟩) fun me0 ρ a h => ?_
  simp only [evUn, evR, h, Option.bind_some]
end
end Pv

/-! PwR: for .. in l[-1], a dict; l[i], l[j] = a, b. -/
namespace Pv
open PySem PySem.Spec PySem.SeqAt L2
/-! ### l[i], l[j] = a, b -/
section
variable {X : Cx} {CT : CTab} {P : List Nat} {Wx : Option WX} {a b e : Expr} {m1 m2 me : EM}
end
/-! ### for .. in l[-1], a dict -/
section
variable {X : Cx} {CT : CTab} {P ts : List Nat} {tg : Expr} {body : List Stmt} {mg : GM} {mb : SM} {x : Str}
end
end Pv

/-! PwS: a tuple that the program names, handed on as a value: its name; a walk over such. -/
namespace Pv
open PySem PySem.Spec PySem.SeqAt L2
section
variable {X : Cx} {CT : CTab} {tg it : Expr} {me : EM}
end
end Pv

/-! PwT: {} != a tuple. -/
namespace Pv
open PySem PySem.Spec PySem.SeqAt L2
open AutoSeq1 (wpAny_loadPart')
open MeetsSeq MeetsSeq2 MeetsSeq3
end Pv

/-! PwU: l.pop(i). -/
namespace Pv
open PySem PySem.Spec PySem.SeqAt L2
def fPopAt : List D → List D → Option (D × List D)
  | xs, [.int i] => if (decide (0 ≤ i) && Nat.ble i.toNat 4611686018427387904) = true then (xs[i.toNat]?).bind fun d => some (d, xs.eraseIdx i.toNat) else none
  | _, _ => none
theorem RepL.erase' {k : Kx} {F : Hp} : ∀ {ws : List V} {xs : List D} (n : Nat), RepL k F ws xs → RepL k F (ws.eraseIdx n) (xs.eraseIdx n)
  | _, _, _, .nil => by simpa using RepL.nil
  | _, _, 0, .cons a b => by simpa using b
  | _, _, n + 1, .cons a b => by simpa using RepL.cons a (RepL.erase' n b)
theorem simPopAt {k : Kx} : MutSim k rPopAt fPopAt := by
  intro F H p ws xs vs ds Q sb hp rw_ rv h
  unfold fPopAt at h
  split at h
  · rename_i i
    cases rv with
    | cons a b =>
      cases b
      cases a
      split at h
      · rename_i hi
        simp only [Bool.and_eq_true, decide_eq_true_eq, Nat.ble_eq] at hi
        have h := wpo_bind.mp h
        cases e : xs[i.toNat]? with
        | none => rw [e] at h; exact h.elim
        | some d =>
          rw [e] at h
          obtain ⟨v, h1, h2⟩ := rw_.get e
          have hl : i.toNat < ws.length := (List.getElem?_eq_some_iff.mp h1).1
          refine ⟨p, ws, i, i.toNat, v, rfl, rfl, hp, by omega, by omega, ?_, h1, h v _ h2 (rw_.erase' _)⟩
          have e1 : ¬ i < 0 := by omega
          have e2 : 0 ≤ i ∧ i < (ws.length : Int) := ⟨hi.1, by omega⟩
          simp only [seqIndex?, e1, if_false]
          first | exact if_pos e2 | simp [e2]
      · exact h.elim
  · exact h.elim
section
variable {X : Cx} {CT : CTab} {e : Expr} {mr : AM} {p pos : Pos}
theorem nPopAt (i : Nat) {x : Str} {apos : Pos} (ho : PE X (.Name x p) (tVar i)) (ha : NA X CT [e] mr) (hbase : attributeBase (.Name x p) "pop" X.env (eval (.Name x p) X.env) = eval (.Name x p) X.env := by rfl)
    (hfew : ((backTo pos (starEach [e] X.env)).all (fun x => !x.1) && (backToKw pos (keywordEach [] X.env)).all (fun x => x.1.isSome) && decide ([e].length + ([] : List Keyword).length + (if ([] : List Keyword).isEmpty then 0 else 1) < 30)) = true := by rfl)
    (hline : (apos.endLine == pos.line) = true := by rfl) (hs : starEach [e] X.env = (false, eval e X.env) :: starEach [] X.env := by rfl) (hpl : (backTo pos (starEach [] X.env)).any (·.1) = false := by rfl) : NE X CT (.Call (.Attribute (.Name x p) "pop" apos) [e] [] pos) (evMut fPopAt i mr) := by
  obtain ⟨_, pa, sa⟩ := ha
  exact ⟨_, pe_bm PySem.F.plainAttrs_list PySem.F.slot_list_pop PySem.F.type_list_pop mt_popAt ho pa hbase hfew hline hs hpl, simMut (k := kx X CT) simPopAt sa⟩
end
end Pv

/-! PwW: l.remove(x), items of any depth. -/
namespace Pv
open PySem PySem.Spec PySem.SeqAt L2
section
variable {X : Cx} {CT : CTab} {e : Expr} {mr : AM} {p pos : Pos}
end
end Pv

/-! PwX: a loop over a list that stays its owner's. -/
namespace Pv
open PySem PySem.Spec PySem.SeqAt L2
section
variable {X : Cx} {CT : CTab} {P ts : List Nat} {tg : Expr} {body : List Stmt} {mg : GM} {m : SM} {x : Str} {pos p : Pos}
end
end Pv

/-! PwZ: an own exception's __init__: super().__init__(x); self.f = x. -/
namespace Pv
open PySem PySem.Spec PySem.SeqAt L2 PyProof.Rows
structure SupI (P : Program) (K : PySem.W.Frag) (C fI : Addr) (x fld : Str) (name qual : Str) (params : Arguments) (body : List Stmt) (scope : Scope) (fd : FuncData) : Prop where
  ex : ∃ (oc : Value) (od : Option Addr) (osl : Array (Option Value)) (dV kV doc pm ct : Value) (an : Option Addr) (cda cc : Addr), fd = PySem.W.fnX name qual params body scope [("__class__", cc)] dV kV doc pm an (.ref cda) ct ∧
    K.lookup fI = some ⟨oc, od, .func fd, osl⟩ ∧ PySem.W.codeIn K (.ref cda) qual = true ∧
    (∃ ccl cdd vs ccs file tf, K.lookup cda = some ⟨ccl, cdd, .fields vs, ccs⟩ ∧ vs[2]? = some (.str file tf) ∧ ((P.main.file : Str) == file) = true) ∧ ∃ cl cld csl, K.lookup cc = some ⟨cl, cld, .cell (some (.ref C)), csl⟩
  cd : ∃ cdD, PySem.W.clsIn K C = some cdD ∧ PySem.W.ks_superIn K C C "__init__" = some (some (.builtin "ValueError.__init__"))
  mro : PySem.W.mroIn K C (.ref C) = some true
  ve : PySem.W.subIn K (.ref C) (.type "ValueError") = some true
  no : PySem.W.nsIn K cStatics "thirdparty.any" = some none
  T : OexC K C
  fl : PySem.W.findIn K (.ref C) fld = some none
  top : (P.main.scope.names.lookup ("super" : Str)).isSome = false
structure SupSc (x : Str) (params : Arguments) (scope : Scope) : Prop where
  sup : scope.names.lookup ("super" : Str) = some .globalImplicit
  cls : scope.names.lookup ("__class__" : Str) = some .free
  slf : scope.names.lookup ("self" : Str) = some .local
  arg : scope.names.lookup x = some .local
  kind : scope.kind = .function
  co : scope.isCoroutine = false
  gen : scope.isGenerator = false
  cell : ∀ y ∈ scope.names, y.2 ≠ .cell
  free : ∀ y, scope.names.lookup y = some .free → y = "__class__"
  hd : ∃ ar, (params.posonlyargs ++ params.args).head? = some ar ∧ ar.arg = "self"
  ne : x ≠ "self"
structure SupE (x fld qual : Str) (scope : Scope) (pl : Sem Bool) (p0 p1 p2 p3 p4 p5 p6 p7 p8 p9 : Pos) : Prop where
  ia : ∀ (L f : Addr) (cd : Value) (cl : List (Str × Addr)), interactive (PySem.W.envX qual scope L f cd cl) = false
  s1 : ∀ (L f : Addr) (cd : Value) (cl : List (Str × Addr)), swapsWith (.Call (.Attribute (.Call (.Name "super" p0) [] [] p1) "__init__" p2) [.Name x p3] [] p4) none p5.line (PySem.W.envX qual scope L f cd cl) = pure false
  ev : ∀ (L f : Addr) (cd : Value) (cl : List (Str × Addr)), eval (.Call (.Attribute (.Call (.Name "super" p0) [] [] p1) "__init__" p2) [.Name x p3] [] p4) (PySem.W.envX qual scope L f cd cl) = (do
      let ov ← attributeBase (.Call (.Name "super" p0) [] [] p1) "__init__" (PySem.W.envX qual scope L f cd cl) (eval (.Call (.Name "super" p0) [] [] p1) (PySem.W.envX qual scope L f cd cl))
      standAt p2.atName
      let (f', first) ← holding [ov] (getMethod ov "__init__" pl)
      callWith p4 f' first (backTo p4 (starEach [.Name x p3] (PySem.W.envX qual scope L f cd cl))) [])
  st : ∀ (L f : Addr) (cd : Value) (cl : List (Str × Addr)), starEach [.Name x p3] (PySem.W.envX qual scope L f cd cl) = (false, eval (.Name x p3) (PySem.W.envX qual scope L f cd cl)) :: starEach [] (PySem.W.envX qual scope L f cd cl)
  s2 : ∀ (L f : Addr) (cd : Value) (cl : List (Str × Addr)), swapsWith (.Name x p8) (some (.Attribute (.Name "self" p6) fld p7)) p9.line (PySem.W.envX qual scope L f cd cl) = pure false
end Pv

namespace Pv
open PySem PySem.Spec PySem.SeqAt L2 PyProof.Rows
def oexB (K : PySem.W.Frag) (C : Addr) : Bool := match K.lookup C with
  | some ⟨.type ty, dd, .cls ⟨nm, bs, mro, ns, qn, hd, sn, sub, ab, col, del⟩, sl⟩ => (match mro, sl with
    | .ref C' :: bm, ⟨[_, _, _, _, some (.builtin n), _]⟩ => decide (C' = C) && (decide (ty = "type") && (decide (n = "ValueError.__new__") && (hd && (!del && PySem.HandSPX.refsVE bm))))
    | _, _ => false)
  | _ => false
class PF (P : Program) (file : outParam Str) : Prop where
  fl : P.main.file = file
  sup : (P.main.scope.names.lookup ("super" : Str)).isSome = false
def cdFile (K : PySem.W.Frag) (cda : Addr) (file : Str) : Bool := match K.lookup cda with
  | some ⟨_, _, .fields vs, _⟩ => (match (vs[2]? : Option Value) with
    | some (.str fl _) => decide (fl = file)
    | _ => false)
  | _ => false
def cellIs (K : PySem.W.Frag) (cc C : Addr) : Bool := match K.lookup cc with
  | some ⟨_, _, .cell (some (.ref C')), _⟩ => decide (C' = C)
  | _ => false
def supFB (K : PySem.W.Frag) (C : Addr) (file fld : Str) : FuncData → Bool
  | ⟨_, qn, ⟨[], [⟨a0, _, _⟩, ⟨a1, _, _⟩], none, [], [], none, []⟩, .stmts [.Expr (.Call (.Attribute (.Call (.Name sn p0) [] [] p1) ini p2) [.Name x1 p3] [] p4) p5, .Assign [.Attribute (.Name sl p6) f' p7] (.Name x2 p8) p9], sc, gl, [(cn, cc)], .none, _, _, _, _, .ref cda, _, bi⟩ =>
    decide (a0 = "self") && (decide (sn = "super") && (decide (ini = "__init__") && (decide (x1 = a1) && (decide (x2 = a1) && (decide (sl = "self") && (decide (f' = fld) && (decide (cn = "__class__") && (decide (gl = mainGlobals) && (decide (bi = builtinsNs) && (PySem.W.codeIn K (.ref cda) qn && (decide (p4.line = p2.endLine) &&
    (decide (sc.kind = .function) && (decide (sc.isCoroutine = false) && (decide (sc.isGenerator = false) && (decide (sc.names.lookup ("super" : Str) = some .globalImplicit) && (decide (sc.names.lookup ("__class__" : Str) = some .free) && (decide (sc.names.lookup ("self" : Str) = some .local) && (decide (sc.names.lookup a1 = some .local) &&
    ((sc.names.all fun y => decide (y.2 ≠ .cell)) && ((sc.names.all fun y => decide (y.2 = .free → y.1 = "__class__")) && (decide (a1 ≠ "self") && (decide (a1 ≠ "__debug__") && (decide (a1 ≠ "__classdict__") && (decide (a1 = "index" ∨ a1 = "most") &&
    (cdFile K cda file && cellIs K cc C)))))))))))))))))))))))))
  | _ => false
def supCB (K : PySem.W.Frag) (C : Addr) (fld : Str) : Bool :=
  oexB K C && (He.eqO (PySem.W.findIn K (.ref C) "__setattr__") (some (some (.builtin "object.__setattr__"))) && (decide (PySem.W.subIn K (.ref C) (.type "BaseException") = some true) && (decide (PySem.W.typeIn K (.ref C) = some (.type "type")) && (PySem.W.keepIn K (.ref C) &&
  ((PySem.W.clsIn K C).isSome && (He.eqO (PySem.W.ks_superIn K C C "__init__") (some (some (.builtin "ValueError.__init__"))) && (decide (PySem.W.mroIn K C (.ref C) = some true) && (decide (PySem.W.subIn K (.ref C) (.type "ValueError") = some true) && (He.eqO (PySem.W.nsIn K cStatics "thirdparty.any") (some none) && He.eqO (PySem.W.findIn K (.ref C) fld) (some none))))))))))
structure SupC (K : PySem.W.Frag) (C : Addr) (fld : Str) : Prop where
  T : OexC K C
  cd : ∃ cdD, PySem.W.clsIn K C = some cdD ∧ PySem.W.ks_superIn K C C "__init__" = some (some (.builtin "ValueError.__init__"))
  mro : PySem.W.mroIn K C (.ref C) = some true
  ve : PySem.W.subIn K (.ref C) (.type "ValueError") = some true
  no : PySem.W.nsIn K cStatics "thirdparty.any" = some none
  fl : PySem.W.findIn K (.ref C) fld = some none
def supB (K : PySem.W.Frag) (file x fld : Str) : Bool := (supCB K (He.ga K x) fld && xfB K (He.ga K x)) && (match PySem.W.findIn K (.ref (He.ga K x)) "__init__" with
  | some (some (.ref fI)) => decide (PySem.W.typeIn K (.ref fI) = some (.type "function")) && (match K.lookup fI with
    | some ⟨_, _, .func fd, _⟩ => supFB K (He.ga K x) file fld fd
    | _ => false)
  | _ => false)
structure PX (P : Program) (K : PySem.W.Frag) (file : Str) (l : List (Str × Str)) : Prop where
  pf : PF P file
  sp : (l.all fun z => supB K file z.1 z.2) = true
theorem PX.at_ {P : Program} {K : PySem.W.Frag} {file : Str} {l : List (Str × Str)} (h : PX P K file l) (i : Nat) {x f : Str} (e : l[i]? = some (x, f)) : supB K file x f = true := List.all_eq_true.mp h.sp _ (List.mem_of_getElem? e)
structure FxP (P : Program) (file : Str) (l : List (Str × Str)) (fa : List He.Fa) (fn : List He.DefD) (cs : ClsT) (K : PySem.W.Frag) (mg : Str → Option Value) : Prop extends Fx fa fn cs K mg where
  px : PX P K file l
abbrev exP (cs : ClsT) (file : Str) (l : List (Str × Str)) (K : PySem.W.Frag) : Bool := exK cs K && l.all fun z => supB K file z.1 z.2
theorem FxP.of {P : Program} {file : Str} {l : List (Str × Str)} {fa : List He.Fa} {fn : List He.DefD} {cs : ClsT} {K : PySem.W.Frag} {mg : Str → Option Value} {w : World} {h : Heap} (X : K.In h) (G : h.Ns mainGlobals mg) (pf : PF P file) (c : He.SaysX fa fn [] [] (exP cs file l) w h K) : FxP P file l fa fn cs K mg :=
  ⟨Fx.of X G ⟨c.t, (He.ba c.more).1, c.hd, c.out, c.empty⟩, pf, (He.ba c.more).2⟩
/-! the hook that tells the interpreter's own statics too -/
section
variable {X : Cx} {CT : CTab} {P : List Nat} {Wx : Option WX} {W : WX}
end
end Pv
namespace PySem.W
open PySem PySem.Spec PySem.Calls PyProof.Rows L2
section
variable {prog : Program} {w : World} {A : Around} {E : Value → Shared → Prop} {s : Shared} {K : Frag} {x D : Addr} {ox : Obj} {od : Option Obj}
end
end PySem.W
namespace Pv
open PySem PySem.Spec PySem.SeqAt L2 PyProof.Rows
section
variable {X : Cx} {CT : CTab} {P : List Nat} {Wx : Option WX} {W : WX}
end
end Pv

/-! PxA: defs that change their last argument. -/
namespace Pv
open PySem PySem.Spec PySem.SeqAt L2
section
variable {k : Kx} {F H : Hp}
end
section
variable {P : Program} {w : World} {K : PySem.W.Frag} {mg : Str → Option Value} {base : Heap} {x qual : Str} {params : Arguments} {body : List Stmt} {scope : Scope} {f : Addr} {fd : FuncData}
end
section
variable {k : Kx} {F : Hp} {ρ : Rho} {σ : L2.St} {H : Hp}
theorem RRs.snoc : ∀ {rs : List Rv} {r : Rv} {H0 : Hp} {vs : List V}, RRs k F ρ σ H H0 (rs ++ [r]) vs → ∃ ws v Hn, vs = ws ++ [v] ∧ RRs k F ρ σ H H0 rs ws ∧ (∀ p, H0 p ≠ none → Hn p ≠ none) ∧ RR k Hn F ρ σ H r v
  | [], r, H0, _, .cons a b c d => by
    cases b
    exact ⟨[], _, H0, rfl, .nil, fun _ h => h, a⟩
  | r0 :: rs, r, H0, _, .cons a b c d => by
    obtain ⟨ws, v, Hn, rfl, h1, h2, h3⟩ := RRs.snoc b
    exact ⟨_ :: ws, v, Hn, rfl, .cons a h1 c d, fun p h => h2 p (c p h), h3⟩
end
section
variable {X : Cx} {CT : CTab} {x : Str} {p pos : Pos} {e : Expr} {es : List Expr} {f : Addr} {np j : Nat} {cm : CM} {mr : AM}
end
/-! a or b of tuples -/
end Pv

/-! PxB: sorted(d), d a dict with tuple keys -/
namespace Pv
open PySem PySem.Spec PySem.SeqAt PySem.Calls PyProof.Rows L2
end Pv
/-! name = {k: v for ..} on one line, the name a local -/
namespace Pv
open PySem PySem.Spec PySem.SeqAt PySem.Calls PyProof.Rows L2
end Pv
namespace Pv
open PySem PySem.Spec PySem.SeqAt L2
end Pv

/-! PxC: items of two lists set at once -/
namespace Pv
open PySem PySem.Spec PySem.SeqAt L2
section
variable {X : Cx} {CT : CTab} {P : List Nat} {Wx : Option WX} {a b e : Expr} {m1 m2 me : EM}
end
end Pv

/-! PxD: sorted(set(list of tuples of ints)), of one length -/
namespace Pv
open PySem PySem.Spec PySem.SeqAt L2
def okT (d : Nat) (ns : List (List Int)) : Bool := decide (ns.length < 64) && ns.all fun n => decide (n.length = d) && n.all fun m => decide (0 ≤ m) && decide (m < 4096)
section
variable {X : Cx} {CT : CTab} {pos p : Pos} {e : Expr} {mr : AM}
end
end Pv

/-! PxE: str(int) -/
namespace Pv
open PySem PySem.Spec PySem.SeqAt L2
end Pv

/-! PxF: C(..) that may raise -/
namespace Pv
open PySem PySem.Spec PySem.SeqAt L2
section
variable {X : Cx} {CX : CXT} {k : Nat} {f C : Addr} {fd : FuncData} {ps : List Str} {sp : Sp} {E : St → XK} {x : Str} {p pos : Pos} {e : Expr} {es : List Expr} {t : TA}
end
end Pv

/-! PxG: the module's run in two parts. -/
namespace Pv
open PySem PySem.Spec PySem.SeqAt L2
end Pv

/-! PxH: == of two instances of one class by its own __eq__. -/
namespace Pv
open PySem PySem.Spec PySem.SeqAt L2
def rEqOwn (X : Cx) (n : Nat) : R2 := fun x y H Q => ∃ a b C dx dy fs gs f fd ps sp, x = .ref a ∧ y = .ref b ∧ H a = some (.ins C dx fs) ∧ H b = some (.ins C dy gs) ∧ PySem.W.findIn X.K (.ref C) "__eq__" = some (some (.ref f)) ∧ PySem.W.isFn X.K (.ref f) = true ∧
  FnOk X.prog X.w X.K X.mg X.base CX0 n f fd ps sp ∧ Binds X.K fd ps [] ∧ sp [.ref a, .ref b] H (fun z H' => ∃ r, z = .bl r ∧ Q z H') E0
theorem op_eqOwn {X : Cx} {n : Nat} (hr : Room n X.A) : OpR X (compareOp .Eq) (rEqOwn X n) := by
  intro pins s σ H x y v u Q I rx ry hq
  obtain ⟨a, b, C, dx, dy, fs, gs, f, fd, ps, sp, rfl, rfl, ha, hb', hs, hf, F, hb, q⟩ := hq
  cases rx
  cases ry
  show wpAny (model X.prog X.w) X.A (richCompare .Eq (.ref a) (.ref b)) (EP X pins σ Q) X.xe s
  obtain ⟨mA, J, _⟩ := ins_get I.hok ha
  obtain ⟨mB, J', _⟩ := ins_get I.hok hb'
  obtain ⟨od, J, _⟩ := J.look
  obtain ⟨od', J', _⟩ := J'.look
  obtain ⟨m, hF⟩ := I.fr
  refine PySem.W.cmp_K (op := .Eq) (tb := .ref C) hr.units0 hF I.ok.mod.kin J J'.type (by simp [PySem.W.notFirst]) hs hf ?_
  refine wpAny_mono (run_below (us := [.ref a, .ref b]) (ws := [.ref a, .ref b]) F hb hr I.env0 pass0 I (.cons rfl (.cons rfl .nil)) q) (fun w s' z => ?_) fun _ _ x => x
  obtain ⟨z', H', I', rz, r, ez, qz⟩ := z
  subst ez
  cases rz
  exact ⟨.bl r, H', I', rfl, qz⟩
def eqTail (em : Int → Option (Nat × CM)) (da db : D) (ρ : Rho) : Option (Rv × Rho) := match da, db with
  | .dict [(.none, .int c), (.none, .tuple fs)], .dict [(.none, .int c'), (.none, .tuple gs)] => if c = c' then (em c).bind fun m => if m.1 = 2 then (m.2 [.val (objD c fs), .val (objD c' gs)]).bind fun x => (match x.1 with
      | .val (.bool r) => some (.sv (.val (.bool r)), ρ)
      | _ => none) else none else none
  | _, _ => none
def evEqO (em : Int → Option (Nat × CM)) (ma mb : EM) : EM := fun ρ => (ma ρ).bind fun a => (frz1 a.2 a.1).bind fun a' => (mb a'.2).bind fun b => (frz1 b.2 b.1).bind fun b' => eqTail em a'.1 b'.1 b'.2
theorem eqTail_some {em : Int → Option (Nat × CM)} {da db : D} {ρ : Rho} {q : Rv × Rho} (h : eqTail em da db ρ = some q) : ∃ c fs gs cm r o, da = objD c fs ∧ db = objD c gs ∧ em c = some (2, cm) ∧ cm [.val da, .val db] = some (.val (.bool r), o) ∧ q = (.sv (.val (.bool r)), ρ) := by
  unfold eqTail at h
  split at h
  · split at h
    · rename_i c fs c' gs ec
      subst ec
      cases e3 : em c with
      | none => rw [e3] at h; cases h
      | some m =>
        obtain ⟨np, cm⟩ := m
        rw [e3] at h
        dsimp only [Option.bind_some] at h
        split at h
        · rename_i en
          subst en
          cases e4 : cm [.val (objD c fs), .val (objD c gs)] with
          | none => rw [e4] at h; cases h
          | some x =>
            obtain ⟨x1, x2⟩ := x
            rw [e4] at h
            dsimp only [Option.bind_some] at h
            cases x1 with
            | own o => cases h
            | val dv =>
              cases dv with
              | bool r => cases h; exact ⟨c, fs, gs, cm, r, x2, rfl, rfl, e3, e4, rfl⟩
              | _ => cases h
        · cases h
    · cases h
  · cases h
def EqOk (k : Kx) (X : Cx) (n : Nat) (em : Int → Option (Nat × CM)) : Prop := ∀ c np cm C ns, em c = some (np, cm) → k.CT c = some (C, ns) → ∃ g fd ps io, PySem.W.findIn X.K (.ref C) "__eq__" = some (some (.ref g)) ∧ PySem.W.isFn X.K (.ref g) = true ∧ Binds X.K fd ps [] ∧
  FnOk X.prog X.w X.K X.mg X.base CX0 n g fd ps (spF k io np cm)
theorem simEqO {k : Kx} {X : Cx} {n : Nat} {em : Int → Option (Nat × CM)} (ok : EqOk k X n em) {ta tb : TE} {ma mb : EM} (ha : SimE k ta ma) (hb : SimE k tb mb) : SimE k (tOp (rEqOwn X n) ta tb) (evEqO em ma mb) := by
  intro F ρ σ H Q f h
  unfold evEqO at h
  refine ha F ρ σ H _ f ((wpo_bind.mp h).mono fun a _ h => ?_)
  intro v F1 H1 A1 R1
  have h := wpo_bind.mp h
  cases e1 : frz1 a.2 a.1 with
  | none => rw [e1] at h; exact h.elim
  | some a' =>
    rw [e1] at h
    obtain ⟨da, ρa⟩ := a'
    obtain ⟨F2, A2, _, r2, _⟩ := frz1_ok f A1 R1 e1
    refine hb F2 ρa σ H1 _ A2.fr ((wpo_bind.mp h).mono fun b _ h => ?_)
    intro u F3 H3 A3 R3
    have h := wpo_bind.mp h
    cases e2 : frz1 b.2 b.1 with
    | none => rw [e2] at h; exact h.elim
    | some b' =>
      rw [e2] at h
      obtain ⟨db, ρb⟩ := b'
      obtain ⟨F4, A4, s34, r4, _⟩ := frz1_ok A2.fr A3 R3 e2
      have r2' : Rep k F4 v da := r2.mono (A4.tr.sub)
      replace h : wpo (eqTail em da db ρb) _ := h
      cases et : eqTail em da db ρb with
      | none => rw [et] at h; exact h.elim
      | some q =>
        rw [et] at h
        obtain ⟨c, fs, gs, cm, r, o, rfl, rfl, e3, e4, rfl⟩ := eqTail_some et
        obtain ⟨p, dx, C, ns, vs, rfl, q1, q2, _⟩ := RdR.obj A4.fr.sub (.inl r2' : RdR k F4 H3 v (objD c fs))
        obtain ⟨p', dx', C', ns', vs', rfl, q1', q2', _⟩ := RdR.obj A4.fr.sub (.inl r4 : RdR k F4 H3 u (objD c gs))
        rw [q1] at q1'
        cases q1'
        obtain ⟨g, fd, ps, io, o1, o2, o3, o4⟩ := ok c 2 cm C ns e3 q1
        refine ⟨p, p', C, dx, dx', _, _, g, fd, ps, _, rfl, rfl, q2, q2', o1, o2, o4, o3, ?_⟩
        refine ⟨F4, [.val (objD c fs), .val (objD c gs)], A4.fr.sub, .cons r2' (.cons r4 .nil (fun o z => nomatch z)) (fun o z => nomatch z), rfl, ?_⟩
        rw [e4]
        intro w F' H' sb tr rr ot
        clear ot
        have hw : w = .bl r := by cases rr; rfl
        refine ⟨r, hw, ?_⟩
        rw [hw]
        refine h _ F' H' ((A2.trans A4).call0 sb tr fun p ⟨j, o, z, _⟩ => ?_) (.bl r)
        match j, z with
        | 0, z => simp at z
        | 1, z => simp at z
        | j + 2, z => simp at z
end Pv

/-! PxI: dict comprehensions whose keys are ints. -/
namespace Pv
open PySem PySem.Spec PySem.SeqAt L2
abbrev KD := List (List Int) × List D
structure CID (k : Kx) (e : Ent) (ρ0 ρ : Rho) (σ : L2.St) (F H : Hp) (T : Addr) (acc : List V) (a : KD) : Prop where
  s : SInv k e ρ σ F H
  ow : ∀ p, Own ρ σ p → Own ρ0 σ p
  sl : ∀ (i : Nat) (x : SV), ρ0[i]? = some (some x) → ∃ x', ρ[i]? = some (some x')
  hT : H T = some (.dK ((a.1.map iKey).zip acc))
  fT : F T = none
  one : ∀ y ∈ a.1, y.length = 1
  len : a.1.length = acc.length
  r : RepL k F acc a.2
theorem CID.aft {k : Kx} {e : Ent} {ρ0 ρ ρ' : Rho} {σ : L2.St} {F H F' H' : Hp} {T : Addr} {acc : List V} {a : KD} (c : CID k e ρ0 ρ σ F H T acc a) (nO : ¬ Own ρ0 σ T) (A : Aft k ρ σ F H ρ' F' H') : CID k e ρ0 ρ' σ F' H' T acc a :=
  ⟨c.s.aft A, fun p z => c.ow p (A.ow p z), fun i x q => let ⟨x', q'⟩ := c.sl i x q; A.sl i x' q', A.tr.keep T _ c.hT fun z => nO (c.ow T z), A.tr.new T _ c.hT trivial c.fT fun z => nO (c.ow T z), c.one, c.len, c.r.mono A.tr.sub⟩
section
variable {X : Cx} {CT : CTab} {ts : List Nat} {tg it ke vx : Expr} {mi : IM} {mg : GM} {mt : TM} {mk mv : EM} {pos : Pos}
end
end Pv

/-! PxJ: dict(l) of a list of pairs; what raises, indexed or cut. -/
namespace Pv
open PySem PySem.Spec PySem.SeqAt PyProof.Rows L2
def srtZ (l : List Int) : List Int := l.mergeSort fun a b => decide (a ≤ b)
theorem srtZ_perm (l : List Int) : (srtZ l).Perm l := List.mergeSort_perm l _
theorem srtZ_asc (l : List Int) : (srtZ l).Pairwise (· ≤ ·) := (List.pairwise_mergeSort (le := fun a b : Int => decide (a ≤ b)) (fun a b c h1 h2 => by simp at *; omega) (fun a b => by simp; omega) l).imp fun h => by simpa using h
/-! len(set(xs)), xs a list of ints -/
section
variable {X : Cx} {CT : CTab} {a : Expr} {ma : EM} {p p2 q pos : Pos}
end
section
variable {X : Cx} {CT : CTab} {W : WX} {a b : Expr} {ma mb : EM} {pos : Pos}
end
end Pv
namespace Pv
open PySem PySem.Spec PySem.SeqAt L2
section
variable {X : Cx} {CT : CTab} {ts : List Nat} {tg : Expr} {mg : GM} {mt : TM} {me : EM} {pos p : Pos} {x : Str} {e : Expr} {P : List Nat} {Wx : Option WX}
end
end Pv

/-! PxK: a + b where both may raise; (raising,). -/
namespace Pv
open PySem PySem.Spec PySem.SeqAt L2
section
variable {X : Cx} {CT : CTab} {W : WX} {a b : Expr} {ma mb : EM} {pos : Pos}
end
section
variable {X : Cx} {CT : CTab} {P : List Nat} {Wx : Option WX}
end
end Pv

/-! Tv1: typed readings of the pure functions: encoders, judgments, expressions. -/
namespace Tv
open PySem Pv
abbrev PT (α : Type) := (α → Prop) → Prop
abbrev eI : Int → D := PyData.int
abbrev eB : Bool → D := PyData.bool
abbrev eS : Str → D := PyData.str
def eU : Unit → D := fun _ => .none
def eT {α : Type} (e : α → D) (l : List α) : D := .tuple (l.map e)
def eL {α : Type} (e : α → D) (l : List α) : D := .list (l.map e)
def eP {α β : Type} (e : α → D) (f : β → D) (p : α × β) : D := .tuple [e p.1, f p.2]
def eQ {α β γ : Type} (e : α → D) (f : β → D) (g : γ → D) (p : α × β × γ) : D := .tuple [e p.1, f p.2.1, g p.2.2]
def eO {α : Type} (e : α → D) : Option α → D
  | none => .none
  | some a => e a
abbrev vV {α : Type} (e : α → D) : α → SV := fun a => .val (e a)
abbrev vL {α : Type} (e : α → D) : List α → SV := fun l => .own (.lst (l.map e))

section
variable {ω X Y α β γ δ σ : Type} {R R1 R2 R3 : ω → Rho}
def W (m : Rho → Option (X × Rho)) (R : ω → Rho) (k : α → X) (T : PT α) (R' : ω → Rho) : Prop := ∀ w Q, T Q → ∃ a w', Q a ∧ m (R w) = some (k a, R' w')
abbrev WE (m : EM) (R : ω → Rho) (k : α → Rv) (T : PT α) (R' : ω → Rho) : Prop := W m R k T R'
abbrev ret (x : α) : PT α := fun Q => Q x

/-! names, constants -/
theorem wVar (i : Nat) (e : α → D) (x : α) (h : ∀ w, (R w)[i]? = some (some (.val (e x))) := by intro _; rfl) : WE (evVar i) R (fun a => .sv (.val (e a))) (fun Q => Q x) R := fun w Q q => ⟨x, w, q, by simp only [evVar, h w]⟩
theorem wPlc (i : Nat) (o : OB) (h : ∀ w, (R w)[i]? = some (some (.own o)) := by intro _; rfl) : WE (evVar i) R (fun _ : Unit => .plc i) (fun Q => Q ()) R := fun w Q q => ⟨(), w, q, by simp only [evVar, h w]⟩
theorem wC (e : α → D) (x : α) : WE (evC (e x)) R (fun a => .sv (.val (e a))) (fun Q => Q x) R := fun w Q q => ⟨x, w, q, rfl⟩
theorem wInt (x : Int) : WE (evC (.int x)) R (fun a => .sv (.val (eI a))) (fun Q => Q x) R := wC eI x
theorem wBl (x : Bool) : WE (evC (.bool x)) R (fun a => .sv (.val (eB a))) (fun Q => Q x) R := wC eB x
theorem wStr (x : Str) : WE (evC (.str x)) R (fun a => .sv (.val (eS a))) (fun Q => Q x) R := wC eS x
theorem wNon : WE (evC .none) R (fun a => .sv (.val (eU a))) (fun Q => Q ()) R := wC eU ()
/-! operators -/
def Op1 (g : D → Option SV) (x : D) (s : γ → SV) (T : PT γ) : Prop := ∀ Q, T Q → ∃ c, Q c ∧ g x = some (s c)
def Op2 (g : D → D → Option SV) (x y : D) (s : γ → SV) (T : PT γ) : Prop := ∀ Q, T Q → ∃ c, Q c ∧ g x y = some (s c)
def OpN (g : List D → Option SV) (xs : List D) (s : γ → SV) (T : PT γ) : Prop := ∀ Q, T Q → ∃ c, Q c ∧ g xs = some (s c)
variable {ma mb mc : EM} {ra : α → Rv} {rb : β → Rv} {rc : γ → Rv} {Ta : PT α} {Tb : PT β} {Tc : PT γ}
theorem wBin {g : D → D → Option SV} {s : γ → SV} {d1 : α → D} {d2 : β → D} {top : α → β → PT γ} (ha : WE ma R ra Ta R1) (hb : WE mb R1 rb Tb R2) (ho : ∀ a b, Op2 g (d1 a) (d2 b) s (top a b)) (h1 : ∀ w a, rdD (R2 w) (ra a) = some (d1 a) := by intro _ _; rfl) (h2 : ∀ w b, rdD (R2 w) (rb b) = some (d2 b) := by intro _ _; rfl) :
    WE (evBin g ma mb) R (fun c => .sv (s c)) (fun Q => Ta fun a => Tb fun b => top a b Q) R2 := fun w Q q => by
  obtain ⟨a, w1, q1, e1⟩ := ha w _ q
  obtain ⟨b, w2, q2, e2⟩ := hb w1 _ q1
  obtain ⟨c, q3, e3⟩ := ho a b _ q2
  exact ⟨c, w2, q3, by simp only [evBin, e1, e2, h1, h2, e3, Option.bind_some]⟩
theorem wUn {g : D → Option SV} {s : γ → SV} {d1 : α → D} {top : α → PT γ} (ha : WE ma R ra Ta R1) (ho : ∀ a, Op1 g (d1 a) s (top a)) (h1 : ∀ w a, rdD (R1 w) (ra a) = some (d1 a) := by intro _ _; rfl) : WE (evUn g ma) R (fun c => .sv (s c)) (fun Q => Ta fun a => top a Q) R1 := fun w Q q => by
  obtain ⟨a, w1, q1, e1⟩ := ha w _ q
  obtain ⟨c, q3, e3⟩ := ho a _ q1
  exact ⟨c, w1, q3, by simp only [evUn, e1, h1, e3, Option.bind_some]⟩
/-! arguments -/
variable {mr : AM} {rr : β → List Rv} {Tr : PT β}
theorem wNil : W evNil R (fun _ : Unit => ([] : List Rv)) (fun Q => Q ()) R := fun w Q q => ⟨(), w, q, rfl⟩
theorem wCons (ha : WE ma R ra Ta R1) (hr : W mr R1 rr Tr R2) : W (evCons ma mr) R (fun p : α × β => ra p.1 :: rr p.2) (fun Q => Ta fun a => Tr fun b => Q (a, b)) R2 := fun w Q q => by
  obtain ⟨a, w1, q1, e1⟩ := ha w _ q
  obtain ⟨b, w2, q2, e2⟩ := hr w1 _ q1
  exact ⟨(a, b), w2, q2, by simp only [evCons, e1, e2, Option.bind_some]⟩
variable {ms : AM} {rs : α → List Rv} {Ts : PT α}
theorem wCall {g : List D → Option SV} {s : γ → SV} {ds : α → List D} {top : α → PT γ} (ha : W ms R rs Ts R1) (ho : ∀ a, OpN g (ds a) s (top a)) (h1 : ∀ w a, rdAll (R1 w) (rs a) = some (ds a) := by intro _ _; rfl) :
    WE (evCall g ms) R (fun c => .sv (s c)) (fun Q => Ts fun a => top a Q) R1 := fun w Q q => by
  obtain ⟨a, w1, q1, e1⟩ := ha w _ q
  obtain ⟨c, q3, e3⟩ := ho a _ q1
  exact ⟨c, w1, q3, by simp only [evCall, e1, h1, e3, Option.bind_some]⟩
theorem wTup {e : γ → D} {f : α → γ} {ds : α → List D} (ha : W ms R rs Ts R1) (he : ∀ a, e (f a) = .tuple (ds a)) (h1 : ∀ w a, frzs (R1 w) (rs a) = some (ds a, R2 w) := by intro _ _; rfl) (hl : ∀ a, (ds a).length ≤ sizeLine := by intro _; (try simp only [List.map_cons, List.map_nil, List.length_cons, List.length_nil]); decide) :
    WE (evTup ms) R (fun c => .sv (.val (e c))) (fun Q => Ts fun a => Q (f a)) R2 := fun w Q q => by
  obtain ⟨a, w1, q1, e1⟩ := ha w _ q
  exact ⟨f a, w1, q1, by simp only [evTup, e1, h1, Option.bind_some, if_pos (hl a), he]⟩
theorem wLst {e : γ → D} {f : α → List γ} {ds : α → List D} (ha : W ms R rs Ts R1) (he : ∀ a, (f a).map e = ds a := by intro _; rfl) (h1 : ∀ w a, frzs (R1 w) (rs a) = some (ds a, R2 w) := by intro _ _; rfl) (hl : ∀ a, (ds a).length ≤ sizeLine := by intro _; (try simp only [List.map_cons, List.map_nil, List.length_cons, List.length_nil]); decide) :
    WE (evLst ms) R (fun c => .sv (.own (.lst (c.map e)))) (fun Q => Ts fun a => Q (f a)) R2 := fun w Q q => by
  obtain ⟨a, w1, q1, e1⟩ := ha w _ q
  exact ⟨f a, w1, q1, by simp only [evLst, e1, h1, Option.bind_some, if_pos (hl a), he]⟩
/-! tests -/
theorem wTb {Tb : PT Bool} (ha : WE ma R (fun a => .sv (.val (eB a))) Tb R1) : W (tvB ma) R (fun b : Bool => b) Tb R1 := fun w Q q => by
  obtain ⟨a, w1, q1, e1⟩ := ha w _ q
  exact ⟨a, w1, q1, by simp [tvB, e1, rdD, toB, SV.d, eB]⟩
theorem wYes : W tvYes R (fun b : Bool => b) (fun Q => Q true) R := fun w Q q => ⟨true, w, q, rfl⟩
variable {mt mu : TM} {Tt Tu : PT Bool}
theorem wTNot (h : W mt R (fun b : Bool => b) Tt R1) : W (tvNot mt) R (fun b : Bool => b) (fun Q => Tt fun b => Q (!b)) R1 := fun w Q q => by
  obtain ⟨a, w1, q1, e1⟩ := h w _ q
  exact ⟨!a, w1, q1, by simp only [tvNot, e1, Option.bind_some]⟩
def andW (Ta Tb : PT Bool) : PT Bool := fun Q => Ta fun a => if a = true then Tb Q else Q false
def orW (Ta Tb : PT Bool) : PT Bool := fun Q => Ta fun a => if a = true then Q true else Tb Q
theorem wTOr (h : W mt R (fun b : Bool => b) Tt R1) (h2 : W mu R1 (fun b : Bool => b) Tu R1) : W (tvOr mt mu) R (fun b : Bool => b) (orW Tt Tu) R1 := fun w Q q => by
  obtain ⟨a, w1, q1, e1⟩ := h w _ q
  cases a with
  | false =>
    rw [if_neg (by decide)] at q1
    obtain ⟨b, w2, q2, e2⟩ := h2 w1 _ q1
    exact ⟨b, w2, q2, by simp only [tvOr, e1, e2, Option.bind_some]; rfl⟩
  | true =>
    rw [if_pos rfl] at q1
    exact ⟨true, w1, q1, by simp only [tvOr, e1, Option.bind_some]; rfl⟩
theorem wAnd {Tu : PT Bool} (h : WE ma R (fun a => .sv (.val (eB a))) Tt R1) (h2 : WE mb R1 (fun a => .sv (.val (eB a))) Tu R1) : WE (evAnd ma mb) R (fun a => .sv (.val (eB a))) (andW Tt Tu) R1 := fun w Q q => by
  obtain ⟨a, w1, q1, e1⟩ := wTb h w _ q
  cases a with
  | true =>
    rw [if_pos rfl] at q1
    obtain ⟨b, w2, q2, e2⟩ := h2 w1 _ q1
    exact ⟨b, w2, q2, by simp only [evAnd, e1, e2, Option.bind_some, if_true]⟩
  | false =>
    rw [if_neg (by decide)] at q1
    exact ⟨false, w1, q1, by simp only [evAnd, e1, Option.bind_some]; rfl⟩
theorem wOr {Tu : PT Bool} (h : WE ma R (fun a => .sv (.val (eB a))) Tt R1) (h2 : WE mb R1 (fun a => .sv (.val (eB a))) Tu R1) : WE (evOr ma mb) R (fun a => .sv (.val (eB a))) (orW Tt Tu) R1 := fun w Q q => by
  obtain ⟨a, w1, q1, e1⟩ := wTb h w _ q
  cases a with
  | false =>
    rw [if_neg (by decide)] at q1
    obtain ⟨b, w2, q2, e2⟩ := h2 w1 _ q1
    exact ⟨b, w2, q2, by simp only [evOr, e1, e2, Option.bind_some]; rfl⟩
  | true =>
    rw [if_pos rfl] at q1
    exact ⟨true, w1, q1, by simp only [evOr, e1, Option.bind_some]; rfl⟩
theorem wNot {Tb : PT Bool} (ha : WE ma R (fun a => .sv (.val (eB a))) Tb R1) : WE (evNot ma) R (fun a => .sv (.val (eB a))) (fun Q => Tb fun a => Q (!a)) R1 := fun w Q q => by
  obtain ⟨a, w1, q1, e1⟩ := wTb ha w (fun b => Q (!b)) q
  exact ⟨!a, w1, q1, by simp only [evNot, e1, Option.bind_some]⟩
theorem wIf {k : γ → Rv} {Ta Tb : PT γ} (h : W mt R (fun b : Bool => b) Tt R1) (ha : WE ma R1 k Ta R2) (hb : WE mb R1 k Tb R2) : WE (evIf mt ma mb) R k (fun Q => Tt fun b => if b = true then Ta Q else Tb Q) R2 := fun w Q q => by
  obtain ⟨a, w1, q1, e1⟩ := h w _ q
  cases a with
  | true =>
    rw [if_pos rfl] at q1
    obtain ⟨b, w2, q2, e2⟩ := ha w1 _ q1
    exact ⟨b, w2, q2, by simp only [evIf, e1, e2, Option.bind_some, if_true]⟩
  | false =>
    rw [if_neg (by decide)] at q1
    obtain ⟨b, w2, q2, e2⟩ := hb w1 _ q1
    exact ⟨b, w2, q2, by simp only [evIf, e1, e2, Option.bind_some]; rfl⟩
/-! the same, the test known -/
theorem wIsi {ts : List TR} {t : TR} {b : Bool} {d1 : α → D} (ha : WE ma R ra Ta R1) (h1 : ∀ w a, rdD (R1 w) (ra a) = some (d1 a) := by intro _ _; rfl) (h2 : ∀ a, tyD (d1 a) = some t := by intro _; rfl) (h3 : isiAny t ts = some b := by decide) : WE (evIsi ts ma) R (fun a => .sv (.val (eB a))) (fun Q => Ta fun _ => Q b) R1 := fun w Q q => by
  obtain ⟨a, w1, q1, e1⟩ := ha w _ q
  exact ⟨b, w1, q1, by simp only [evIsi, e1, h1, h2, h3, Option.bind_some]⟩
theorem wChain {g g' : D → D → Option SV} {d1 : α → D} {d2 : β → D} {d3 : γ → D} {top : α → β → PT Bool} {top' : β → γ → PT Bool} (ha : WE ma R ra Ta R1) (hb : WE mb R1 rb Tb R2) (hc : WE mc R2 rc Tc R2) (ho : ∀ a b, Op2 g (d1 a) (d2 b) (vV eB) (top a b)) (ho' : ∀ b c, Op2 g' (d2 b) (d3 c) (vV eB) (top' b c))
    (h1 : ∀ w a, rdD (R2 w) (ra a) = some (d1 a) := by intro _ _; rfl) (h2 : ∀ w b, rdD (R2 w) (rb b) = some (d2 b) := by intro _ _; rfl) (h3 : ∀ w b, rdD (R2 w) (rc b) = some (d3 b) := by intro _ _; rfl) :
    WE (evChain g g' ma mb mc) R (fun a => .sv (.val (eB a))) (fun Q => Ta fun a => Tb fun b => top a b fun t => if t = true then Tc fun c => top' b c Q else Q false) R2 := fun w Q q => by
  obtain ⟨a, w1, q1, e1⟩ := ha w _ q
  obtain ⟨b, w2, q2, e2⟩ := hb w1 _ q1
  obtain ⟨t, q3, e3⟩ := ho a b _ q2
  cases t with
  | true =>
    rw [if_pos rfl] at q3
    obtain ⟨c, w3, q4, e4⟩ := hc w2 _ q3
    obtain ⟨u, q5, e5⟩ := ho' b c _ q4
    exact ⟨u, w3, q5, by simp [evChain, e1, e2, h1, h2, e3, e4, h3, e5, SV.d, toB, eB]⟩
  | false =>
    rw [if_neg (by decide)] at q3
    exact ⟨false, w2, q3, by simp [evChain, e1, e2, h1, h2, e3, SV.d, toB, eB]⟩
end
end Tv

/-! Tv2: calls, walks, comprehensions, statements, defs. -/
namespace Pv
open PySem PySem.Spec PySem.SeqAt L2
def fz1 (i : Nat) (ρ : Rho) : Rho := match ρ[i]? with
  | some (some (.own o)) => ρ.set i (some (.val o.d))
  | _ => ρ
def fzs : List Nat → Rho → Rho
  | [], ρ => ρ
  | i :: is, ρ => fzs is (fz1 i ρ)
theorem SInv.fz1 {k : Kx} {e : Ent} {ρ : Rho} {σ : L2.St} {F H : Hp} (s : SInv k e ρ σ F H) (i : Nat) : ∃ F', SInv k e (fz1 i ρ) σ F' H := by
  unfold Pv.fz1
  split
  · rename_i o h
    obtain ⟨p, ho, h1, _⟩ := s.fr.owns i o h
    obtain ⟨F1, A1, _⟩ := frz1_ok s.fr (Aft.refl s.fr) (r := .plc i) (v := .ref p) ⟨h1, _, h⟩ (show frz1 ρ (.plc i) = some (o.d, ρ.set i (some (.val o.d))) by simp [frz1, h])
    exact ⟨F1, s.aft A1⟩
  · exact ⟨F, s⟩
theorem SInv.fzs {k : Kx} {e : Ent} {σ : L2.St} {H : Hp} : ∀ (is : List Nat) {ρ : Rho} {F : Hp}, SInv k e ρ σ F H → ∃ F', SInv k e (fzs is ρ) σ F' H
  | [], _, F, s => ⟨F, s⟩
  | i :: is, _, _, s => by
    obtain ⟨F1, s1⟩ := s.fz1 i
    exact SInv.fzs is s1
def pre (p : List Nat × List Nat) (ρ : Rho) : Rho := fzs p.2 (kill p.1 ρ)
def exPre (p : List Nat × List Nat) (m : SM) : SM := fun ρ => m (pre p ρ)
theorem simPre {k : Kx} {P : List Nat} {Wx : Option WX} {t : TS} {m : SM} (p : List Nat × List Nat) (hm : SimS k P Wx t m) : SimS k P Wx t (exPre p m) := fun e ρ σ F H D hP s h => by
  obtain ⟨F', s'⟩ := SInv.fzs p.2 (s.kill p.1)
  exact hm e (pre p ρ) σ F' H D hP s' h
theorem sPre {X : Cx} {CT : CTab} {P : List Nat} {Wx : Option WX} {st : Stmt} {m : SM} (p : List Nat × List Nat) : NS X CT P Wx st m → NS X CT P Wx st (exPre p m) := fun ⟨_, h, s⟩ => ⟨_, h, simPre p s⟩
end Pv
namespace Tv
open PySem Pv
section
variable {ω X Y α β γ δ σ : Type} {R R1 R2 R3 : ω → Rho} {ma mb mc me : EM} {ms : AM} {rs : α → List Rv} {Ts : PT α}
/-! ### defs -/
def endB (io : Bool) (x : Fl × Rho) : Option (SV × SV) := match x.1 with
  | .nx => (out0 io x.2).bind fun o => some (.val .none, o)
  | .ret r => (retS io x.2 r).bind fun b => (out0 io b.2).bind fun o => some (b.1, o)
  | _ => none
def CW (c : CM) (args : List SV) (s : γ → SV) (T : PT γ) : Prop := ∀ Q, T Q → ∃ a o, Q a ∧ c args = some (s a, o)
def CR (c : CM) (row : ω → SV) (args : List SV) (s : γ → SV) (T : PT γ) : Prop := ∀ w Q, T Q → ∃ a w', Q a ∧ c (row w :: args) = some (s a, row w')
theorem wCallV {c : CM} {np : Nat} {s : γ → SV} {ss : α → List SV} {t : α → PT γ} (ha : W ms R rs Ts R1) (hc : ∀ a, CW c (ss a) s (t a)) (hp : ∀ w a, passB (R1 w) (rs a) = some (ss a) := by intro _ _; rfl) (hf : ∀ w a, frAll (R1 w) (rs a) = R1 w := by intro _ _; rfl) (hl : ∀ a, (ss a).length = np := by intro _; rfl) :
    WE (evCallL np c ms) R (fun x => .sv (s x)) (fun Q => Ts fun a => t a Q) R1 := fun w Q q => by
  obtain ⟨a, w1, q1, e1⟩ := ha w _ q
  obtain ⟨x, o, q2, e2⟩ := hc a _ q1
  exact ⟨x, w1, q2, by simp only [evCallL, e1, hp, hf, hl, e2, Option.bind_some, if_true, ite_self]⟩
theorem wCallN {c : CM} {np : Nat} {s : γ → SV} {ss : α → List SV} {t : α → PT γ} (ha : W ms R rs Ts R1) (hc : ∀ a, CW c (ss a) s (t a)) (hn : ∀ x, nlS (s x) = true) (hp : ∀ w a, passB (R1 w) (rs a) = some (ss a) := by intro _ _; rfl) (hl : ∀ a, (ss a).length = np := by intro _; rfl) :
    WE (evCallL np c ms) R (fun x => .sv (s x)) (fun Q => Ts fun a => t a Q) R1 := fun w Q q => by
  obtain ⟨a, w1, q1, e1⟩ := ha w _ q
  obtain ⟨x, o, q2, e2⟩ := hc a _ q1
  exact ⟨x, w1, q2, by simp only [evCallL, e1, hp, hl, hn, e2, Option.bind_some, if_true]⟩
theorem wCallI {c : CM} {np j : Nat} {s : γ → SV} {rs : α → List Rv} {ss : α → List SV} {t : α → PT γ} {row : ω → OB} (ha : W ms R (fun a => Rv.plc j :: rs a) Ts R1) (hc : ∀ a, CR c (fun w => .own (row w)) (ss a) s (t a)) (hj : ∀ w, (R1 w)[j]? = some (some (.own (row w))) := by intro _; rfl) (hq : ∀ a, j ∉ plcs (rs a) := by intro _; simp [plcs])
    (hp : ∀ w a, passB (R1 w) (rs a) = some (ss a) := by intro _ _; rfl) (hf : ∀ w a, frAll (R1 w) (rs a) = R1 w := by intro _ _; rfl) (hl : ∀ a, (ss a).length + 1 = np := by intro _; rfl) (hs : ∀ w w', (R1 w).set j (some (.own (row w'))) = R1 w' := by intro _ _; rfl) :
    WE (evCallI np c ms) R (fun x => .sv (s x)) (fun Q => Ts fun a => t a Q) R1 := fun w Q q => by
  obtain ⟨a, w1, q1, e1⟩ := ha w _ q
  obtain ⟨x, w2, q2, e2⟩ := hc a w1 _ q1
  exact ⟨x, w2, q2, by simp only [evCallI, e1, hj, hq, hp, hf, hl, e2, hs, Option.bind_some, if_true, if_false, ite_self]⟩
/-! ### walks -/
abbrev WI (m : IM) (R : ω → Rho) (e : δ → D) (T : PT (List δ)) (R' : ω → Rho) : Prop := W m R (fun l : List δ => l.map e) T R'
theorem wSeq {ra : α → Rv} {Ta : PT α} {e : δ → D} {l : α → List δ} (ha : WE ma R ra Ta R1) (h1 : ∀ w a, (frz1 (R1 w) (ra a)).bind (fun b => (seqD b.1).bind fun xs => some (xs, b.2)) = some ((l a).map e, R2 w) := by intro _ _; rfl) : WI (ivSeq ma) R e (fun Q => Ta fun a => Q (l a)) R2 := fun w Q q => by
  obtain ⟨a, w1, q1, e1⟩ := ha w _ q
  exact ⟨l a, w1, q1, by simp only [ivSeq, e1, h1, Option.bind_some]⟩
def rangeL (a : Int) (n : Nat) : List Int := (List.range n).map fun (i : Nat) => a + (i : Int)
def rangeW (n : Int) : PT (List Int) := fun Q => big62 n = true ∧ Q (rangeL 0 n.toNat)
def range2W (a b : Int) : PT (List Int) := fun Q => (big62 a = true ∧ big62 b = true) ∧ Q (rangeL a (b - a).toNat)
theorem rngD_map (a : Int) (n : Nat) : rngD a n = (rangeL a n).map eI := by simp [rngD, rangeL]
theorem wRng1 {v : α → Int} (ha : W ms R rs Ts R1) (h1 : ∀ w a, rdAll (R1 w) (rs a) = some [.int (v a)] := by intro _ _; rfl) : WI (ivArgs rng1 ms) R eI (fun Q => Ts fun a => rangeW (v a) Q) R1 := fun w Q q => by
  obtain ⟨a, w1, q1, e1⟩ := ha w _ q
  exact ⟨_, w1, q1.2, by simp only [ivArgs, e1, h1, rng1, q1.1, Option.bind_some, if_true, rngD_map]⟩
theorem wRng2 {v u : α → Int} (ha : W ms R rs Ts R1) (h1 : ∀ w a, rdAll (R1 w) (rs a) = some [.int (v a), .int (u a)] := by intro _ _; rfl) : WI (ivArgs rng2 ms) R eI (fun Q => Ts fun a => range2W (v a) (u a) Q) R1 := fun w Q q => by
  obtain ⟨a, w1, q1, e1⟩ := ha w _ q
  exact ⟨_, w1, q1.2, by simp only [ivArgs, e1, h1, rng2, q1.1.1, q1.1.2, Option.bind_some, Bool.and_self, if_true, rngD_map]⟩
def enumFrom : Nat → List δ → List (Int × δ)
  | _, [] => []
  | n, x :: xs => ((n : Int), x) :: enumFrom (n + 1) xs
def enumL (l : List δ) : List (Int × δ) := enumFrom 0 l
theorem enumFrom_get : ∀ (l : List δ) (n i : Nat), (enumFrom n l)[i]? = l[i]?.map fun x => (((n + i : Nat) : Int), x)
  | [], n, i => by simp [enumFrom]
  | x :: xs, n, 0 => by simp [enumFrom]
  | x :: xs, n, i + 1 => by
    simp only [enumFrom, List.getElem?_cons_succ]
    rw [enumFrom_get xs (n + 1) i, show n + 1 + i = n + (i + 1) by omega]
theorem enumL_get (l : List δ) (i : Nat) : (enumL l)[i]? = l[i]?.map fun x => ((i : Int), x) := by
  rw [enumL, enumFrom_get]; simp
theorem enumD_map (e : δ → D) (l : List δ) : enumD (l.map e) = (enumL l).map (eP eI e) := by
  apply List.ext_getElem?
  intro i
  rw [List.getElem?_map, enumL_get]
  by_cases h : i < l.length
  · simp [enumD, h, eP]
  · simp [enumD, h]
theorem wEnum {ra : α → Rv} {Ta : PT α} {e : δ → D} {l : α → List δ} (ha : WE ma R ra Ta R1) (h1 : ∀ w a, (frz1 (R1 w) (ra a)).bind (fun b => (seqD b.1).bind fun xs => some (xs, b.2)) = some ((l a).map e, R2 w) := by intro _ _; rfl) : WI (ivEnum ma) R (eP eI e) (fun Q => Ta fun a => Q (enumL (l a))) R2 := fun w Q q => by
  obtain ⟨a, w1, q1, e1⟩ := ha w _ q
  refine ⟨enumL (l a), w1, q1, ?_⟩
  have h := h1 w1 a
  simp only [Option.bind_eq_some_iff] at h
  obtain ⟨b, h2, xs, h3, h4⟩ := h
  have h5 : xs = (l a).map e ∧ b.2 = R2 w1 := by simpa using h4
  simp only [ivEnum, e1, h2, h3, Option.bind_some, h5.1, h5.2, enumD_map]
/-! ### comprehensions -/
def compG (t : δ → PT Bool) (f : δ → PT γ) : List δ → PT (List γ)
  | [], Q => Q []
  | x :: xs, Q => t x fun b => if b = true then f x fun y => compG t f xs fun ys => Q (y :: ys) else compG t f xs Q
def compW (l : List δ) (t : δ → PT Bool) (f : δ → PT γ) : PT (List γ) := fun Q => l.length ≤ sizeLine ∧ compG t f l Q
def mapG (f : δ → PT γ) : List δ → PT (List γ)
  | [], Q => Q []
  | x :: xs, Q => f x fun y => mapG f xs fun ys => Q (y :: ys)
def mapW (l : List δ) (f : δ → PT γ) : PT (List γ) := fun Q => l.length ≤ sizeLine ∧ mapG f l Q
theorem mapG_eq (f : δ → PT γ) : ∀ (l : List δ), mapG f l = compG (fun _ Q => Q true) f l
  | [] => rfl
  | x :: xs => by
    funext Q
    simp only [mapG, compG, mapG_eq f xs, if_true]
variable {mi : IM} {mg : GM} {mt : TM} {vs : List Nat} {e : δ → D} {e' : γ → D} {Ti : PT (List δ)} {R0 : ω → Rho} {Rb Rc : δ → ω → Rho} {re : δ → β → Rv} {tt : δ → PT Bool} {tb : δ → PT β} {v : δ → β → γ}
theorem comp_go (hg : ∀ w x, mg (e x) (R0 w) = some (Rb x w)) (ht : ∀ x, W mt (Rb x) (fun b : Bool => b) (tt x) (Rb x)) (he : ∀ x, WE me (Rb x) (re x) (tb x) (Rb x)) (hz : ∀ w x b, frz1 (Rb x w) (re x b) = some (e' (v x b), Rc x w)) (hk : ∀ w x, kill vs (Rb x w) = R0 w) (hk2 : ∀ w x, kill vs (Rc x w) = R0 w) :
    ∀ (l : List δ) w Q, compG tt (fun x Q => tb x fun b => Q (v x b)) l Q → ∃ ys w', Q ys ∧ goComp mg mt me vs (l.map e) (R0 w) = some (ys.map e', R0 w')
  | [], w, Q, q => ⟨[], w, q, rfl⟩
  | x :: xs, w, Q, q => by
    obtain ⟨b, w1, q1, e1⟩ := ht x w _ q
    cases b with
    | true =>
      rw [if_pos rfl] at q1
      obtain ⟨y, w2, q2, e2⟩ := he x w1 _ q1
      obtain ⟨ys, w3, q3, e3⟩ := comp_go hg ht he hz hk hk2 xs w2 _ q2
      exact ⟨v x y :: ys, w3, q3, by simp only [List.map_cons, goComp, hg, e1, e2, hz, hk2, e3, Option.bind_some, if_true]⟩
    | false =>
      rw [if_neg (by decide)] at q1
      obtain ⟨ys, w3, q3, e3⟩ := comp_go hg ht he hz hk hk2 xs w1 _ q1
      refine ⟨ys, w3, q3, ?_⟩
      simp only [List.map_cons, goComp, hg, e1, hk, Option.bind_some]
      exact e3
theorem wComp (hi : WI mi R e Ti R1) (ht : ∀ x, W mt (Rb x) (fun b : Bool => b) (tt x) (Rb x)) (he : ∀ x, WE me (Rb x) (re x) (tb x) (Rb x)) (hg : ∀ w x, mg (e x) (R0 w) = some (Rb x w) := by intro _ _; rfl) (hz : ∀ w x b, frz1 (Rb x w) (re x b) = some (e' (v x b), Rc x w) := by intro _ _ _; rfl)
    (h0 : ∀ w, kill vs (R1 w) = R0 w := by intro _; rfl) (hk : ∀ w x, kill vs (Rb x w) = R0 w := by intro _ _; rfl) (hk2 : ∀ w x, kill vs (Rc x w) = R0 w := by intro _ _; rfl) (hr : ∀ w w', restore vs (R1 w) (R0 w') = R1 w' := by intro _ _; rfl) :
    WE (evComp mi mg mt me vs) R (fun l => .sv (.own (.lst (l.map e')))) (fun Q => Ti fun l => compW l tt (fun x Q => tb x fun b => Q (v x b)) Q) R1 := fun w Q q => by
  obtain ⟨l, w1, q1, e1⟩ := hi w _ q
  obtain ⟨ys, w2, q2, e2⟩ := comp_go hg ht he hz hk hk2 l w1 _ q1.2
  exact ⟨ys, w2, q2, by simp only [evComp, e1, List.length_map, if_pos q1.1, h0, e2, hr, Option.bind_some]⟩
theorem wMap (hi : WI mi R e Ti R1) (he : ∀ x, WE me (Rb x) (re x) (tb x) (Rb x)) (hg : ∀ w x, mg (e x) (R0 w) = some (Rb x w) := by intro _ _; rfl) (hz : ∀ w x b, frz1 (Rb x w) (re x b) = some (e' (v x b), Rc x w) := by intro _ _ _; rfl)
    (h0 : ∀ w, kill vs (R1 w) = R0 w := by intro _; rfl) (hk : ∀ w x, kill vs (Rb x w) = R0 w := by intro _ _; rfl) (hk2 : ∀ w x, kill vs (Rc x w) = R0 w := by intro _ _; rfl) (hr : ∀ w w', restore vs (R1 w) (R0 w') = R1 w' := by intro _ _; rfl) :
    WE (evComp mi mg tvYes me vs) R (fun l => .sv (.own (.lst (l.map e')))) (fun Q => Ti fun l => mapW l (fun x Q => tb x fun b => Q (v x b)) Q) R1 := fun w Q q => by
  refine wComp hi (fun x => wYes) he hg hz h0 hk hk2 hr w Q ?_
  have e : (fun l => mapW l (fun x Q => tb x fun b => Q (v x b)) Q) = fun l => compW l (fun x Q => Q true) (fun x Q => tb x fun b => Q (v x b)) Q := by
    funext l; simp only [mapW, compW, mapG_eq]
  show Ti (fun l => compW l (fun x Q => Q true) (fun x Q => tb x fun b => Q (v x b)) Q)
  rw [← e]; exact q
/-! ### slices -/
theorem wSl {ra : α → Rv} {Ta : PT α} {d1 : α → D} {s : γ → SV} {top : α → PT γ} {lo hi : Option Int} (ha : WE ma R ra Ta R1) (ho : ∀ a, Op1 (gSl lo hi) (d1 a) s (top a)) {ml mh : OM} (hl : ∀ w, ml (R1 w) = some (lo, R1 w) := by intro _; rfl) (hh : ∀ w, mh (R1 w) = some (hi, R1 w) := by intro _; rfl) (h1 : ∀ w a, rdD (R1 w) (ra a) = some (d1 a) := by intro _ _; rfl) :
    WE (evSl ma ml mh) R (fun x => .sv (s x)) (fun Q => Ta fun a => top a Q) R1 := fun w Q q => by
  obtain ⟨a, w1, q1, e1⟩ := ha w _ q
  obtain ⟨c, q2, e2⟩ := ho a _ q1
  exact ⟨c, w1, q2, by simp only [evSl, e1, hl, hh, h1, e2, Option.bind_some]⟩
end
/-! ### statements -/
section
variable {ω α β γ δ σ τ : Type} {R R1 R2 R3 : ω → Rho} {ma mb mc me : EM} {ms : AM} {rs : α → List Rv} {Ts : PT α} {ra : α → Rv} {Ta : PT α} {P : List Nat} {i j : Nat} {m n m1 m2 : SM} {mt : TM} {Tt : PT Bool}
def WS (m : SM) (R : ω → Rho) (K : α → ω → Rho) (T : PT α) : Prop := ∀ w Q, T Q → ∃ a w', Q a ∧ m (R w) = some (.nx, K a w')
def WF (io : Bool) (m : SM) (R : ω → Rho) (s : γ → SV) (out : γ → ω → SV) (T : PT γ) : Prop := ∀ w Q, T Q → ∃ a w' r ρ, Q a ∧ m (R w) = some (.ret r, ρ) ∧ endB io (.ret r, ρ) = some (s a, out a w')
def WN (io : Bool) (m : SM) (R : ω → Rho) (s : γ → SV) (out : γ → ω → SV) (T : PT γ) : Prop := ∀ w Q, T Q → ∃ a w' x, Q a ∧ m (R w) = some x ∧ endB io x = some (s a, out a w')
inductive Stp (σ β : Type) where
  | go (s : σ) | stop (s : σ) | ret (b : β)
def WSK (ks : List Nat) (m : SM) (R : ω → Rho) (K : α → ω → Rho) (T : PT α) : Prop := ∀ w Q, T Q → ∃ a w' ρ, Q a ∧ m (R w) = some (.nx, ρ) ∧ kill ks ρ = K a w'

variable {K K1 K2 : α → ω → Rho} {T : PT α}
theorem sAsg {s : α → SV} (h : WE me R (fun a => .sv (s a)) T R1) (hi : i ∉ P := by decide) (hK : ∀ w a, (R1 w).set i (some (s a)) = K a w := by intro _ _; rfl) : WS (exAsg P i me) R K T := fun w Q q => by
  obtain ⟨a, w1, q1, e1⟩ := h w _ q
  exact ⟨a, w1, q1, by simp only [exAsg, e1, stoS, if_neg hi, Option.bind_some, hK]⟩
theorem sExprW (h : WE me R ra T R1) : WS (exExpr me) R (fun _ w => R1 w) T := fun w Q q => by
  obtain ⟨a, w1, q1, e1⟩ := h w _ q
  exact ⟨a, w1, q1, by simp only [exExpr, e1, Option.bind_some]⟩
theorem sParW {is : List Nat} (h : W ms R rs T R1) (hK : ∀ w a, (frzP (R1 w) (rs a)).bind (fun b => parS P is b.1 b.2) = some (K a w) := by intro _ _; rfl) : WS (exPar P is ms) R K T := fun w Q q => by
  obtain ⟨a, w1, q1, e1⟩ := h w _ q
  refine ⟨a, w1, q1, ?_⟩
  have z := hK w1 a
  rw [Option.bind_eq_some_iff] at z
  obtain ⟨b, z1, z2⟩ := z
  simp only [exPar, e1, z1, z2, Option.bind_some]
theorem sMut {f : List D → List D → Option (D × List D)} {e : δ → D} {l : List δ} {ds : α → List D} {top : α → PT (List δ)} {K : List δ → ω → Rho} (h : W ms R rs T R1) (hf : ∀ a Q, top a Q → ∃ l' d, Q l' ∧ f (l.map e) (ds a) = some (d, l'.map e)) (h0 : ∀ w, lstAt (R w) i = some (l.map e) := by intro _; rfl) (h1 : ∀ w a, frzs (R1 w) (rs a) = some (ds a, R2 w) := by intro _ _; rfl)
    (h2 : ∀ w, lstAt (R2 w) i = some (l.map e) := by intro _; rfl) (hK : ∀ w l', (R2 w).set i (some (.own (.lst (l'.map e)))) = K l' w := by intro _ _; rfl) : WS (exExpr (evMut f i ms)) R K (fun Q => T fun a => top a Q) := fun w Q q => by
  obtain ⟨a, w1, q1, e1⟩ := h w _ q
  obtain ⟨l', d, q2, e2⟩ := hf a _ q1
  exact ⟨l', w1, q2, by simp only [exExpr, evMut, h0, e1, h1, h2, e2, hK, Option.bind_some]⟩
def appW (l : List δ) (x : δ) : PT (List δ) := fun Q => l.length < sizeLine ∧ Q (l ++ [x])
theorem f_app {e : δ → D} {l : List δ} (x : δ) (Q : List δ → Prop) (h : appW l x Q) : ∃ l' d, Q l' ∧ fAppend (l.map e) [e x] = some (d, l'.map e) := ⟨_, .none, h.2, by simp only [fAppend, List.length_map, if_pos h.1, List.map_append, List.map_cons, List.map_nil]⟩
theorem sPassW : WS exPass R (fun (_ : Unit) w => R w) (fun Q => Q ()) := fun w Q q => ⟨(), w, q, rfl⟩
theorem sRe {K' : β → ω → Rho} (f : α → β) (h : WS m R K T) (hK : ∀ w a, K a w = K' (f a) w := by intro _ _; rfl) : WS m R K' (fun Q => T fun a => Q (f a)) := fun w Q q => by
  obtain ⟨a, w1, q1, e1⟩ := h w _ q
  exact ⟨f a, w1, q1, by rw [e1, hK]⟩
theorem sReK {ks : List Nat} {K' : β → ω → Rho} (f : α → β) (h : WS m R K T) (hK : ∀ w a, kill ks (K a w) = K' (f a) w := by intro _ _; rfl) : WSK ks m R K' (fun Q => T fun a => Q (f a)) := fun w Q q => by
  obtain ⟨a, w1, q1, e1⟩ := h w _ q
  exact ⟨f a, w1, _, q1, e1, hK w1 a⟩
theorem sKillK {ks : List Nat} (h : WSK ks m R K T) : WS (exKill ks m) R K T := fun w Q q => by
  obtain ⟨a, w1, ρ, q1, e1, e2⟩ := h w _ q
  exact ⟨a, w1, q1, by simp only [exKill, e1, Option.bind_some, e2]⟩
theorem sSeqK {ks : List Nat} {K2 : β → ω → Rho} {T2 : α → PT β} (h : WS m1 R K1 T) (h2 : ∀ a, WSK ks m2 (K1 a) K2 (T2 a)) : WSK ks (exSeq m1 m2) R K2 (fun Q => T fun a => T2 a Q) := fun w Q q => by
  obtain ⟨a, w1, q1, e1⟩ := h w _ q
  obtain ⟨b, w2, ρ, q2, e2, e3⟩ := h2 a w1 _ q1
  exact ⟨b, w2, ρ, q2, by simp only [exSeq, e1, e2, Option.bind_some], e3⟩
theorem sIfW {T' : PT α} (h : W mt R (fun b : Bool => b) Tt R1) (h1 : WS m1 R1 K T) (h2 : WS m2 R1 K T') : WS (exIf mt m1 m2) R K (fun Q => Tt fun b => if b = true then T Q else T' Q) := fun w Q q => by
  obtain ⟨b, w1, q1, e1⟩ := h w _ q
  cases b with
  | true =>
    rw [if_pos rfl] at q1
    obtain ⟨b, w2, q2, e2⟩ := h1 w1 _ q1
    exact ⟨b, w2, q2, by simp only [exIf, e1, e2, Option.bind_some, if_true]⟩
  | false =>
    rw [if_neg (by decide)] at q1
    obtain ⟨b, w2, q2, e2⟩ := h2 w1 _ q1
    exact ⟨b, w2, q2, by simp only [exIf, e1, e2, Option.bind_some]; rfl⟩
theorem sIfBad (h : W mt R (fun b : Bool => b) Tt R1) (h2 : WS m2 R1 K T) : WS (exIf mt exBad m2) R K (fun Q => Tt fun b => b = false ∧ T Q) := fun w Q q => by
  obtain ⟨b, w1, q1, e1⟩ := h w _ q
  obtain ⟨hb, q1⟩ := q1
  obtain ⟨c, w2, q2, e2⟩ := h2 w1 _ q1
  exact ⟨c, w2, q2, by simp only [exIf, e1, hb, Option.bind_some]; exact e2⟩
theorem sIfFalse (h : W mt R (fun b : Bool => b) (fun Q => Q false) R1) (h1 : WS m2 R1 K T) : WS (exIf mt m1 m2) R K T := fun w Q q => by
  obtain ⟨b, w1, q1, e1⟩ := h w (fun b => b = false) rfl
  obtain ⟨c, w2, q2, e2⟩ := h1 w1 _ q
  exact ⟨c, w2, q2, by simp only [exIf, e1, q1, Option.bind_some]; exact e2⟩
/-! ### loops -/
def forW (f : δ → σ → PT σ) : List δ → σ → PT σ
  | [], s, Q => Q s
  | x :: xs, s, Q => f x s fun s' => forW f xs s' Q
variable {mi : IM} {mg : GM} {e : δ → D} {Ti : PT (List δ)} {K0 : σ → ω → Rho} {Kb : δ → σ → ω → Rho} {s0 : σ} {f : δ → σ → PT σ} {fr : δ → σ → PT (Stp σ γ)} {io : Bool} {s : γ → SV} {out : γ → ω → SV} {kp : List Nat × List Nat}
theorem for_go (hb : ∀ x s, WS m (Kb x s) K0 (f x s)) (hg : ∀ w x s, mg (e x) (K0 s w) = some (Kb x s w)) : ∀ (l : List δ) (s : σ) w Q, forW f l s Q → ∃ s' w', Q s' ∧ goFor mg m (l.map e) (K0 s w) = some (.nx, K0 s' w')
  | [], s, w, Q, q => ⟨s, w, q, rfl⟩
  | x :: xs, s, w, Q, q => by
    obtain ⟨a, w1, q1, e1⟩ := hb x s w _ q
    obtain ⟨s', w2, q2, e2⟩ := for_go hb hg xs a w1 _ q1
    exact ⟨s', w2, q2, by simp only [List.map_cons, goFor, hg, e1, e2, Option.bind_some]⟩
theorem sForW (s0 : σ) (hi : WI mi R1 e Ti R2) (hb : ∀ x s, WS m (Kb x s) K0 (f x s)) (h0 : ∀ w, R2 w = K0 s0 w := by intro _; rfl) (hg : ∀ w x s, mg (e x) (K0 s w) = some (Kb x s w) := by intro _ _ _; rfl) (hp : ∀ w, pre kp (R w) = R1 w := by intro _; rfl) :
    WS (exPre kp (exFor mi mg m)) R K0 (fun Q => Ti fun l => forW f l s0 Q) := fun w Q q => by
  obtain ⟨l, w1, q1, e1⟩ := hi w _ q
  obtain ⟨s', w2, q2, e2⟩ := for_go hb hg l s0 w1 _ q1
  exact ⟨s', w2, q2, by simp only [exPre, hp, exFor, e1, h0, e2, Option.bind_some]⟩
variable {tc : σ → PT Bool} {fw : σ → PT (Stp σ γ)} {Kc : σ → ω → Rho}
/-! ### ends of defs -/
variable {Tf Tg : PT γ}
theorem fRet {v : α → γ} (h : WE me R ra T R1) (he : ∀ w a, endB io (.ret (ra a), R1 w) = some (s (v a), out (v a) w) := by intro _ _; rfl) : WF io (exRet me) R s out (fun Q => T fun a => Q (v a)) := fun w Q q => by
  obtain ⟨a, w1, q1, e1⟩ := h w _ q
  exact ⟨v a, w1, _, _, q1, by simp only [exRet, e1, Option.bind_some], he w1 a⟩
theorem fBad : WF io exBad R s out (fun _ => False) := fun w Q q => q.elim
theorem nF (h : WF io m R s out Tf) : WN io m R s out Tf := fun w Q q => by
  obtain ⟨a, w2, r, ρ, q2, e2, ok⟩ := h w _ q
  exact ⟨a, w2, _, q2, e2, ok⟩
theorem nS {v : α → γ} (h : WS m R K T) (he : ∀ w a, endB io (.nx, K a w) = some (s (v a), out (v a) w) := by intro _ _; rfl) : WN io m R s out (fun Q => T fun a => Q (v a)) := fun w Q q => by
  obtain ⟨a, w2, q2, e2⟩ := h w _ q
  exact ⟨v a, w2, _, q2, e2, he w2 a⟩
theorem nSeq {Tf : α → PT γ} (h : WS m1 R K1 T) (h2 : ∀ a, WN io m2 (K1 a) s out (Tf a)) : WN io (exSeq m1 m2) R s out (fun Q => T fun a => Tf a Q) := fun w Q q => by
  obtain ⟨a, w1, q1, e1⟩ := h w _ q
  obtain ⟨b, w2, x, q2, e2, ok⟩ := h2 a w1 _ q1
  exact ⟨b, w2, x, q2, by simp only [exSeq, e1, e2, Option.bind_some], ok⟩
theorem nIfRet {Tf : PT γ} {Tr : α → PT γ} (h : W mt R (fun b : Bool => b) Tt R1) (h1 : WF io m1 R1 s out Tf) (h2 : WS m2 R1 K T) (hr : ∀ a, WN io n (K a) s out (Tr a)) : WN io (exSeq (exIf mt m1 m2) n) R s out (fun Q => Tt fun b => if b = true then Tf Q else T fun a => Tr a Q) := fun w Q q => by
  obtain ⟨b, w1, q1, e1⟩ := h w _ q
  cases b with
  | true =>
    rw [if_pos rfl] at q1
    obtain ⟨a, w2, r, ρ, q2, e2, ok⟩ := h1 w1 _ q1
    exact ⟨a, w2, _, q2, by simp only [exSeq, exIf, e1, e2, Option.bind_some, if_true], ok⟩
  | false =>
    rw [if_neg (by decide)] at q1
    obtain ⟨a, w2, q2, e2⟩ := h2 w1 _ q1
    obtain ⟨b, w3, x, q3, e3, ok⟩ := hr a w2 _ q2
    refine ⟨b, w3, x, q3, ?_, ok⟩
    have e4 : exIf mt m1 m2 (R w) = some (.nx, K a w2) := by simp only [exIf, e1, Option.bind_some]; exact e2
    simp only [exSeq, e4, e3, Option.bind_some]
theorem nIf {Tf Tg : PT γ} (h : W mt R (fun b : Bool => b) Tt R1) (h1 : WN io m1 R1 s out Tf) (h2 : WN io m2 R1 s out Tg) : WN io (exIf mt m1 m2) R s out (fun Q => Tt fun b => if b = true then Tf Q else Tg Q) := fun w Q q => by
  obtain ⟨b, w1, q1, e1⟩ := h w _ q
  cases b with
  | true =>
    rw [if_pos rfl] at q1
    obtain ⟨a, w2, x, q2, e2, ok⟩ := h1 w1 _ q1
    exact ⟨a, w2, x, q2, by simp only [exIf, e1, e2, Option.bind_some, if_true], ok⟩
  | false =>
    rw [if_neg (by decide)] at q1
    obtain ⟨a, w2, x, q2, e2, ok⟩ := h2 w1 _ q1
    exact ⟨a, w2, x, q2, by simp only [exIf, e1, Option.bind_some]; exact e2, ok⟩
/-! ### turns of loops -/
variable {KL : σ → ω → Rho} {Tl Tl' : PT (Stp σ γ)} {esc : Bool} {ks : List Nat}
/-! ### whole defs -/
theorem cwOf {nl : Nat} {args : List SV} (R : Unit → Rho) (h : WN false m R s (fun _ _ => .val .none) Tf) (hR : args.map some ++ List.replicate (nl - args.length) none = R () := by rfl) : CW (runB false nl m) args s Tf := fun Q q => by
  obtain ⟨a, w, x, q1, e1, ok⟩ := h () _ q
  refine ⟨a, .val .none, q1, ?_⟩
  unfold runB
  rw [hR, e1]
  exact ok
def CIn (cm : CM) (c : Int) (args : List SV) (fs : γ → List D) (T : PT γ) : Prop := ∀ Q, T Q → ∃ x, Q x ∧ cm (.own (.ins c []) :: args) = some (.val .none, .own (.ins c (fs x)))
theorem ciOf {nl : Nat} {c : Int} {args : List SV} {fs : γ → List D} (R : Unit → Rho) (h : WN true m R (fun _ => .val .none) (fun a _ => .own (.ins c (fs a))) Tf) (hR : (SV.own (OB.ins c []) :: args).map some ++ List.replicate (nl - (args.length + 1)) none = R () := by rfl) : CIn (runB true nl m) c args fs Tf := fun Q q => by
  obtain ⟨a, w', x, q1, e1, ok⟩ := h () _ q
  refine ⟨a, q1, ?_⟩
  unfold runB
  simp only [List.length_cons] at hR ⊢
  rw [hR, e1]
  exact ok
theorem sFldW {fn : FNs} {f : Str} (h : WE me R ra T R1) (hK : ∀ w a, (frz1 (R1 w) (ra a)).bind (fun b => (insAt b.2 i).bind fun o => (putD (fn o.1) o.2 f b.1).bind fun fs => some (b.2.set i (some (.own (.ins o.1 fs))))) = some (K a w) := by intro _ _; rfl) : WS (exFld fn i f me) R K T := fun w Q q => by
  obtain ⟨a, w1, q1, e1⟩ := h w _ q
  refine ⟨a, w1, q1, ?_⟩
  have z := hK w1 a
  simp only [Option.bind_eq_some_iff] at z
  obtain ⟨b, z1, o, z2, fs, z3, z4⟩ := z
  have z5 : b.2.set i (some (.own (.ins o.1 fs))) = K a w1 := by simpa using z4
  simp only [exFld, e1, z1, z2, z3, z5, Option.bind_some]
theorem crOf {nl : Nat} {args : List SV} {row : ω → OB} (R : ω → Rho) (h : WN true m R s (fun _ w => .own (row w)) Tf) (hR : ∀ w, (SV.own (row w) :: args).map some ++ List.replicate (nl - (args.length + 1)) none = R w := by intro _; rfl) : CR (runB true nl m) (fun w => .own (row w)) args s Tf := fun w Q q => by
  obtain ⟨a, w', x, q1, e1, ok⟩ := h w _ q
  refine ⟨a, w', q1, ?_⟩
  unfold runB
  have z := hR w
  simp only [List.length_cons] at z ⊢
  rw [z, e1]
  exact ok
end
end Tv

/-! Tv3: what encoders are like; the operators at typed values. -/
namespace Tv
open PySem Pv
section
variable {α β γ δ : Type}
class Good [DecidableEq α] (e : α → D) (n : outParam Nat) : Prop where
  plain : ∀ a, (e a).plain = true
  depth : ∀ a, (e a).depth ≤ n
  eqv : ∀ a b, PyData.eqv (e a) (e b) = decide (a = b)
class NN (e : α → D) : Prop where
  nn : ∀ a, e a ≠ .none
class Nl (e : α → D) : Prop where
  nl : ∀ a, Pv.nl (e a) = true
class Ordd (e : α → D) (lt : outParam (α → α → Bool)) : Prop where
  alike : ∀ a b, PySem.W.alike (e a) (e b) = true
  lt : ∀ a b, PySem.W.dataLt (e a) (e b) = lt a b
  nn : ∀ a, e a ≠ .none
abbrev ltI (a b : Int) : Bool := decide (a < b)
def ltLex [DecidableEq α] (lt : α → α → Bool) : List α → List α → Bool
  | [], [] => false
  | [], _ :: _ => true
  | _ :: _, [] => false
  | x :: xs, y :: ys => if x = y then ltLex lt xs ys else lt x y
def ltP [DecidableEq α] [DecidableEq β] (lt : α → α → Bool) (lu : β → β → Bool) (p q : α × β) : Bool := if p.1 = q.1 then (if p.2 = q.2 then false else lu p.2 q.2) else lt p.1 q.1
def ltQ [DecidableEq α] [DecidableEq β] [DecidableEq γ] (lt : α → α → Bool) (lu : β → β → Bool) (lv : γ → γ → Bool) (p q : α × β × γ) : Bool := if p.1 = q.1 then (if p.2.1 = q.2.1 then (if p.2.2 = q.2.2 then false else lv p.2.2 q.2.2) else lu p.2.1 q.2.1) else lt p.1 q.1
instance : Good eI 0 := ⟨fun _ => rfl, fun _ => by simp [PyData.depth], fun a b => by simp [PyData.eqv]; by_cases h : a = b <;> simp [h]⟩
instance : Good eB 0 := ⟨fun _ => rfl, fun _ => by simp [PyData.depth], fun a b => by cases a <;> cases b <;> rfl⟩
instance : Good eS 0 := ⟨fun _ => rfl, fun _ => by simp [PyData.depth], fun a b => by simp [PyData.eqv]; by_cases h : a = b <;> simp [h]⟩
instance : Good eU 0 := ⟨fun _ => rfl, fun _ => by simp [eU, PyData.depth], fun a b => by simp [eU, PyData.eqv]⟩
theorem plainAll_map {e : α → D} (h : ∀ a, (e a).plain = true) : ∀ l : List α, PyData.plainAll (l.map e) = true
  | [] => rfl
  | x :: xs => by simp [PyData.plainAll, h, plainAll_map h xs]
theorem depthAll_map {e : α → D} {n : Nat} (h : ∀ a, (e a).depth ≤ n) : ∀ l : List α, PyData.depthAll (l.map e) ≤ n
  | [] => by simp [PyData.depthAll]
  | x :: xs => by have := depthAll_map h xs; have := h x; simp [PyData.depthAll]; omega
theorem eqvAll_map [DecidableEq α] {e : α → D} (h : ∀ a b, PyData.eqv (e a) (e b) = decide (a = b)) : ∀ l m : List α, PyData.eqvAll (l.map e) (m.map e) = decide (l = m)
  | [], [] => rfl
  | [], _ :: _ => rfl
  | _ :: _, [] => rfl
  | x :: xs, y :: ys => by
    simp only [List.map_cons, PyData.eqvAll, h, eqvAll_map h xs ys]
    by_cases h1 : x = y <;> by_cases h2 : xs = ys <;> simp [h1, h2]
instance [DecidableEq α] {e : α → D} {n : Nat} [g : Good e n] : Good (eT e) (n + 1) := ⟨fun a => by simp [eT, PyData.plain, plainAll_map g.plain], fun a => by have := depthAll_map g.depth a; simp [eT, PyData.depth]; omega, fun a b => by simp only [eT, PyData.eqv, eqvAll_map g.eqv]⟩
instance [DecidableEq α] {e : α → D} {n : Nat} [g : Good e n] : Good (eL e) (n + 1) := ⟨fun a => by simp [eL, PyData.plain, plainAll_map g.plain], fun a => by have := depthAll_map g.depth a; simp [eL, PyData.depth]; omega, fun a b => by simp only [eL, PyData.eqv, eqvAll_map g.eqv]⟩
instance [DecidableEq α] [DecidableEq β] {e : α → D} {f : β → D} {n m : Nat} [g : Good e n] [h : Good f m] : Good (eP e f) (n + m + 1) := ⟨fun a => by simp [eP, PyData.plain, PyData.plainAll, g.plain, h.plain], fun a => by have := g.depth a.1; have := h.depth a.2; simp [eP, PyData.depth, PyData.depthAll]; omega, fun a b => by
  obtain ⟨a1, a2⟩ := a
  obtain ⟨b1, b2⟩ := b
  simp only [eP, PyData.eqv, PyData.eqvAll, g.eqv, h.eqv, Bool.and_true, Prod.mk.injEq, Bool.decide_and]⟩
instance [DecidableEq α] [DecidableEq β] [DecidableEq γ] {e : α → D} {f : β → D} {k : γ → D} {n m o : Nat} [g : Good e n] [h : Good f m] [i : Good k o] : Good (eQ e f k) (n + m + o + 1) := ⟨fun a => by simp [eQ, PyData.plain, PyData.plainAll, g.plain, h.plain, i.plain], fun a => by have := g.depth a.1; have := h.depth a.2.1; have := i.depth a.2.2; simp [eQ, PyData.depth, PyData.depthAll]; omega, fun a b => by
  obtain ⟨a1, a2, a3⟩ := a
  obtain ⟨b1, b2, b3⟩ := b
  simp only [eQ, PyData.eqv, PyData.eqvAll, g.eqv, h.eqv, i.eqv, Bool.and_true, Prod.mk.injEq, Bool.decide_and]⟩
instance : NN eI := ⟨fun _ => by simp⟩
instance : NN eB := ⟨fun _ => by simp⟩
instance : NN eS := ⟨fun _ => by simp⟩
instance {e : α → D} : NN (eT e) := ⟨fun _ => by simp [eT]⟩
instance {e : α → D} : NN (eL e) := ⟨fun _ => by simp [eL]⟩
instance {e : α → D} {f : β → D} : NN (eP e f) := ⟨fun _ => by simp [eP]⟩
instance {e : α → D} {f : β → D} {k : γ → D} : NN (eQ e f k) := ⟨fun _ => by simp [eQ]⟩
theorem eqv_nn {d : D} (h : d ≠ .none) : PyData.eqv .none d = false ∧ PyData.eqv d .none = false := by cases d <;> simp_all [PyData.eqv]
instance [DecidableEq α] {e : α → D} {n : Nat} [g : Good e n] [z : NN e] : Good (eO e) n := ⟨fun a => by cases a with
    | none => rfl
    | some a => exact g.plain a, fun a => by cases a with
    | none => simp [eO, PyData.depth]
    | some a => exact g.depth a, fun a b => by
    cases a with
    | none => cases b with
      | none => rfl
      | some b => simp [eO, (eqv_nn (z.nn b)).1]
    | some a => cases b with
      | none => simp [eO, (eqv_nn (z.nn a)).2]
      | some b => simp [eO, g.eqv]⟩
theorem nlAll_map {e : α → D} (h : ∀ a, Pv.nl (e a) = true) : ∀ l : List α, nlAll (l.map e) = true
  | [] => rfl
  | x :: xs => by simp [nlAll, h, nlAll_map h xs]
instance : Nl eI := ⟨fun _ => rfl⟩
instance : Nl eB := ⟨fun _ => rfl⟩
instance : Nl eS := ⟨fun _ => rfl⟩
instance : Nl eU := ⟨fun _ => rfl⟩
instance {e : α → D} [h : Nl e] : Nl (eT e) := ⟨fun a => by simp [eT, Pv.nl, nlAll_map h.nl]⟩
instance {e : α → D} {f : β → D} [h : Nl e] [i : Nl f] : Nl (eP e f) := ⟨fun a => by simp [eP, Pv.nl, nlAll, h.nl, i.nl]⟩
instance {e : α → D} {f : β → D} {k : γ → D} [h : Nl e] [i : Nl f] [j : Nl k] : Nl (eQ e f k) := ⟨fun a => by simp [eQ, Pv.nl, nlAll, h.nl, i.nl, j.nl]⟩
instance {e : α → D} [h : Nl e] : Nl (eO e) := ⟨fun a => by cases a with
  | none => rfl
  | some a => exact h.nl a⟩
theorem nlV {e : α → D} [h : Nl e] (x : α) : nlS (vV e x) = true := h.nl x
instance : Ordd eI ltI := ⟨fun _ _ => rfl, fun a b => PySem.W.dataLt_int a b, fun _ => by simp⟩
theorem alikeAll_map {e : α → D} (h : ∀ a b, PySem.W.alike (e a) (e b) = true) : ∀ l m : List α, PySem.W.alikeAll (l.map e) (m.map e) = true
  | [], [] => by simp [PySem.W.alikeAll]
  | [], _ :: _ => by simp [PySem.W.alikeAll]
  | _ :: _, [] => by simp [PySem.W.alikeAll]
  | x :: xs, y :: ys => by simp [PySem.W.alikeAll, h, alikeAll_map h xs ys]
theorem rowLt_map [DecidableEq α] {e : α → D} {n : Nat} {lt : α → α → Bool} [g : Good e n] [o : Ordd e lt] : ∀ l m : List α, PySem.W.rowLt (l.map e) (m.map e) = ltLex lt l m
  | [], [] => by unfold PySem.W.rowLt; rw [PyProof.Rows.lex_irrefl]; rfl
  | [], y :: ys => by
    simp only [List.map_nil, List.map_cons, PySem.W.rowLt, PySem.W.keyToksAll, ltLex]
    rw [PyProof.Rows.lexLt]
    simp [PyProof.Rows.itemOrd, PyProof.Rows.itemLt]
  | x :: xs, [] => by
    simp only [List.map_nil, List.map_cons, PySem.W.rowLt, PySem.W.keyToksAll, ltLex]
    rw [PyProof.Rows.lexLt]
    simp [PyProof.Rows.itemOrd, PyProof.Rows.itemLt]
  | x :: xs, y :: ys => by
    have ih := rowLt_map (e := e) (lt := lt) xs ys
    unfold PySem.W.rowLt at ih ⊢
    simp only [List.map_cons]
    rw [PySem.W.dataLt_cons (o.alike x y), ih, g.eqv, o.lt]
    simp [ltLex]
instance [DecidableEq α] {e : α → D} {n : Nat} {lt : α → α → Bool} [g : Good e n] [o : Ordd e lt] : Ordd (eT e) (ltLex lt) := ⟨fun a b => by simp [eT, PySem.W.alike, alikeAll_map o.alike], fun a b => by rw [eT, eT, PySem.W.dataLt_tuple]; exact rowLt_map a b, fun _ => by simp [eT]⟩
instance [DecidableEq α] {e : α → D} {n : Nat} {lt : α → α → Bool} [g : Good e n] [o : Ordd e lt] : Ordd (eL e) (ltLex lt) := ⟨fun a b => by simp [eL, PySem.W.alike, alikeAll_map o.alike], fun a b => by rw [eL, eL, PySem.W.dataLt_list]; exact rowLt_map a b, fun _ => by simp [eL]⟩
instance [DecidableEq α] [DecidableEq β] {e : α → D} {f : β → D} {n m : Nat} {lt : α → α → Bool} {lu : β → β → Bool} [g : Good e n] [o : Ordd e lt] [h : Good f m] [p : Ordd f lu] : Ordd (eP e f) (ltP lt lu) := ⟨fun a b => by simp [eP, PySem.W.alike, PySem.W.alikeAll, o.alike, p.alike], fun a b => by
  rw [eP, eP, PySem.W.dataLt_pair (o.alike _ _) (p.alike _ _), g.eqv, h.eqv, o.lt, p.lt]
  simp [ltP], fun _ => by simp [eP]⟩
instance [DecidableEq α] [DecidableEq β] [DecidableEq γ] {e : α → D} {f : β → D} {k : γ → D} {n m r : Nat} {lt : α → α → Bool} {lu : β → β → Bool} {lv : γ → γ → Bool} [g : Good e n] [o : Ordd e lt] [h : Good f m] [p : Ordd f lu] [i : Good k r] [q : Ordd k lv] : Ordd (eQ e f k) (ltQ lt lu lv) := ⟨fun a b => by simp [eQ, PySem.W.alike, PySem.W.alikeAll, o.alike, p.alike, q.alike], fun a b => by
  rw [eQ, eQ, PySem.W.dataLt_tuple, PySem.W.dataLt_cons (o.alike _ _), PySem.W.dataLt_cons (p.alike _ _), PySem.W.dataLt_cons (q.alike _ _), g.eqv, h.eqv, i.eqv, o.lt, p.lt, q.lt, PyProof.Rows.lex_irrefl]
  simp [ltQ], fun _ => by simp [eQ]⟩
/-! ### comparisons -/
theorem pEq_of [DecidableEq α] {e : α → D} {n : Nat} [g : Good e n] (hn : n ≤ 100) (a b : α) : pEq (e a) (e b) = true := by
  have := g.depth a
  simp only [pEq, g.plain, Bool.true_and, Bool.and_true, decide_eq_true_eq]
  omega
theorem pLt_of [DecidableEq α] {e : α → D} {n : Nat} {lt : α → α → Bool} [g : Good e n] [o : Ordd e lt] (hn : n ≤ 100) (a b : α) : pLt (e a) (e b) = true := by
  have := g.depth a
  have h := o.nn a
  have h2 : (match e a with | .none => false | _ => true) = true := by cases q : e a <;> simp_all
  simp only [pLt, g.plain, o.alike, h2, Bool.true_and, Bool.and_true, decide_eq_true_eq]
  omega
theorem opEq [DecidableEq α] {e : α → D} {n : Nat} [g : Good e n] (a b : α) (hn : n ≤ 100 := by decide) : Op2 gEqD (e a) (e b) (vV eB) (fun Q => Q (decide (a = b))) := fun Q q => ⟨_, q, by simp only [gDat, if_pos (pEq_of hn a b), g.eqv]⟩
theorem opNe [DecidableEq α] {e : α → D} {n : Nat} [g : Good e n] (a b : α) (hn : n ≤ 100 := by decide) : Op2 gNeD (e a) (e b) (vV eB) (fun Q => Q (!decide (a = b))) := fun Q q => ⟨_, q, by simp only [gDat, if_pos (pEq_of hn a b), g.eqv]⟩
theorem opLt [DecidableEq α] {e : α → D} {n : Nat} {lt : α → α → Bool} [g : Good e n] [o : Ordd e lt] (a b : α) (hn : n ≤ 100 := by decide) : Op2 gLtD (e a) (e b) (vV eB) (fun Q => Q (lt a b)) := fun Q q => ⟨_, q, by simp only [gDat, if_pos (pLt_of hn a b), o.lt]⟩
theorem opGt [DecidableEq α] {e : α → D} {n : Nat} {lt : α → α → Bool} [g : Good e n] [o : Ordd e lt] (a b : α) (hn : n ≤ 100 := by decide) : Op2 gGtD (e a) (e b) (vV eB) (fun Q => Q (lt b a)) := fun Q q => ⟨_, q, by simp only [gDat, if_pos (pLt_of hn a b), o.lt]⟩
theorem opLtI (a b : Int) : Op2 gLtD (eI a) (eI b) (vV eB) (fun Q => Q (decide (a < b))) := opLt (e := eI) a b
theorem opGtI (a b : Int) : Op2 gGtD (eI a) (eI b) (vV eB) (fun Q => Q (decide (b < a))) := opGt (e := eI) a b
theorem opLeI (a b : Int) : Op2 gLeD (eI a) (eI b) (vV eB) (fun Q => Q (decide (a ≤ b))) := fun Q q => ⟨_, q, eLe⟩
theorem any_map [DecidableEq α] {e : α → D} {n : Nat} [g : Good e n] (a : α) : ∀ l : List α, (l.map e).any (fun y => PyData.eqv y (e a)) = decide (a ∈ l)
  | [] => by simp
  | x :: xs => by
    simp only [List.map_cons, List.any_cons, any_map a xs, g.eqv, List.mem_cons, Bool.decide_or]
    by_cases h : x = a
    · subst h; simp
    · simp [h, Ne.symm h]
theorem pIn_of [DecidableEq α] {e : α → D} {n : Nat} [g : Good e n] (a : α) (l : List α) (hn : n ≤ 100) : (decide (min (PyData.depthAll (l.map e)) (e a).depth ≤ 100)) = true := by
  have := g.depth a
  simp only [decide_eq_true_eq]; omega
theorem opInT [DecidableEq α] {e : α → D} {n : Nat} [g : Good e n] (a : α) (l : List α) (hn : n ≤ 100 := by decide) : Op2 gInD (e a) (eT e l) (vV eB) (fun Q => Q (decide (a ∈ l))) := fun Q q => ⟨_, q, by
  simp only [gDat, eT, pIn, gIn, g.plain, plainAll_map g.plain, pIn_of a l hn, any_map, Bool.and_self, if_true]⟩
theorem opNotInT [DecidableEq α] {e : α → D} {n : Nat} [g : Good e n] (a : α) (l : List α) (hn : n ≤ 100 := by decide) : Op2 gNotInD (e a) (eT e l) (vV eB) (fun Q => Q (!decide (a ∈ l))) := fun Q q => ⟨_, q, by
  simp only [gDat, eT, pIn, gIn, g.plain, plainAll_map g.plain, pIn_of a l hn, any_map, Bool.and_self, if_true]⟩
end
section
variable {α β γ δ : Type} {e : α → D} {f : β → D} {k : γ → D}
/-! ### arithmetic -/
theorem opAdd (a b : Int) : Op2 gAdd (eI a) (eI b) (vV eI) (fun Q => Q (a + b)) := fun Q q => ⟨_, q, rfl⟩
theorem opSub (a b : Int) : Op2 Pv.gSub (eI a) (eI b) (vV eI) (fun Q => Q (a - b)) := fun Q q => ⟨_, q, rfl⟩
def mulW (a b : Int) : PT Int := fun Q => cMul a b = true ∧ Q (a * b)
theorem opMul (a b : Int) : Op2 gMulI (eI a) (eI b) (vV eI) (mulW a b) := fun Q q => ⟨_, q.2, by simp only [gI2, if_pos q.1]⟩
theorem opNeg (a : Int) : Op1 gNeg (eI a) (vV eI) (fun Q => Q (-a)) := fun Q q => ⟨_, q, rfl⟩
def catW (l m : List α) : PT (List α) := fun Q => l.length + m.length ≤ sizeLine ∧ Q (l ++ m)
theorem opCatL (l m : List α) : Op2 gAdd (eL e l) (eL e m) (vL e) (catW l m) := fun Q q => ⟨_, q.2, by simp only [gAdd, eL, vL, List.length_map, if_pos q.1, List.map_append]⟩
theorem opCatT (l m : List α) : Op2 gAdd (eT e l) (eT e m) (vV (eT e)) (catW l m) := fun Q q => ⟨_, q.2, by simp only [gAdd, eT, vV, List.length_map, if_pos q.1, List.map_append]⟩
def ixW (l : List α) (i : Int) : PT α := fun Q => ∃ x, L2.atI l i = some x ∧ Q x
theorem atI_map (l : List α) (i : Int) {x : α} (h : L2.atI l i = some x) : L2.atI (l.map e) i = some (e x) := by
  unfold L2.atI at h ⊢
  rw [List.length_map]
  cases q : L2.ixN l.length i with
  | none => rw [q] at h; cases h
  | some n =>
    rw [q] at h
    simp only [Option.bind_some, List.getElem?_map] at h ⊢
    rw [h]; rfl
theorem opIxT (l : List α) (i : Int) : Op2 gIx (eT e l) (eI i) (vV e) (ixW l i) := fun Q q => by
  obtain ⟨x, h, q⟩ := q
  exact ⟨x, q, by simp only [gIx, eT, atI_map l i h, Option.map_some]⟩
theorem opIxL (l : List α) (i : Int) : Op2 gIx (eL e l) (eI i) (vV e) (ixW l i) := fun Q q => by
  obtain ⟨x, h, q⟩ := q
  exact ⟨x, q, by simp only [gIx, eL, atI_map l i h, Option.map_some]⟩
theorem opSlL (lo hi : Option Int) (l : List α) : Op1 (gSl lo hi) (eL e l) (vL e) (fun Q => Q (cutL l lo hi)) := fun Q q => ⟨_, q, by simp only [gSl, eL, vL, cutL, List.length_map, List.map_take, List.map_drop]⟩
/-! ### built-in functions -/
theorem opLenT (l : List α) : OpN gLen [eT e l] (vV eI) (fun Q => Q (l.length : Int)) := fun Q q => ⟨_, q, by simp only [gLen, eT, List.length_map]⟩
theorem opLenL (l : List α) : OpN gLen [eL e l] (vV eI) (fun Q => Q (l.length : Int)) := fun Q q => ⟨_, q, by simp only [gLen, eL, List.length_map]⟩
theorem opTupL (l : List α) : OpN gTuple [eL e l] (vV (eT e)) (fun Q => Q l) := fun Q q => ⟨_, q, rfl⟩
theorem ints_map : ∀ l : List Int, intsD (l.map eI) = some l
  | [] => rfl
  | x :: xs => by simp only [List.map_cons, intsD, ints_map xs, Option.map_some]
theorem bools_map : ∀ l : List Bool, boolsD (l.map eB) = some l
  | [] => rfl
  | x :: xs => by simp only [List.map_cons, boolsD, bools_map xs, Option.map_some]
theorem opSum (l : List Int) : OpN gSum [eL eI l] (vV eI) (fun Q => Q l.sum) := fun Q q => ⟨_, q, by simp only [gSum, eL, ints_map, Option.map_some]⟩
theorem opAll (l : List Bool) : OpN gAll [eL eB l] (vV eB) (fun Q => Q (l.all id)) := fun Q q => ⟨_, q, by simp only [gAll, eL, bools_map, Option.map_some]⟩
/-! the greatest, the least -/
def maxB (lt : α → α → Bool) (x : α) (xs : List α) : α := xs.foldl (fun a y => if lt a y = true then y else a) x
def maxW (lt : α → α → Bool) : List α → PT α
  | [], _ => False
  | x :: xs, Q => Q (maxB lt x xs)
theorem maxD_map {lt : α → α → Bool} [o : Ordd e lt] : ∀ (xs : List α) (x : α), PySem.W.maxD (e x) (xs.map e) = e (maxB lt x xs)
  | [], x => rfl
  | y :: ys, x => by
    have ih := fun z => maxD_map (lt := lt) ys z
    simp only [PySem.W.maxD, maxB, List.map_cons, List.foldl_cons, o.lt] at ih ⊢
    split <;> exact ih _
theorem mm_ok [DecidableEq α] {n : Nat} {lt : α → α → Bool} [g : Good e n] [o : Ordd e lt] (hn : n ≤ 100) (l : List α) : (PyData.plainAll (l.map e) && allAlike (l.map e) && decide (PyData.depthAll (l.map e) ≤ 100)) = true := by
  have h1 := depthAll_map g.depth l
  have h2 : allAlike (l.map e) = true := by
    simp only [allAlike, List.all_map, Bool.and_eq_true, List.all_eq_true, Function.comp]
    refine ⟨fun x _ y _ => o.alike x y, fun x _ => ?_⟩
    have h := o.nn x
    cases q : e x <;> simp_all
  simp only [plainAll_map g.plain, h2, Bool.and_self, Bool.true_and, decide_eq_true_eq]
  omega
theorem opMax [DecidableEq α] {n : Nat} {lt : α → α → Bool} [g : Good e n] [o : Ordd e lt] (l : List α) (hn : n ≤ 100 := by decide) : OpN (gMM PySem.W.maxD) [eL e l] (vV e) (maxW lt l) := fun Q q => by
  cases l with
  | nil => exact q.elim
  | cons x xs =>
    refine ⟨_, q, ?_⟩
    have h := mm_ok (e := e) (lt := lt) hn (x :: xs)
    simp only [List.map_cons] at h
    simp only [gMM, eL, List.map_cons, if_pos h, maxD_map (lt := lt)]
/-! sorted -/
def srtOk (e : α → D) (l : List α) : Bool := sortable (l.map e)
def sortB (lt : α → α → Bool) (l : List α) : List α := l.mergeSort fun a b => !lt b a
def sortW (e : α → D) (lt : α → α → Bool) (l : List α) : PT (List α) := fun Q => srtOk e l = true ∧ Q (sortB lt l)
theorem merge_map (r : α → α → Bool) (s : D → D → Bool) (h : ∀ a b, s (e a) (e b) = r a b) (l : List α) : (l.map e).mergeSort s = (l.mergeSort r).map e := by
  rw [List.map_mergeSort fun a _ b _ => (h a b).symm]
theorem opSorted [DecidableEq α] {n : Nat} {lt : α → α → Bool} [g : Good e n] [o : Ordd e lt] (l : List α) (hn : n ≤ 100 := by decide) : OpN gSorted [eL e l] (vL e) (sortW e lt l) := fun Q q => ⟨_, q.2, by
  have h1 := depthAll_map g.depth l
  have h : pSort (l.map e) = true := by
    have h2 : (l.map e).all (fun x => (l.map e).all fun y => PySem.W.alike x y) = true := by
      simp only [List.all_map, List.all_eq_true, Function.comp]
      exact fun x _ y _ => o.alike x y
    have h3 : sortable (l.map e) = true := q.1
    simp only [pSort, plainAll_map g.plain, h2, h3, Bool.and_self, Bool.true_and, decide_eq_true_eq]
    omega
  simp only [gSorted, eL, if_pos h, srtD, sortB]
  rw [merge_map (fun a b => !lt b a) (PySem.W.dataLe false id) fun a b => by rw [PySem.W.dataLe_eq]; simp [o.lt]]⟩
/-! sorted(set(..)) -/
/-! list(range(..)), tuple(range(..)) -/
def rgW (n : Int) : PT (List Int) := fun Q => rgOkB 0 n = true ∧ Q (rangeL 0 n.toNat)
theorem opLRg (a : Int) : Op1 gLRg1 (eI a) (vL eI) (rgW a) := fun Q q => ⟨_, q.2, by simp only [gLRg1, if_pos q.1, rngD_map]⟩
end
end Tv

/-! Tv4: comprehensions of two clauses, sorted by a key; fields, makes, lengths of instances. -/
namespace Tv
open PySem Pv
section
variable {ω α β γ δ ε : Type} {R R1 : ω → Rho}
def compG2 (t : δ → PT Bool) (src : δ → PT (List ε)) (u : δ → ε → PT Bool) (f : δ → ε → PT γ) : List δ → PT (List γ)
  | [], Q => Q []
  | x :: xs, Q => t x fun b => if b = true then src x fun l => compG (u x) (f x) l fun ys => compG2 t src u f xs fun zs => Q (ys ++ zs) else compG2 t src u f xs Q
def comp2W (l : List δ) (t : δ → PT Bool) (src : δ → PT (List ε)) (u : δ → ε → PT Bool) (f : δ → ε → PT γ) : PT (List γ) := fun Q => compG2 t src u f l fun ys => ys.length ≤ sizeLine ∧ Q ys
variable {mi mi1 : IM} {mg mg1 : GM} {mt mt1 : TM} {me : EM} {vs vs1 : List Nat} {e : δ → D} {e1 : ε → D} {e' : γ → D} {Ti : PT (List δ)} {R0 : ω → Rho} {Rb Rb0 : δ → ω → Rho} {Rc Rd : δ → ε → ω → Rho} {re : δ → ε → β → Rv} {tt : δ → PT Bool} {src : δ → PT (List ε)} {tu : δ → ε → PT Bool} {tb : δ → ε → PT β} {v : δ → ε → β → γ}
theorem comp2_go (hg : ∀ w x, mg (e x) (R0 w) = some (Rb x w)) (ht : ∀ x, W mt (Rb x) (fun b : Bool => b) (tt x) (Rb x)) (hs : ∀ x, WI mi1 (Rb x) e1 (src x) (Rb x)) (h01 : ∀ w x, kill vs1 (Rb x w) = Rb0 x w) (hg1 : ∀ w x y, mg1 (e1 y) (Rb0 x w) = some (Rc x y w)) (ht1 : ∀ x y, W mt1 (Rc x y) (fun b : Bool => b) (tu x y) (Rc x y)) (he : ∀ x y, WE me (Rc x y) (re x y) (tb x y) (Rc x y))
    (hz : ∀ w x y b, frz1 (Rc x y w) (re x y b) = some (e' (v x y b), Rd x y w)) (hk1 : ∀ w x y, kill vs1 (Rc x y w) = Rb0 x w) (hk2 : ∀ w x y, kill vs1 (Rd x y w) = Rb0 x w) (hk : ∀ w x, kill vs (Rb x w) = R0 w) (hk0 : ∀ w x, kill vs (Rb0 x w) = R0 w) :
    ∀ (l : List δ) w Q, compG2 tt src tu (fun x y Q => tb x y fun b => Q (v x y b)) l Q → ∃ ys w', Q ys ∧ goComp2 mg mt mi1 mg1 mt1 me vs vs1 (l.map e) (R0 w) = some (ys.map e', R0 w')
  | [], w, Q, q => ⟨[], w, q, rfl⟩
  | x :: xs, w, Q, q => by
    obtain ⟨b, w1, q1, e1'⟩ := ht x w _ q
    cases b with
    | true =>
      rw [if_pos rfl] at q1
      obtain ⟨l, w2, q2, e2⟩ := hs x w1 _ q1
      obtain ⟨ys, w3, q3, e3⟩ := comp_go (hg1 · x ·) (ht1 x) (he x) (hz · x · ·) (hk1 · x ·) (hk2 · x ·) l w2 _ q2
      obtain ⟨zs, w4, q4, e4⟩ := comp2_go hg ht hs h01 hg1 ht1 he hz hk1 hk2 hk hk0 xs w3 _ q3
      exact ⟨ys ++ zs, w4, q4, by simp only [List.map_cons, goComp2, hg, e1', e2, h01, e3, hk0, e4, Option.bind_some, if_true, List.map_append]⟩
    | false =>
      rw [if_neg (by decide)] at q1
      obtain ⟨zs, w4, q4, e4⟩ := comp2_go hg ht hs h01 hg1 ht1 he hz hk1 hk2 hk hk0 xs w1 _ q1
      refine ⟨zs, w4, q4, ?_⟩
      simp only [List.map_cons, goComp2, hg, e1', hk, Option.bind_some]
      exact e4
theorem wComp2 (hi : WI mi R e Ti R1) (ht : ∀ x, W mt (Rb x) (fun b : Bool => b) (tt x) (Rb x)) (hs : ∀ x, WI mi1 (Rb x) e1 (src x) (Rb x)) (ht1 : ∀ x y, W mt1 (Rc x y) (fun b : Bool => b) (tu x y) (Rc x y)) (he : ∀ x y, WE me (Rc x y) (re x y) (tb x y) (Rc x y)) (hg : ∀ w x, mg (e x) (R0 w) = some (Rb x w) := by intro _ _; rfl) (h01 : ∀ w x, kill vs1 (Rb x w) = Rb0 x w := by intro _ _; rfl) (hg1 : ∀ w x y, mg1 (e1 y) (Rb0 x w) = some (Rc x y w) := by intro _ _ _; rfl)
    (hz : ∀ w x y b, frz1 (Rc x y w) (re x y b) = some (e' (v x y b), Rd x y w) := by intro _ _ _ _; rfl) (hk1 : ∀ w x y, kill vs1 (Rc x y w) = Rb0 x w := by intro _ _ _; rfl) (hk2 : ∀ w x y, kill vs1 (Rd x y w) = Rb0 x w := by intro _ _ _; rfl) (hk : ∀ w x, kill vs (Rb x w) = R0 w := by intro _ _; rfl) (hk0 : ∀ w x, kill vs (Rb0 x w) = R0 w := by intro _ _; rfl)
    (h0 : ∀ w, kill vs (R1 w) = R0 w := by intro _; rfl) (hr : ∀ w w', restore vs (R1 w) (R0 w') = R1 w' := by intro _ _; rfl) :
    WE (evComp2 mi mg mt mi1 mg1 mt1 me vs vs1) R (fun l => .sv (.own (.lst (l.map e')))) (fun Q => Ti fun l => comp2W l tt src tu (fun x y Q => tb x y fun b => Q (v x y b)) Q) R1 := fun w Q q => by
  obtain ⟨l, w1, q1, e2⟩ := hi w _ q
  obtain ⟨ys, w2, q2, e3⟩ := comp2_go hg ht hs h01 hg1 ht1 he hz hk1 hk2 hk hk0 l w1 _ q1
  exact ⟨ys, w2, q2.2, by simp only [evComp2, e2, h0, e3, hr, Option.bind_some, List.length_map, if_pos q2.1]⟩
/-! sorted(.., key=) -/
def sortKB (lt : β → β → Bool) (l : List α) (ks : List β) : List α := ((l.zip ks).mergeSort fun a b => !lt b.2 a.2).map (·.1)
def sortKW (ek : β → D) (lt : β → β → Bool) (tk : α → PT β) (l : List α) : PT (List α) := fun Q => mapG tk l fun ks => srtOk ek ks = true ∧ Q (sortKB lt l ks)
theorem keys_map {cm : CM} {e : α → D} {ek : β → D} {tk : α → PT β} (hk : ∀ x, CW cm [.val (e x)] (vV ek) (tk x)) : ∀ (l : List α) (Q : List β → Prop), mapG tk l Q → ∃ ks, Q ks ∧ ks.length = l.length ∧ keysOf cm (l.map e) = some (ks.map ek)
  | [], Q, q => ⟨[], q, rfl, rfl⟩
  | x :: xs, Q, q => by
    obtain ⟨a, o, q1, e1⟩ := hk x _ q
    obtain ⟨ks, q2, hl, e2⟩ := keys_map hk xs _ q1
    exact ⟨a :: ks, q2, by simp [hl], by simp only [List.map_cons, keysOf, e1, e2, Option.bind_some]⟩
theorem opSortK [DecidableEq β] {cm : CM} {e : α → D} {ek : β → D} {n : Nat} {lt : β → β → Bool} [g : Good ek n] [o : Ordd ek lt] {tk : α → PT β} (hk : ∀ x, CW cm [.val (e x)] (vV ek) (tk x)) (l : List α) (hn : n ≤ 100 := by decide) : OpN (gSortK cm) [eL e l] (vL e) (sortKW ek lt tk l) := fun Q q => by
  obtain ⟨ks, ⟨q1, q2⟩, hl, e1⟩ := keys_map hk l _ q
  refine ⟨_, q2, ?_⟩
  have h1 := depthAll_map g.depth ks
  have h : pSort (ks.map ek) = true := by
    have h2 : (ks.map ek).all (fun x => (ks.map ek).all fun y => PySem.W.alike x y) = true := by
      simp only [List.all_map, List.all_eq_true, Function.comp]
      exact fun x _ y _ => o.alike x y
    have h3 : sortable (ks.map ek) = true := q1
    simp only [pSort, plainAll_map g.plain, h2, h3, Bool.and_self, Bool.true_and, decide_eq_true_eq]
    omega
  simp only [gSortK, eL, e1, Option.bind_some, if_pos h, srtK, sortKB]
  have e2 : (l.map e).zip (ks.map ek) = (l.zip ks).map fun p => (e p.1, ek p.2) := by rw [List.zip_map]; rfl
  rw [e2, ← List.map_mergeSort (f := fun p : α × β => (e p.1, ek p.2)) (r := fun a b => !lt b.2 a.2) (s := PySem.W.dataLe false fun b : D × D => b.2) fun a _ b _ => by rw [PySem.W.dataLe_eq]; simp [o.lt]]
  simp [List.map_map, Function.comp]
/-! ### classes -/
variable {ms : AM} {rs : α → List Rv} {Ts : PT α}
theorem wMake {c : Int} {np : Nat} {cm : CM} {ss : α → List SV} {t : α → PT γ} {fs : γ → List D} (ha : W ms R rs Ts R1) (hc : ∀ a, CIn cm c (ss a) fs (t a)) (hp : ∀ w a, passB (R1 w) (rs a) = some (ss a) := by intro _ _; rfl) (hf : ∀ w a, frAll (R1 w) (rs a) = R1 w := by intro _ _; rfl) (hl : ∀ a, (ss a).length + 1 = np := by intro _; rfl) :
    WE (evMake c np cm ms) R (fun x => .sv (.val (objD c (fs x)))) (fun Q => Ts fun a => t a Q) R1 := fun w Q q => by
  obtain ⟨a, w1, q1, e1⟩ := ha w _ q
  obtain ⟨x, q2, e2⟩ := hc a _ q1
  exact ⟨x, w1, q2, by simp only [evMake, e1, hp, hl, e2, hf, Option.bind_some, if_true]⟩
def lenOk (i : Int) : Bool := decide (0 ≤ i) && Nat.ble i.toNat 9223372036854775807
variable {ma : EM} {ra : α → Rv} {Ta : PT α}
theorem wLenO {c : Int} {lm : Int → Option (Nat × CM)} {cm : CM} {fs : α → List D} {t : α → PT Int} (ha : WE ma R ra Ta R1) (hc : ∀ a, CW cm [.val (objD c (fs a))] (vV eI) (t a)) (hm : lm c = some (1, cm) := by rfl) (h1 : ∀ w a, rdD (R1 w) (ra a) = some (objD c (fs a)) := by intro _ _; rfl) (h2 : ∀ w a, frz1 (R1 w) (ra a) = some (objD c (fs a), R1 w) := by intro _ _; rfl) :
    WE (evLen lm ma) R (fun i => .sv (.val (eI i))) (fun Q => Ta fun a => t a fun i => lenOk i = true ∧ Q i) R1 := fun w Q q => by
  obtain ⟨a, w1, q1, e1⟩ := ha w _ q
  obtain ⟨i, o, q2, e2⟩ := hc a _ q1
  have h3 : (decide (0 ≤ i) && Nat.ble i.toNat 9223372036854775807) = true := q2.1
  exact ⟨i, w1, q2.2, by simp only [evLen, e1, h1, h2, hm, e2, Option.bind_some, if_true, if_pos h3]⟩
end
end Tv

/-! Tv5: more of the same: total tests, starred displays, the row of draws. -/
namespace Tv
open PySem Pv
section
variable {ω α β γ δ : Type} {R R1 R2 : ω → Rho} {ma mb mc : EM} {mt mu : TM} {a b : Bool}
def ifW (b : Bool) (Ta Tb : PT α) : PT α := fun Q => if b = true then Ta Q else Tb Q
variable {Tu : PT Bool}
theorem wTOrF (h : W mt R (fun b : Bool => b) (fun Q => Q false) R1) (h2 : W mu R1 (fun b : Bool => b) Tu R1) : W (tvOr mt mu) R (fun b : Bool => b) Tu R1 := fun w Q q => wTOr h h2 w Q (by show if false = true then Q true else Tu Q; rw [if_neg (by decide)]; exact q)
theorem wAndT (h : WE ma R (fun a => .sv (.val (eB a))) (fun Q => Q true) R1) (h2 : WE mb R1 (fun a => .sv (.val (eB a))) Tu R1) : WE (evAnd ma mb) R (fun a => .sv (.val (eB a))) Tu R1 := fun w Q q => wAnd h h2 w Q (by show if true = true then Tu Q else Q false; rw [if_pos rfl]; exact q)
theorem wChain2 {g g' : D → D → Option SV} {ra : α → Rv} {rb : β → Rv} {rc : γ → Rv} {d1 : α → D} {d2 : β → D} {d3 : γ → D} {x : α} {y : β} {z : γ} {p : α → β → Bool} {p' : β → γ → Bool} (ha : WE ma R ra (fun Q => Q x) R1) (hb : WE mb R1 rb (fun Q => Q y) R2) (hc : WE mc R2 rc (fun Q => Q z) R2) (ho : ∀ a b, Op2 g (d1 a) (d2 b) (vV eB) (fun Q => Q (p a b))) (ho' : ∀ b c, Op2 g' (d2 b) (d3 c) (vV eB) (fun Q => Q (p' b c)))
    (h1 : ∀ w a, rdD (R2 w) (ra a) = some (d1 a) := by intro _ _; rfl) (h2 : ∀ w b, rdD (R2 w) (rb b) = some (d2 b) := by intro _ _; rfl) (h3 : ∀ w b, rdD (R2 w) (rc b) = some (d3 b) := by intro _ _; rfl) :
    WE (evChain g g' ma mb mc) R (fun a => .sv (.val (eB a))) (fun Q => Q (p x y && p' y z)) R2 := fun w Q q => by
  refine wChain ha hb hc ho ho' h1 h2 h3 w Q ?_
  show if p x y = true then Q (p' y z) else Q false
  cases e : p x y <;> simp [e] at q ⊢ <;> exact q
/-! displays with stars -/
variable {mr ms : AM} {e : δ → D} {ra : α → Rv} {Ta : PT α} {Td : PT δ} {Tl : PT (List δ)}
abbrev AL (m : AM) (R : ω → Rho) (e : δ → D) (T : PT (List δ)) (R' : ω → Rho) : Prop := W m R (fun l : List δ => l.map fun x => Rv.sv (.val (e x))) T R'
theorem alNil : AL evNil R e (fun Q => Q []) R := fun w Q q => ⟨[], w, q, rfl⟩
theorem alCons (ha : WE ma R (fun a => .sv (.val (e a))) Td R1) (hr : AL mr R1 e Tl R2) : AL (evCons ma mr) R e (fun Q => Td fun a => Tl fun l => Q (a :: l)) R2 := fun w Q q => by
  obtain ⟨a, w1, q1, e1⟩ := ha w _ q
  obtain ⟨l, w2, q2, e2⟩ := hr w1 _ q1
  exact ⟨a :: l, w2, q2, by simp only [evCons, e1, e2, Option.bind_some, List.map_cons]⟩
theorem alStar {d1 : α → List δ} (ha : WE ma R ra Ta R1) (hr : AL mr R1 e Tl R2) (h1 : ∀ w a, (rdD (R1 w) (ra a)).bind seqD = some ((d1 a).map e) := by intro _ _; rfl) : AL (evStar ma mr) R e (fun Q => Ta fun a => Tl fun l => Q (d1 a ++ l)) R2 := fun w Q q => by
  obtain ⟨a, w1, q1, e1⟩ := ha w _ q
  obtain ⟨b, w2, q2, e2⟩ := hr w1 _ q1
  refine ⟨d1 a ++ b, w2, q2, ?_⟩
  have h := h1 w1 a
  rw [Option.bind_eq_some_iff] at h
  obtain ⟨d, h2, h3⟩ := h
  simp only [evStar, e1, e2, h2, h3, Option.bind_some, List.map_map, List.map_append]
  rfl
theorem frzs_vals (ρ : Rho) : ∀ l : List δ, frzs ρ (l.map fun x => Rv.sv (.val (e x))) = some (l.map e, ρ)
  | [] => rfl
  | x :: xs => by simp only [List.map_cons, frzs, frz1, frzs_vals ρ xs, Option.bind_some]
def sizW (l : List δ) : PT (List δ) := fun Q => l.length ≤ sizeLine ∧ Q l
theorem wTupL (h : AL ms R e Tl R1) : WE (evTup ms) R (fun c => .sv (.val (eT e c))) (fun Q => Tl fun l => sizW l Q) R1 := fun w Q q => by
  obtain ⟨l, w1, q1, e1⟩ := h w _ q
  exact ⟨l, w1, q1.2, by simp only [evTup, e1, frzs_vals, Option.bind_some, List.length_map, if_pos q1.1, eT]⟩
end
abbrev retW {α : Type} (x : α) : PT α := fun Q => Q x
section
variable {ω α γ : Type} {R R1 : ω → Rho} {ma : EM} {ra : α → Rv} {Ta : PT α}
end
/-! tests known at once, in a def -/
section
variable {ω α γ : Type} {R R1 : ω → Rho} {mt : TM} {m1 m2 n : SM} {io : Bool} {s : γ → SV} {out : γ → ω → SV} {Tf : PT γ}
end
/-! ### the row of draws -/
def rowD (ns : List Int) (i s b : Int) : List D := [flsD (ns.map .int), .int i, .int s, .int b]
structure RW where
  ns : List Int
  i : Int
  s : Int
  b : Int
  hi : 0 ≤ i
abbrev row (w : RW) : OB := .lst (rowD w.ns w.i w.s w.b)
theorem wPlc0 {R : RW → Rho} (i : Nat) (h : ∀ w, (R w)[i]? = some (some (.own (row w))) := by intro _; rfl) : WE (evVar i) R (fun _ : Unit => .plc i) (fun Q => Q ()) R := fun w Q q => ⟨(), w, q, by simp only [evVar, h w]⟩
theorem flat_ints : ∀ ns : List Int, (ns.map PyData.int).all flat0 = true
  | [] => rfl
  | n :: r => by simp only [List.map_cons, List.all_cons, flat_ints r]; rfl
theorem nlRow (w : RW) : nlS (.own (row w)) = true := by
  simp only [nlS, rowD, nlAll, Pv.nl, flat_ints, Bool.and_self]
theorem wCallIN {α γ : Type} {R R1 : RW → Rho} {ms : AM} {Ts : PT α} {c : CM} {np j : Nat} {s : γ → SV} {rs : α → List Rv} {ss : α → List SV} {t : α → PT γ} (ha : W ms R (fun a => Rv.plc j :: rs a) Ts R1) (hc : ∀ a, CR c (fun w => .own (row w)) (ss a) s (t a)) (hn : ∀ x, nlS (s x) = true) (hj : ∀ w, (R1 w)[j]? = some (some (.own (row w))) := by intro _; rfl) (hq : ∀ a, j ∉ plcs (rs a) := by intro _; simp [plcs])
    (hp : ∀ w a, passB (R1 w) (rs a) = some (ss a) := by intro _ _; rfl) (hl : ∀ a, (ss a).length + 1 = np := by intro _; rfl) (hs : ∀ w w', (R1 w).set j (some (.own (row w'))) = R1 w' := by intro _ _; rfl) :
    WE (evCallI np c ms) R (fun x => .sv (s x)) (fun Q => Ts fun a => t a Q) R1 := fun w Q q => by
  obtain ⟨a, w1, q1, e1⟩ := ha w _ q
  obtain ⟨x, w2, q2, e2⟩ := hc a w1 _ q1
  exact ⟨x, w2, q2, by simp only [evCallI, e1, hj, hq, hp, hl, e2, hn, nlRow, Bool.and_self, hs, Option.bind_some, if_true, if_false]⟩
def takenW (m : Int) : PT Int := fun Q => (0 < m ∧ m < 1000000000) ∧ ∀ r, 0 ≤ r → r < m → Q r
def CR1 (c : CM) (script : List Int) (T : PT Bool) : Prop := ∀ Q, T Q → ∃ a o, Q a ∧ c [.val (flsD (script.map .int))] = some (.val (.bool a), o)
theorem crLaw {nl : Nat} {m : SM} {script : List Int} {s : Bool → SV} {T : PT Bool} (R : RW → Rho) (h : WN false m R s (fun _ _ => .val .none) T) (hs : s = vV eB := by rfl) (hR : ∀ w, [some (.val (flsD (script.map .int)))] ++ List.replicate (nl - 1) none = R w := by intro _; rfl) : CR1 (runB false nl m) script T := fun Q q => by
  obtain ⟨a, w, x, q1, e1, ok⟩ := h ⟨[], 0, 0, 0, by decide⟩ _ q
  refine ⟨a, .val .none, q1, ?_⟩
  unfold runB
  have z := hR ⟨[], 0, 0, 0, by decide⟩
  subst hs
  simp only [List.map_cons, List.map_nil, List.length_cons, List.length_nil] at z ⊢
  rw [z, e1]
  exact ok
theorem sRow {P : List Nat} {j : Nat} {ns : List Int} {s0 : Int} {R : RW → Rho} {K : Unit → RW → Rho} {me : EM} (hm : ∀ w, me (R w) = some (.sv (.own (.lst (rowD ns 0 s0 0))), R w) := by intro _; rfl) (hi : j ∉ P := by decide) (hK : ∀ w w', (R w).set j (some (.own (row w'))) = K () w' := by intro _ _; rfl) :
    WS (exAsg P j me) R K (fun Q => Q ()) := fun w Q q => ⟨(), ⟨ns, 0, s0, 0, by decide⟩, q, by
  simp only [exAsg, hm, Option.bind_some, stoS, if_neg hi]
  rw [← hK w]⟩
end Tv

/-! Tv6: how typed functions are answered. -/
namespace Tv
open PySem Pv
section
variable {α β γ δ ε σ : Type}
theorem size_eq : sizeLine = 16777216 := by decide
/-! ranges, indices, sizes -/
theorem mem_rangeL {a x : Int} {n : Nat} : x ∈ rangeL a n ↔ a ≤ x ∧ x < a + n := by
  simp only [rangeL, List.mem_map, List.mem_range]
  constructor
  · rintro ⟨i, hi, rfl⟩; omega
  · rintro ⟨h1, h2⟩; exact ⟨(x - a).toNat, by omega, by omega⟩
theorem rangeL_len {a : Int} {n : Nat} : (rangeL a n).length = n := by simp [rangeL]
theorem rangeL_get {a : Int} {n i : Nat} (h : i < n) : (rangeL a n)[i]? = some (a + i) := by simp [rangeL, h]
theorem rangeL_get' {a x : Int} {n i : Nat} (h : (rangeL a n)[i]? = some x) : i < n ∧ x = a + i := by
  have hi : i < n := by
    have := (List.getElem?_eq_some_iff.mp h).1
    rwa [rangeL_len] at this
  rw [rangeL_get hi] at h
  exact ⟨hi, by cases h; rfl⟩
theorem rangeL_lt {a : Int} {n : Nat} : (rangeL a n).Pairwise (· < ·) := by
  unfold rangeL
  rw [List.pairwise_map]
  exact List.pairwise_lt_range.imp fun h => by omega
theorem rangeL_zero {a : Int} : rangeL a 0 = [] := rfl
theorem rangeL_succ {a : Int} {n : Nat} : rangeL a (n + 1) = rangeL a n ++ [a + n] := by simp [rangeL, List.range_succ]
theorem big_ok {n : Int} (h1 : -1000000000 ≤ n) (h2 : n ≤ 1000000000) : big62 n = true := Nat.ble_eq_true_of_le (by omega)
theorem rangeW_ok {n : Int} {Q : List Int → Prop} (h1 : -1000000000 ≤ n) (h2 : n ≤ 1000000000) (q : Q (rangeL 0 n.toNat)) : rangeW n Q := ⟨big_ok h1 h2, q⟩
theorem rangeW_nat {n : Nat} {Q : List Int → Prop} (h2 : n ≤ 1000000000) (q : Q (rangeL 0 n)) : rangeW (n : Int) Q := rangeW_ok (by omega) (by omega) (by simpa using q)
theorem range2W_ok {a b : Int} {Q : List Int → Prop} (h1 : -1000000000 ≤ a) (h2 : a ≤ 1000000000) (h3 : -1000000000 ≤ b) (h4 : b ≤ 1000000000) (q : Q (rangeL a (b - a).toNat)) : range2W a b Q := ⟨⟨big_ok h1 h2, big_ok h3 h4⟩, q⟩
theorem rgW_ok {n : Int} {Q : List Int → Prop} (h1 : -1000000000 ≤ n) (h2 : n ≤ 10000000) (q : Q (rangeL 0 n.toNat)) : rgW n Q := ⟨by
  simp only [rgOkB, Bool.and_eq_true]
  refine ⟨⟨big_ok (by decide) (by decide), big_ok h1 (by omega)⟩, Nat.ble_eq_true_of_le (by omega)⟩, q⟩
theorem lenOk_nat (n : Nat) (h : n ≤ 1000000000) : lenOk (n : Int) = true := by
  simp only [lenOk, Bool.and_eq_true, decide_eq_true_eq]
  exact ⟨by omega, Nat.ble_eq_true_of_le (by omega)⟩
theorem atI_at {l : List α} {i : Int} (h0 : 0 ≤ i) {x : α} (h : l[i.toNat]? = some x) : L2.atI l i = some x := by
  have hl := (List.getElem?_eq_some_iff.mp h).1
  unfold L2.atI L2.ixN
  rw [if_pos h0, if_pos (by omega)]
  exact h
theorem ixW_ok {l : List α} {i : Int} {Q : α → Prop} (h0 : 0 ≤ i) {x : α} (h : l[i.toNat]? = some x) (q : Q x) : ixW l i Q := ⟨x, atI_at h0 h, q⟩
theorem catW_ok {l m : List α} {Q : List α → Prop} (h : l.length + m.length ≤ 16777216) (q : Q (l ++ m)) : catW l m Q := ⟨by rw [size_eq]; exact h, q⟩
theorem sizW_ok {l : List α} {Q : List α → Prop} (h : l.length ≤ 16777216) (q : Q l) : sizW l Q := ⟨by rw [size_eq]; exact h, q⟩
theorem appW_ok {l : List α} {x : α} {Q : List α → Prop} (h : l.length < 16777216) (q : Q (l ++ [x])) : appW l x Q := ⟨by rw [size_eq]; exact h, q⟩
theorem mulW_l {a b : Int} {Q : Int → Prop} (h1 : -1000000000 ≤ a) (h2 : a ≤ 1000000000) (q : Q (a * b)) : mulW a b Q := ⟨by
  simp only [cMul, Bool.or_eq_true]; exact .inl (Nat.ble_eq_true_of_le (by omega)), q⟩
theorem takenW_ok {m : Int} {Q : Int → Prop} (h0 : 0 < m) (h1 : m < 1000000) (q : ∀ r, 0 ≤ r → r < m → Q r) : takenW m Q := ⟨⟨h0, by omega⟩, q⟩
theorem ifW_ok {b : Bool} {Ta Tb : PT α} {Q : α → Prop} (h1 : b = true → Ta Q) (h2 : b = false → Tb Q) : ifW b Ta Tb Q := by
  cases b with
  | true => exact h1 rfl
  | false => exact h2 rfl
theorem ifW_inv {b : Bool} {Ta Tb : PT α} {Q : α → Prop} (P : α → Prop) (h1 : b = true → ∀ Q, (∀ a, P a → Q a) → Ta Q) (h2 : b = false → ∀ Q, (∀ a, P a → Q a) → Tb Q) (q : ∀ a, P a → Q a) : ifW b Ta Tb Q := ifW_ok (fun e => h1 e Q q) fun e => h2 e Q q
theorem andW_ok {Ta Tb : PT Bool} (a b : Bool) {Q : Bool → Prop} (ha : ∀ Q, Q a → Ta Q) (hb : a = true → ∀ Q, Q b → Tb Q) (q : Q (a && b)) : andW Ta Tb Q := by
  refine ha _ ?_
  cases a with
  | true => rw [if_pos rfl]; exact hb rfl Q (by simpa using q)
  | false => rw [if_neg (by decide)]; simpa using q
theorem orW_ok {Ta Tb : PT Bool} (a b : Bool) {Q : Bool → Prop} (ha : ∀ Q, Q a → Ta Q) (hb : a = false → ∀ Q, Q b → Tb Q) (q : Q (a || b)) : orW Ta Tb Q := by
  refine ha _ ?_
  cases a with
  | false => rw [if_neg (by decide)]; exact hb rfl Q (by simpa using q)
  | true => rw [if_pos rfl]; simpa using q
/-! comprehensions -/
theorem mapG_ok {f : δ → PT γ} (g : δ → γ) : ∀ {l : List δ} {Q : List γ → Prop}, (∀ x ∈ l, ∀ Q, Q (g x) → f x Q) → Q (l.map g) → mapG f l Q
  | [], Q, _, q => q
  | x :: xs, Q, h, q => h x (.head _) _ (mapG_ok g (fun y hy => h y (.tail _ hy)) q)
theorem mapW_ok {l : List δ} {f : δ → PT γ} {Q : List γ → Prop} (g : δ → γ) (hl : l.length ≤ 16777216) (h : ∀ x ∈ l, ∀ Q, Q (g x) → f x Q) (q : Q (l.map g)) : mapW l f Q := ⟨by rw [size_eq]; exact hl, mapG_ok g h q⟩
theorem compG_ok {t : δ → PT Bool} {f : δ → PT γ} (p : δ → Bool) (g : δ → γ) : ∀ {l : List δ} {Q : List γ → Prop}, (∀ x ∈ l, ∀ Q, Q (p x) → t x Q) → (∀ x ∈ l, p x = true → ∀ Q, Q (g x) → f x Q) → Q ((l.filter p).map g) → compG t f l Q
  | [], Q, _, _, q => q
  | x :: xs, Q, ht, hf, q => by
    refine ht x (.head _) _ ?_
    by_cases e : p x = true
    · rw [if_pos e]
      refine hf x (.head _) e _ (compG_ok p g (fun y hy => ht y (.tail _ hy)) (fun y hy => hf y (.tail _ hy)) ?_)
      simpa [e] using q
    · rw [if_neg e]
      refine compG_ok p g (fun y hy => ht y (.tail _ hy)) (fun y hy => hf y (.tail _ hy)) ?_
      simpa [e] using q
theorem compW_ok {l : List δ} {t : δ → PT Bool} {f : δ → PT γ} {Q : List γ → Prop} (p : δ → Bool) (g : δ → γ) (hl : l.length ≤ 16777216) (ht : ∀ x ∈ l, ∀ Q, Q (p x) → t x Q) (hf : ∀ x ∈ l, p x = true → ∀ Q, Q (g x) → f x Q) (q : Q ((l.filter p).map g)) : compW l t f Q := ⟨by rw [size_eq]; exact hl, compG_ok p g ht hf q⟩
theorem compW_f {l : List δ} {t : δ → PT Bool} {f : δ → PT δ} {Q : List δ → Prop} (p : δ → Bool) (hl : l.length ≤ 16777216) (ht : ∀ x ∈ l, ∀ Q, Q (p x) → t x Q) (hf : ∀ x ∈ l, ∀ Q, Q x → f x Q) (q : Q (l.filter p)) : compW l t f Q := compW_ok p id hl ht (fun x hx _ Q q => hf x hx Q q) (by simpa using q)
theorem compG_sub {t : δ → PT Bool} {f : δ → PT γ} (g : δ → γ) : ∀ {l : List δ} {Q : List γ → Prop}, (∀ x ∈ l, ∀ Q, (∀ b, Q b) → t x Q) → (∀ x ∈ l, ∀ Q, Q (g x) → f x Q) → (∀ m : List δ, m.Sublist l → Q (m.map g)) → compG t f l Q
  | [], Q, _, _, q => q [] .slnil
  | x :: xs, Q, ht, hf, q => by
    refine ht x (.head _) _ fun b => ?_
    cases b with
    | true =>
      rw [if_pos rfl]
      exact hf x (.head _) _ (compG_sub g (fun y hy => ht y (.tail _ hy)) (fun y hy => hf y (.tail _ hy)) fun m hm => q (x :: m) (.cons₂ x hm))
    | false =>
      rw [if_neg (by decide)]
      exact compG_sub g (fun y hy => ht y (.tail _ hy)) (fun y hy => hf y (.tail _ hy)) fun m hm => q m (.cons x hm)
theorem compW_sub {l : List δ} {t : δ → PT Bool} {f : δ → PT δ} {Q : List δ → Prop} (hl : l.length ≤ 16777216) (ht : ∀ x ∈ l, ∀ Q, (∀ b, Q b) → t x Q) (hf : ∀ x ∈ l, ∀ Q, Q x → f x Q) (q : ∀ m : List δ, m.Sublist l → Q m) : compW l t f Q := ⟨by rw [size_eq]; exact hl, compG_sub id ht hf fun m hm => by simpa using q m hm⟩
theorem compG2_ok {t : δ → PT Bool} {src : δ → PT (List ε)} {u : δ → ε → PT Bool} {f : δ → ε → PT γ} (p : δ → Bool) (h : δ → List ε) (r : δ → ε → Bool) (g : δ → ε → γ) : ∀ {l : List δ} {Q : List γ → Prop}, (∀ x ∈ l, ∀ Q, Q (p x) → t x Q) → (∀ x ∈ l, p x = true → ∀ Q, Q (h x) → src x Q) → (∀ x ∈ l, p x = true → ∀ y ∈ h x, ∀ Q, Q (r x y) → u x y Q) → (∀ x ∈ l, p x = true → ∀ y ∈ h x, r x y = true → ∀ Q, Q (g x y) → f x y Q) →
    Q ((l.filter p).flatMap fun x => ((h x).filter (r x)).map (g x)) → compG2 t src u f l Q
  | [], Q, _, _, _, _, q => q
  | x :: xs, Q, h1, h2, h3, h4, q => by
    have go : ∀ {Q' : List γ → Prop}, Q' ((xs.filter p).flatMap fun x => ((h x).filter (r x)).map (g x)) → compG2 t src u f xs Q' := fun q' => compG2_ok p h r g (fun y hy => h1 y (.tail _ hy)) (fun y hy => h2 y (.tail _ hy)) (fun y hy => h3 y (.tail _ hy)) (fun y hy => h4 y (.tail _ hy)) q'
    refine h1 x (.head _) _ ?_
    by_cases e : p x = true
    · rw [if_pos e]
      refine h2 x (.head _) e _ (compG_ok (r x) (g x) (h3 x (.head _) e) (h4 x (.head _) e) (go ?_))
      simpa [e] using q
    · rw [if_neg e]
      refine go ?_
      simpa [e] using q
theorem comp2W_ok {l : List δ} {t : δ → PT Bool} {src : δ → PT (List ε)} {u : δ → ε → PT Bool} {f : δ → ε → PT γ} {Q : List γ → Prop} (p : δ → Bool) (h : δ → List ε) (r : δ → ε → Bool) (g : δ → ε → γ) (h1 : ∀ x ∈ l, ∀ Q, Q (p x) → t x Q) (h2 : ∀ x ∈ l, p x = true → ∀ Q, Q (h x) → src x Q) (h3 : ∀ x ∈ l, p x = true → ∀ y ∈ h x, ∀ Q, Q (r x y) → u x y Q) (h4 : ∀ x ∈ l, p x = true → ∀ y ∈ h x, r x y = true → ∀ Q, Q (g x y) → f x y Q)
    (hl : ((l.filter p).flatMap fun x => ((h x).filter (r x)).map (g x)).length ≤ 16777216) (q : Q ((l.filter p).flatMap fun x => ((h x).filter (r x)).map (g x))) : comp2W l t src u f Q := compG2_ok p h r g h1 h2 h3 h4 ⟨by rw [size_eq]; exact hl, q⟩
theorem comp2W_all {l : List δ} {src : δ → PT (List ε)} {f : δ → ε → PT γ} {Q : List γ → Prop} (h : δ → List ε) (g : δ → ε → γ) (h2 : ∀ x ∈ l, ∀ Q, Q (h x) → src x Q) (h4 : ∀ x ∈ l, ∀ y ∈ h x, ∀ Q, Q (g x y) → f x y Q) (hl : (l.flatMap fun x => (h x).map (g x)).length ≤ 16777216) (q : Q (l.flatMap fun x => (h x).map (g x))) : comp2W l (fun _ Q => Q true) src (fun _ _ Q => Q true) f Q := by
  have e : (l.filter fun _ => true).flatMap (fun x => ((h x).filter fun _ => true).map (g x)) = l.flatMap fun x => (h x).map (g x) := by
    have e1 : ∀ {τ : Type} (m : List τ), m.filter (fun _ => true) = m := fun m => List.filter_eq_self.mpr fun _ _ => rfl
    rw [e1]; congr 1; funext x; rw [e1]
  refine comp2W_ok (fun _ => true) h (fun _ _ => true) g (fun _ _ Q q => q) (fun x hx _ => h2 x hx) (fun _ _ _ _ _ Q q => q) (fun x hx _ y hy _ => h4 x hx y hy) (by rw [e]; exact hl) (by rw [e]; exact q)
/-! loops -/
theorem forW_inv {f : δ → σ → PT σ} (I : Nat → σ → Prop) : ∀ {l : List δ} {s : σ} {Q : σ → Prop} (k : Nat), I k s → (∀ i x s, l[i]? = some x → I (k + i) s → ∀ Q, (∀ s', I (k + i + 1) s' → Q s') → f x s Q) → (∀ s, I (k + l.length) s → Q s) → forW f l s Q
  | [], s, Q, k, h0, _, q => q s h0
  | x :: xs, s, Q, k, h0, st, q => st 0 x s rfl h0 _ fun s' h' => forW_inv I (k + 1) h' (fun i y t e hi Q' q' => st (i + 1) y t (by simpa using e) (by rw [show k + (i + 1) = k + 1 + i by omega]; exact hi) Q' fun u hu => q' u (by rw [show k + 1 + i + 1 = k + (i + 1) + 1 by omega]; exact hu)) fun t ht => q t (by rw [show k + (x :: xs).length = k + 1 + xs.length by simp; omega]; exact ht)
theorem forW_unit {f : δ → Unit → PT Unit} {l : List δ} {Q : Unit → Prop} (h : ∀ x ∈ l, ∀ Q, Q () → f x () Q) (q : Q ()) : forW f l () Q :=
  forW_inv (fun _ _ => True) 0 trivial (fun i x s e _ Q q => h x (List.mem_of_getElem? e) Q (q () trivial)) fun _ _ => q
/-! sorting -/
theorem sort_uniq {lt : α → α → Bool} (asym : ∀ a b, lt a b = false → lt b a = false → a = b) : ∀ {l m : List α}, l.Perm m → l.Pairwise (fun a b => lt b a = false) → m.Pairwise (fun a b => lt b a = false) → l = m
  | [], m, p, _, _ => by rw [List.nil_perm.mp p]
  | a :: l, [], p, _, _ => by have := p.length_eq; simp at this
  | a :: l, b :: m, p, hl, hm => by
    rw [List.pairwise_cons] at hl hm
    have e : a = b := by
      have h1 : a ∈ b :: m := p.mem_iff.mp List.mem_cons_self
      have h2 : b ∈ a :: l := p.mem_iff.mpr List.mem_cons_self
      rcases List.mem_cons.mp h1 with h1 | h1
      · exact h1
      · rcases List.mem_cons.mp h2 with h2 | h2
        · exact h2.symm
        · exact asym _ _ (hm.1 a h1) (hl.1 b h2)
    subst e
    rw [sort_uniq asym (List.Perm.cons_inv p) hl.2 hm.2]
structure TotB (lt : α → α → Bool) : Prop where
  irr : ∀ a, lt a a = false
  trans : ∀ a b c, lt a b = true → lt b c = true → lt a c = true
  tri : ∀ a b, lt a b = false → lt b a = false → a = b
theorem TotB.asym {lt : α → α → Bool} (h : TotB lt) {a b : α} (e : lt a b = true) : lt b a = false := by
  cases q : lt b a with
  | false => rfl
  | true => have := h.trans a b a e q; rw [h.irr] at this; cases this
theorem TotB.ntrans {lt : α → α → Bool} (h : TotB lt) {a b c : α} (e1 : lt b a = false) (e2 : lt c b = false) : lt c a = false := by
  cases q : lt c a with
  | false => rfl
  | true =>
    cases q2 : lt a b with
    | true => have := h.trans c a b q q2; rw [e2] at this; cases this
    | false => have := h.tri a b q2 e1; subst this; rw [e2] at q; cases q
theorem sortB_sorted {lt : α → α → Bool} (h : TotB lt) (l : List α) : (sortB lt l).Pairwise (fun a b => lt b a = false) := by
  have := List.pairwise_mergeSort (le := fun a b : α => !lt b a) (fun a b c h1 h2 => by
    simp only [Bool.not_eq_true'] at *; exact h.ntrans h1 h2) (fun a b => by
    cases e : lt b a with
    | false => rfl
    | true => simp [h.asym e]) l
  exact this.imp fun h => by simpa using h
theorem sortB_perm {lt : α → α → Bool} (l : List α) : (sortB lt l).Perm l := List.mergeSort_perm _ _
theorem sortB_eq {lt : α → α → Bool} (h : TotB lt) {l m : List α} (p : m.Perm l) (s : m.Pairwise (fun a b => lt b a = false)) : sortB lt l = m := sort_uniq h.tri ((sortB_perm l).trans p.symm) (sortB_sorted h l) s
theorem sortKB_eq {key : α → β} {lt : β → β → Bool} (h : TotB lt) {l m : List α} (inj : ∀ a b, key a = key b → a = b) (p : m.Perm l) (s : m.Pairwise (fun a b => lt (key b) (key a) = false)) : sortKB lt l (l.map key) = m := by
  have ht : TotB (fun a b : α => lt (key a) (key b)) := ⟨fun a => h.irr _, fun a b c => h.trans _ _ _, fun a b e1 e2 => inj _ _ (h.tri _ _ e1 e2)⟩
  have e : ∀ l : List α, (l.zip (l.map key)) = l.map fun x => (x, key x) := fun l => by
    induction l with
    | nil => rfl
    | cons x xs ih => simp only [List.map_cons, List.zip_cons_cons, ih]
  unfold sortKB
  rw [e]
  have e2 : (l.map fun x => (x, key x)).mergeSort (fun a b : α × β => !lt b.2 a.2) = (sortB (fun a b : α => lt (key a) (key b)) l).map fun x => (x, key x) := by
    unfold sortB
    rw [List.map_mergeSort (r := fun a b : α => !lt (key b) (key a)) (s := fun a b : α × β => !lt b.2 a.2)]
    intros; rfl
  rw [e2, List.map_map]
  have e3 : ((fun x : α × β => x.1) ∘ fun x => (x, key x)) = (id : α → α) := rfl
  rw [e3, List.map_id]
  exact sortB_eq ht p s
theorem ltI_tot : TotB ltI := ⟨fun a => by simp, fun a b c h1 h2 => by simp at *; omega, fun a b h1 h2 => by simp at *; omega⟩
theorem ltLex_tot [DecidableEq α] {lt : α → α → Bool} (h : TotB lt) : TotB (ltLex lt) where
  irr := by
    intro l
    induction l with
    | nil => rfl
    | cons x xs ih => simp [ltLex, ih]
  trans := by
    intro a
    induction a with
    | nil => intro b c h1 h2; cases b <;> cases c <;> simp_all [ltLex]
    | cons x xs ih =>
      intro b c h1 h2
      cases b with
      | nil => simp [ltLex] at h1
      | cons y ys =>
        cases c with
        | nil => simp [ltLex] at h2
        | cons z zs =>
          simp only [ltLex] at *
          by_cases e1 : x = y
          · subst e1
            rw [if_pos rfl] at h1
            by_cases e2 : x = z
            · subst e2; rw [if_pos rfl] at h2 ⊢; exact ih ys zs h1 h2
            · rw [if_neg e2] at h2 ⊢; exact h2
          · rw [if_neg e1] at h1
            by_cases e2 : y = z
            · subst e2; rw [if_neg e1]; exact h1
            · rw [if_neg e2] at h2
              have h3 := h.trans _ _ _ h1 h2
              have e3 : x ≠ z := fun e => by rw [e, h.irr] at h3; cases h3
              rw [if_neg e3]; exact h3
  tri := by
    intro a
    induction a with
    | nil => intro b h1 h2; cases b <;> simp_all [ltLex]
    | cons x xs ih =>
      intro b h1 h2
      cases b with
      | nil => simp [ltLex] at h2
      | cons y ys =>
        simp only [ltLex] at *
        by_cases e : x = y
        · subst e
          rw [if_pos rfl] at h1 h2
          rw [ih ys h1 h2]
        · rw [if_neg e] at h1
          rw [if_neg (Ne.symm e)] at h2
          exact absurd (h.tri _ _ h1 h2) e
theorem ltP_tot [DecidableEq α] [DecidableEq β] {lt : α → α → Bool} {lu : β → β → Bool} (h : TotB lt) (g : TotB lu) : TotB (ltP lt lu) where
  irr := fun a => by simp [ltP]
  trans := fun a b c h1 h2 => by
    simp only [ltP] at *
    by_cases e1 : a.1 = b.1
    · rw [if_pos e1] at h1
      by_cases e2 : b.1 = c.1
      · rw [if_pos e2] at h2
        rw [if_pos (e1.trans e2)]
        split at h1
        · cases h1
        · split at h2
          · cases h2
          · have h3 := g.trans _ _ _ h1 h2
            have e3 : a.2 ≠ c.2 := fun e => by rw [e, g.irr] at h3; cases h3
            rw [if_neg e3]; exact h3
      · rw [if_neg e2] at h2
        rw [e1, if_neg e2]; exact h2
    · rw [if_neg e1] at h1
      by_cases e2 : b.1 = c.1
      · rw [← e2, if_neg e1]; exact h1
      · rw [if_neg e2] at h2
        have h3 := h.trans _ _ _ h1 h2
        have e3 : a.1 ≠ c.1 := fun e => by rw [e, h.irr] at h3; cases h3
        rw [if_neg e3]; exact h3
  tri := fun a b h1 h2 => by
    simp only [ltP] at *
    by_cases e1 : a.1 = b.1
    · rw [if_pos e1] at h1
      rw [if_pos e1.symm] at h2
      by_cases e2 : a.2 = b.2
      · exact Prod.ext e1 e2
      · rw [if_neg e2] at h1
        rw [if_neg (Ne.symm e2)] at h2
        exact absurd (g.tri _ _ h1 h2) e2
    · rw [if_neg e1] at h1
      rw [if_neg (Ne.symm e1)] at h2
      exact absurd (h.tri _ _ h1 h2) e1
theorem srtOk_ints (l : List Int) : srtOk eI l = true := by
  unfold srtOk sortable
  rw [Bool.or_eq_true]
  right
  rw [List.all_eq_true]
  intro d hd
  obtain ⟨p, _, rfl⟩ := List.mem_map.mp hd
  rfl
theorem srtOk_pair {e : α → D} {f : β → D} (l : List (α × β)) : srtOk (eP e f) l = true := by
  unfold srtOk sortable
  rw [Bool.or_eq_true]
  left
  rw [List.all_eq_true]
  intro d hd
  obtain ⟨p, _, rfl⟩ := List.mem_map.mp hd
  rfl
end
end Tv

/-! Tv7: rows of unlike things. -/
namespace Tv
open PySem Pv
section
variable {α β γ : Type}
def hN (_ : Unit) : List D := []
def hC (e : α → D) (fs : β → List D) (p : α × β) : List D := e p.1 :: fs p.2
def eR (fs : β → List D) (p : β) : D := .tuple (fs p)
def eH (fs : β → List D) (p : β) : D := .list (fs p)
class GoodL [DecidableEq β] (fs : β → List D) (n : outParam Nat) : Prop where
  plain : ∀ a, PyData.plainAll (fs a) = true
  depth : ∀ a, PyData.depthAll (fs a) ≤ n
  eqv : ∀ a b, PyData.eqvAll (fs a) (fs b) = decide (a = b)
instance : GoodL hN 0 := ⟨fun _ => rfl, fun _ => by simp [hN, PyData.depthAll], fun a b => by simp [hN, PyData.eqvAll]⟩
instance [DecidableEq α] [DecidableEq β] {e : α → D} {fs : β → List D} {n m : Nat} [g : Good e n] [h : GoodL fs m] : GoodL (hC e fs) (n + m) := ⟨fun a => by simp [hC, PyData.plainAll, g.plain, h.plain], fun a => by have := g.depth a.1; have := h.depth a.2; simp [hC, PyData.depthAll]; omega, fun a b => by
  obtain ⟨a1, a2⟩ := a
  obtain ⟨b1, b2⟩ := b
  simp only [hC, PyData.eqvAll, g.eqv, h.eqv, Prod.mk.injEq, Bool.decide_and]⟩
instance [DecidableEq β] {fs : β → List D} {m : Nat} [h : GoodL fs m] : Good (eR fs) (m + 1) := ⟨fun a => by simp [eR, PyData.plain, h.plain], fun a => by have := h.depth a; simp [eR, PyData.depth]; omega, fun a b => by simp only [eR, PyData.eqv, h.eqv]⟩
instance [DecidableEq β] {fs : β → List D} {m : Nat} [h : GoodL fs m] : Good (eH fs) (m + 1) := ⟨fun a => by simp [eH, PyData.plain, h.plain], fun a => by have := h.depth a; simp [eH, PyData.depth]; omega, fun a b => by simp only [eH, PyData.eqv, h.eqv]⟩
instance {fs : β → List D} : NN (eR fs) := ⟨fun _ => by simp [eR]⟩
instance {fs : β → List D} : NN (eH fs) := ⟨fun _ => by simp [eH]⟩
class NlL (fs : β → List D) : Prop where
  nl : ∀ a, nlAll (fs a) = true
instance : NlL hN := ⟨fun _ => rfl⟩
instance {e : α → D} {fs : β → List D} [g : Nl e] [h : NlL fs] : NlL (hC e fs) := ⟨fun a => by simp [hC, nlAll, g.nl, h.nl]⟩
instance {fs : β → List D} [h : NlL fs] : Nl (eR fs) := ⟨fun a => by simp [eR, Pv.nl, h.nl]⟩
end
section
variable {ω α γ : Type} {R R1 R2 : ω → Rho} {ms : AM} {rs : α → List Rv} {Ts : PT α}
end
end Tv

namespace Tv
open PySem L2 Pv
theorem opMulA (a b : Int) : Op2 gMulA (eI a) (eI b) (vV eI) (mulW a b) := opMul a b
def repW {α : Type} (l : List α) (k : Int) : PT (List α) := fun Q => (l ≠ [] ∧ 2 ≤ k ∧ k ≤ 1000 ∧ l.length ≤ 1000) ∧ Q (List.replicate k.toNat l).flatten
theorem repOk_of {α : Type} {e : α → D} {l : List α} {k : Int} (h : l ≠ [] ∧ 2 ≤ k ∧ k ≤ 1000 ∧ l.length ≤ 1000) : repOk (l.map e) k = true := by
  obtain ⟨h1, h2, h3, h4⟩ := h
  simp only [repOk, Bool.and_eq_true, decide_eq_true_eq, Nat.ble_eq, List.length_map]
  exact ⟨⟨⟨by simpa using h1, by omega⟩, by omega⟩, h4⟩
theorem map_rep {α : Type} (e : α → D) (l : List α) (n : Nat) : (List.replicate n (l.map e)).flatten = (List.replicate n l).flatten.map e := by
  rw [List.map_flatten, List.map_replicate]
theorem opRepT {α : Type} {e : α → D} (l : List α) (k : Int) : Op2 gMulA (eT e l) (eI k) (vV (eT e)) (repW l k) := fun Q q => ⟨_, q.2, by
  show (if repOk (l.map e) k = true then some (SV.val (.tuple (List.replicate k.toNat (l.map e)).flatten)) else none) = _
  rw [if_pos (repOk_of q.1), map_rep]; try rfl⟩
def repTW {α : Type} (l : List α) (k : Int) : PT (List α) := fun Q => (l ≠ [] ∧ 0 ≤ k ∧ k ≤ 1000 ∧ l.length ≤ 1000) ∧ Q (List.replicate k.toNat l).flatten
theorem opRepB {α : Type} {e : α → D} (l : List α) (k : Int) : Op2 gMulB (eT e l) (eI k) (vV (eT e)) (repTW l k) := fun Q q => by
  obtain ⟨⟨h1, h2, h3, h4⟩, q⟩ := q
  refine ⟨_, q, ?_⟩
  show (if k = 1 then some (SV.val (.tuple (l.map e))) else if k = 0 ∧ l.map e ≠ [] then some (SV.val (.tuple [])) else gMulA (.tuple (l.map e)) (.int k)) = _
  by_cases c : k = 1
  · rw [if_pos c]; subst c
    simp [vV, eT]
  · rw [if_neg c]
    by_cases d : k = 0
    · rw [if_pos ⟨d, by simpa using h1⟩]; subst d
      simp [vV, eT]
    · rw [if_neg (fun z => d z.1)]
      obtain ⟨_, q3, q4⟩ := opRepT (e := e) l k (fun x => x = (List.replicate k.toNat l).flatten) ⟨⟨h1, by omega, h3, h4⟩, rfl⟩
      rw [← q3]; exact q4
section
variable {ω α β γ δ σ τ : Type} {R R1 R2 R3 : ω → Rho} {m n : SM} {io esc : Bool} {ks : List Nat} {kp : List Nat × List Nat} {mi : IM} {mg : GM} {e : δ → D} {Ti : PT (List δ)} {K0 : σ → ω → Rho} {Kb : δ → σ → ω → Rho} {KL : τ → ω → Rho} {s : γ → SV} {out : γ → ω → SV} {fr : δ → σ → PT (Stp σ γ)}
end
theorem wFz {ω α γ : Type} {me : EM} {R R1 R2 : ω → Rho} {ra : α → Rv} {T : PT α} {e : γ → D} {v : α → γ} (h : WE me R ra T R1) (hz : ∀ w a, frz1 (R1 w) (ra a) = some (e (v a), R2 w) := by intro _ _; rfl) : WE (evFz me) R (fun c => .sv (.val (e c))) (fun Q => T fun a => Q (v a)) R2 := fun w Q q => by
  obtain ⟨a, w1, q1, e1⟩ := h w _ q
  exact ⟨v a, w1, q1, by simp only [evFz, e1, hz, Option.bind_some]⟩
def eqB {α : Type} [DecidableEq α] (a b : α) : Bool := decide (a = b)
def eX {α β : Type} (e : α → D) (f : β → D) : Sum α β → D
  | .inl a => e a
  | .inr b => f b
def sumW {α β γ : Type} (v : Sum α β) (T1 : α → PT γ) (T2 : β → PT γ) : PT γ := fun Q => match v with
  | .inl a => T1 a Q
  | .inr b => T2 b Q
end Tv

/-! Tv9: dicts. -/
namespace Tv
open PySem Pv
structure KyE {κ : Type} (t : Bool) (kf : κ → List Int) (ek : κ → D) : Prop where
  key : ∀ k, keyOf t (ek k) = some (kf k)
  inj : ∀ a b, kf a = kf b → a = b
  one : t = true ∨ ∀ k, (kf k).length = 1
section
variable {κ β : Type} [DecidableEq κ] {t : Bool} {kf : κ → List Int} {ek : κ → D} {e : β → D}
def getM (m : List (κ × β)) (k : κ) : Option β := (m.find? fun q => decide (q.1 = k)).map (·.2)
def hasM (m : List (κ × β)) (k : κ) : Bool := m.any fun q => decide (q.1 = k)
def putM (m : List (κ × β)) (k : κ) (v : β) : List (κ × β) := if hasM m k = true then m.map (fun q => if q.1 = k then (q.1, v) else q) else m ++ [(k, v)]
theorem hasM_get (m : List (κ × β)) (k : κ) : (getM m k).isSome = hasM m k := by
  unfold getM hasM
  induction m with
  | nil => rfl
  | cons q m ih =>
    by_cases c : q.1 = k
    · simp [c]
    · simpa [List.find?_cons, c] using ih
end
end Tv

/-! TvA: dicts that are walked, asked, told as lists. -/
namespace Tv
open PySem Pv
section
variable {κ β : Type} [DecidableEq κ] {t : Bool} {kf : κ → List Int} {ek : κ → D} {e : β → D}
def keysM (m : List (κ × β)) : List κ := m.map (·.1)
variable {ω α γ δ : Type} {R R1 R2 R3 : ω → Rho} {ma mk mx : EM} {ra : α → Rv} {rk : γ → Rv} {Ta : PT α} {Tk : PT γ} {Tx : PT β}
end
/-! freezing ahead of a return -/
end Tv

/-! TvB: an option that is some one. -/
namespace Tv
open PySem Pv
def unO {α : Type} (o : Option α) (Q : α → Prop) : Prop := ∃ v, o = some v ∧ Q v
@[simp] theorem unO_some {α : Type} (v : α) (Q : α → Prop) : unO (some v) Q ↔ Q v := ⟨fun ⟨_, h, q⟩ => by cases h; exact q, fun q => ⟨v, rfl, q⟩⟩
end Tv

/-! TvC: comprehensions over lists that stay their owner's. -/
namespace Tv
open PySem Pv
variable {ω α δ γ : Type}
end Tv

/-! TvD: a list told from its end. -/
namespace Tv
open PySem Pv
end Tv

/-! TvE: xs[i] += e. -/
namespace Tv
open PySem Pv
end Tv

/-! TvF: l.index(x) of pairs of ints. -/
namespace Tv
open PySem Pv
def idxF {δ : Type} [DecidableEq δ] (k : δ) : List δ → Option Nat
  | [] => none
  | j :: r => if j = k then some 0 else (idxF k r).map (· + 1)
end Tv

/-! TvG: one of two kinds; what may raise. -/
namespace Tv
open PySem Pv
class Dj {α β : Type} (e : α → D) (f : β → D) : Prop where
  ne : ∀ a b, PyData.eqv (e a) (f b) = false
  en : ∀ a b, PyData.eqv (f b) (e a) = false
instance {α : Type} {e : α → D} : Dj (eT e) eS := ⟨fun a b => by simp [eT, PyData.eqv], fun a b => by simp [eT, PyData.eqv]⟩
instance {α β : Type} {e : α → D} {f : β → D} : Dj (eP e f) eS := ⟨fun a b => by simp [eP, PyData.eqv], fun a b => by simp [eP, PyData.eqv]⟩
instance {α β γ : Type} {e : α → D} {f : β → D} {g : γ → D} : Dj (eQ e f g) eS := ⟨fun a b => by simp [eQ, PyData.eqv], fun a b => by simp [eQ, PyData.eqv]⟩
instance {α : Type} {e : α → D} : Dj (eL e) eS := ⟨fun a b => by simp [eL, PyData.eqv], fun a b => by simp [eL, PyData.eqv]⟩
instance : Dj eI eS := ⟨fun a b => by simp [PyData.eqv], fun a b => by simp [PyData.eqv]⟩
instance {α β : Type} [DecidableEq α] [DecidableEq β] {e : α → D} {f : β → D} {n m : Nat} [g : Good e n] [h : Good f m] [d : Dj e f] : Good (eX e f) (n + m) := ⟨fun a => by cases a with
  | inl a => exact g.plain a
  | inr a => exact h.plain a, fun a => by cases a with
  | inl a => exact Nat.le_trans (g.depth a) (Nat.le_add_right _ _)
  | inr a => exact Nat.le_trans (h.depth a) (Nat.le_add_left _ _), fun a b => by cases a with
  | inl a => cases b with
    | inl b => simp only [eX, g.eqv]; by_cases h : a = b <;> simp [h]
    | inr b => simp only [eX, d.ne]; simp
  | inr a => cases b with
    | inl b => simp only [eX, d.en]; simp
    | inr b => simp only [eX, h.eqv]; by_cases h : a = b <;> simp [h]⟩
instance {α β : Type} {e : α → D} {f : β → D} [h : Nl e] [i : Nl f] : Nl (eX e f) := ⟨fun a => by cases a with
  | inl a => exact h.nl a
  | inr a => exact i.nl a⟩
section
variable {ω α β γ : Type} {m : EM} {R R1 R2 : ω → Rho} {e : α → D} {f : β → D}
theorem wInl {T : PT α} (h : WE m R (fun a => .sv (.val (e a))) T R1) : WE m R (fun a => .sv (.val (eX e f a))) (fun Q => T fun a => Q (Sum.inl a)) R1 := fun w Q q => by
  obtain ⟨a, w', h1, h2⟩ := h w _ q
  exact ⟨.inl a, w', h1, h2⟩
theorem wInr {T : PT β} (h : WE m R (fun a => .sv (.val (f a))) T R1) : WE m R (fun a => .sv (.val (eX e f a))) (fun Q => T fun a => Q (Sum.inr a)) R1 := fun w Q q => by
  obtain ⟨a, w', h1, h2⟩ := h w _ q
  exact ⟨.inr a, w', h1, h2⟩
end
section
variable {α : Type} {e : α → D}
end
def sortWE {α : Type} (lt : List α → List α → Bool) (l : List (List α)) : PT (List (List α)) := fun Q => l.head? = some [] ∧ Q (sortB lt l)
theorem opSortedE {α : Type} [DecidableEq α] {e : α → D} {n : Nat} {lt : List α → List α → Bool} [g : Good (eT e) n] [o : Ordd (eT e) lt] (l : List (List α)) (hn : n ≤ 100 := by decide) : OpN gSortedE [eL (eT e) l] (vL (eT e)) (sortWE lt l) := fun Q q => ⟨_, q.2, by
  have h1 := depthAll_map g.depth l
  have h2 : (l.map (eT e)).all (fun x => (l.map (eT e)).all fun y => PySem.W.alike x y) = true := by
    simp only [List.all_map, List.all_eq_true, Function.comp]
    exact fun x _ y _ => o.alike x y
  have h3 : sortableE (l.map (eT e)) = true := by
    obtain ⟨h0, _⟩ := q
    cases l with
    | nil => cases h0
    | cons x l =>
      simp only [List.head?_cons, Option.some.injEq] at h0
      subst h0
      simp [sortableE, eT]
  have h4 : pSortE (l.map (eT e)) = true := by
    simp only [pSortE, plainAll_map g.plain, h2, h3, Bool.and_self, Bool.true_and, decide_eq_true_eq]
    omega
  simp only [gSortedE, eL, if_pos h4, srtD, sortB]
  rw [merge_map (fun a b => !lt b a) (PySem.W.dataLe false id) fun a b => by rw [PySem.W.dataLe_eq]; simp [o.lt]]⟩
/-! ### what may raise -/
abbrev Pay := Str → List (Str × D)
def vE {γ : Type} (pay : Pay) (s : γ → SV) : γ ⊕ Str → SV
  | .inl a => s a
  | .inr y => .val (excD y (pay y))
abbrev oN {γ ω : Type} : γ → ω → SV := fun _ _ => .val .none
abbrev excW {α γ : Type} (r : α ⊕ Str) (f : α → PT (γ ⊕ Str)) : PT (γ ⊕ Str) := fun Q => match r with
  | .inl a => f a Q
  | .inr y => Q (.inr y)
abbrev noXW {α : Type} (r : α ⊕ Str) : PT α := fun Q => match r with
  | .inl a => Q a
  | .inr _ => False
abbrev tryW {α : Type} (r : α ⊕ Str) (kn : List Str) (f : α → Prop) (g : Str → Prop) : Prop := match r with
  | .inl a => f a
  | .inr y => y ∈ kn ∧ g y
section
variable {ω α β γ : Type} {me : EM} {R R1 R2 : ω → Rho} {s : α → SV} {sr : γ → SV} {T : PT (α ⊕ Str)} {io : Bool} {out : γ → ω → SV}
variable {pay : Pay}
theorem fInl {m : SM} {T : PT γ} (h : WF false m R sr oN T) : WF false m R (vE pay sr) oN (fun Q => T fun a => Q (Sum.inl a)) := fun w Q q => by
  obtain ⟨a, w1, r, ρ, q1, e1, ok⟩ := h w _ q
  exact ⟨.inl a, w1, r, ρ, q1, e1, ok⟩
theorem nInl {m : SM} {T : PT γ} (h : WN false m R sr oN T) : WN false m R (vE pay sr) oN (fun Q => T fun a => Q (Sum.inl a)) := fun w Q q => by
  obtain ⟨a, w1, x, q1, e1, ok⟩ := h w _ q
  exact ⟨.inl a, w1, x, q1, e1, ok⟩
theorem fRaise {y : Str} (hp : pay y = [] := by rfl) : WF false (exRaise y) R (vE pay sr) oN (fun Q => Q (Sum.inr y)) := fun w Q q => ⟨.inr y, w, _, _, q, rfl, by simp only [vE, hp]; rfl⟩
theorem nExprX {m : SM} {Tf : PT (γ ⊕ Str)} (h : WE me R (fun r => .sv (vE pay s r)) T R1) (h2 : WN false m R1 (vE pay sr) oN Tf) (hx : ∀ a, isX (.sv (s a)) = false := by intro _; rfl) :
    WN false (exSeq (exExprX me) m) R (vE pay sr) oN (fun Q => T fun r => excW r (fun _ => Tf) Q) := fun w Q q => by
  obtain ⟨r, w1, q1, e1⟩ := h w _ q
  cases r with
  | inl a =>
    obtain ⟨b, w2, x, q2, e2, ok⟩ := h2 w1 _ q1
    have z : isX (.sv (vE pay s (.inl a))) = false := hx a
    have z2 : exExprX me (R w) = some (.nx, R1 w1) := by
      simp only [exExprX, e1, Option.bind_some, z, Bool.false_eq_true, if_false]
    exact ⟨b, w2, x, q2, by simp only [exSeq, z2, Option.bind_some]; exact e2, ok⟩
  | inr y =>
    have z2 : exExprX me (R w) = some (.ret (.sv (vE pay s (.inr y))), R1 w1) := by
      simp only [exExprX, e1, Option.bind_some]; rfl
    exact ⟨.inr y, w1, (.ret (.sv (vE pay s (.inr y))), R1 w1), q1, by simp only [exSeq, z2, Option.bind_some], rfl⟩
theorem wNoX (h : WE me R (fun r => .sv (vE pay s r)) T R1) (hx : ∀ a, isX (.sv (s a)) = false := by intro _; rfl) : WE (evNoX me) R (fun a => .sv (s a)) (fun Q => T fun r => noXW r Q) R1 := fun w Q q => by
  obtain ⟨r, w1, q1, e1⟩ := h w _ q
  cases r with
  | inl a =>
    have z : isX (.sv (vE pay s (.inl a))) = false := hx a
    exact ⟨a, w1, q1, by simp only [evNoX, e1, Option.bind_some, z, Bool.false_eq_true, if_false]; rfl⟩
  | inr y => exact q1.elim
variable {δ : Type} {K : δ → ω → Rho}
theorem opLenSetT (l : List Int) : Op1 gLenSetT (eT eI l) (vV eI) (fun Q => Nat.ble l.length 3999 = true ∧ Q ((dd l).length : Int)) := fun Q q => by
  refine ⟨_, q.2, ?_⟩
  have h := Nat.le_of_ble_eq_true q.1
  simp only [gLenSetT, eT, ints_map, Option.bind_some, if_pos (show l.length < 4000 by omega)]
/-! l.index(x) of strings -/
/-! ### an if whose block may end the def, or goes on as before -/
section
variable {ω α γ σ : Type} {io : Bool} {esc : Bool} {ks : List Nat} {mt : TM} {m1 m2 n : SM} {R R1 : ω → Rho} {KL : σ → ω → Rho} {s : γ → SV} {out : γ → ω → SV} {Tt : PT Bool}
end
end
end Tv

/-! TvH: defs as values; try: x = f(..) except C as e: x = a if isinstance(e, D) else b. -/
namespace Tv
open PySem Pv
section
variable {ω α γ : Type} {ms : AM} {rs : α → List Rv} {Ts : PT α} {R R1 : ω → Rho} {i : Nat} {L : List (Str × Nat × CM)} {nm : Str}
end
section
variable {pay : Pay} {ω α δ : Type} {me : EM} {R R1 : ω → Rho} {s : α → SV} {T : PT (Sum α Str)} {K : δ → ω → Rho}
theorem sTryAs1 {up : Bool} {kn L : List Str} {P : List Nat} {i j : Nat} {s1 : Str} {v : α → δ} {u : δ} (h : WE me R (fun r => .sv (vE pay s r)) T R1) (hj : j ∉ P := by decide) (hij : i ≠ j := by decide) (hl : ∀ w, i < (R1 w).length := by intro _; exact Nat.lt_of_lt_of_le (Nat.lt_succ_self _) (Nat.le_of_ble_eq_true rfl)) (hx : ∀ a, isX (.sv (s a)) = false := by intro _; rfl)
    (hK : ∀ w a, (R1 w).set j (some (s a)) = K (v a) w := by intro _ _; rfl) (hK2 : ∀ w, (kill [i] (R1 w)).set j (some (.val (.str s1))) = K u w := by intro _; rfl) (hp : ∀ y ∈ L, pay y = [] := by intro _ _; rfl) :
    WS (exTry up kn (exNoF (exAsgX P j me)) [(L, exAs P i j s1)]) R K (fun Q => T fun r => tryW r kn (fun a => Q (v a)) (fun y => if y ∈ L then Q u else False)) := fun w Q q => by
  obtain ⟨r, w1, q1, e1⟩ := h w _ q
  cases r with
  | inl a =>
    refine ⟨v a, w1, q1, ?_⟩
    have z : isX (.sv (vE pay s (.inl a))) = false := hx a
    have z2 : exAsgX P j me (R w) = some (.nx, K (v a) w1) := by
      simp only [exAsgX, e1, Option.bind_some, z, Bool.false_eq_true, if_false, stoS, if_neg hj]
      exact congrArg (fun x => some (Fl.nx, x)) (hK w1 a)
    have z3 : exNoF (exAsgX P j me) (R w) = some (.nx, K (v a) w1) := by simp only [exNoF, z2, Option.bind_some]; rfl
    simp only [exTry, z3, Option.bind_some]
  | inr y =>
    obtain ⟨hy, q2⟩ := q1
    try dsimp only at q2
    by_cases hL : y ∈ L
    · rw [if_pos hL] at q2
      refine ⟨u, w1, q2, ?_⟩
      have z2 : exAsgX P j me (R w) = some (.ret (.sv (.val (excD y (pay y)))), R1 w1) := by
        simp only [exAsgX, e1, Option.bind_some]; rfl
      have z3 : exNoF (exAsgX P j me) (R w) = some (.ret (.sv (.val (excD y (pay y)))), R1 w1) := by simp only [exNoF, z2, Option.bind_some, hp y hL]; rfl
      simp only [exTry, z3, Option.bind_some, if_pos hy, hdOf, if_pos hL, exAs]
      rw [if_neg (fun z => z.elim hj fun z => z.elim hij fun z => z (hl w1)), hK2 w1]
    · rw [if_neg hL] at q2
      exact q2.elim
end
end Tv
/-! ### a loop over a few things of many kinds, turn by turn -/
namespace Tv
open PySem Pv
section
variable {ω α γ : Type} {io : Bool} {ks : List Nat} {mi : IM} {mg : GM} {m n : SM} {R R1 R2 Kb : ω → Rho} {K0 : Unit → ω → Rho} {s : γ → SV} {out : γ → ω → SV} {kp : List Nat × List Nat}
end
def unX {α β : Type} (r : Sum α β) (Q : α → Prop) : Prop := ∃ v, r = .inl v ∧ Q v
@[simp] theorem unX_inl {α β : Type} (v : α) (Q : α → Prop) : unX (.inl v : Sum α β) Q ↔ Q v := ⟨fun ⟨_, h, q⟩ => by cases h; exact q, fun q => ⟨v, rfl, q⟩⟩
end Tv
namespace Tv
open PySem Pv
section
variable {pay : Pay} {ω α γ : Type} {io : Bool} {me : EM} {R R1 : ω → Rho} {s : α → SV} {sr : γ → SV} {out : γ → ω → SV} {T : PT (Sum α Str)}
end
end Tv
namespace Tv
open PySem Pv
section
variable {pay : Pay} {ω α γ : Type} {io : Bool} {me : EM} {R R1 : ω → Rho} {s : α → SV} {sr : γ → SV} {out : γ → ω → SV} {T : PT (Sum α Str)}
end
end Tv
namespace Tv
open PySem Pv
def ltStr (a b : Str) : Bool := PySem.W.dataLt (.str a) (.str b)
instance : Ordd eS ltStr := ⟨fun a b => by simp [PySem.W.alike], fun _ _ => rfl, fun _ => by simp⟩
end Tv

/-! TvI: values of any kind. -/
namespace Tv
open PySem Pv
abbrev eA : D → D := fun d => d
def Up {α β : Type} (e : α → D) (e' : β → D) (f : α → β) : Prop := ∀ x, e' (f x) = e x
theorem upA {α : Type} {e : α → D} : Up e eA e := fun _ => rfl
theorem up_map {α β : Type} {e : α → D} {e' : β → D} {f : α → β} (u : Up e e' f) (l : List α) : (l.map f).map e' = l.map e := by
  rw [List.map_map]
  exact List.map_congr_left fun x _ => u x
theorem upT {α β : Type} {e : α → D} {e' : β → D} {f : α → β} (u : Up e e' f) : Up (eT e) (eT e') (List.map f) := fun l => by simp only [eT, up_map u]
section
variable {ω α β : Type} {m : EM} {R R1 : ω → Rho} {e : α → D} {e' : β → D} {T : PT α}
theorem wUp {f : α → β} (h : WE m R (fun a => .sv (.val (e a))) T R1) (u : Up e e' f) : WE m R (fun a => .sv (.val (e' a))) (fun Q => T fun a => Q (f a)) R1 := fun w Q q => by
  obtain ⟨a, w', h1, h2⟩ := h w _ q
  exact ⟨f a, w', h1, by dsimp only; rw [u a]; exact h2⟩
def cvW (e : α → D) (e' : β → D) (x : α) : PT β := fun Q => ∃ y, e x = e' y ∧ Q y
theorem wCv (h : WE m R (fun a => .sv (.val (e a))) T R1) : WE m R (fun a => .sv (.val (e' a))) (fun Q => T fun a => cvW e e' a Q) R1 := fun w Q q => by
  obtain ⟨a, w', ⟨y, h1, h3⟩, h2⟩ := h w _ q
  exact ⟨y, w', h3, by dsimp only; rw [← h1]; exact h2⟩
theorem cvW_ok {x : α} {Q : β → Prop} (y : β) (h : e x = e' y) (q : Q y) : cvW e e' x Q := ⟨y, h, q⟩
end
def isB (ts : List TR) (d : D) : Option Bool := (tyD d).bind fun t => isiAny t ts
def isAW (ts : List TR) (d : D) : PT Bool := fun Q => ∃ b, isB ts d = some b ∧ Q b
theorem wIsiA {ω α : Type} {ma : EM} {R R1 : ω → Rho} {ra : α → Rv} {Ta : PT α} {ts : List TR} {d1 : α → D} (ha : WE ma R ra Ta R1) (h1 : ∀ w a, rdD (R1 w) (ra a) = some (d1 a) := by intro _ _; rfl) : WE (evIsi ts ma) R (fun a => .sv (.val (eB a))) (fun Q => Ta fun a => isAW ts (d1 a) Q) R1 := fun w Q q => by
  obtain ⟨a, w1, ⟨b, q1, q2⟩, e1⟩ := ha w _ q
  unfold isB at q1
  obtain ⟨t, h2, h3⟩ := Option.bind_eq_some_iff.mp q1
  exact ⟨b, w1, q2, by simp only [evIsi, e1, h1, h2, h3, Option.bind_some]⟩
def eqAW (a b : D) : PT Bool := fun Q => pEq a b = true ∧ Q (PyData.eqv a b)
theorem opEqA (a b : D) : Op2 gEqD a b (vV eB) (eqAW a b) := fun Q q => ⟨_, q.2, by simp only [gDat, if_pos q.1]⟩
end Tv

/-! TvJ: what may raise, within an expression; answers told otherwise. -/
namespace Tv
open PySem Pv
section
variable {pay : Pay} {ω α β γ : Type} {me : EM} {R R1 : ω → Rho} {s : α → SV} {s' : γ → SV} {T : PT (α ⊕ Str)}
theorem wR (s : α → SV) (a : α) : WE (evR (.sv (s a))) R (fun a => .sv (s a)) (fun Q => Q a) R := fun w Q q => ⟨a, w, q, rfl⟩
theorem wX {M : EM → EM} {C : α → PT γ} (h : WE me R (fun r => .sv (vE pay s r)) T R1) (hk : ∀ a, WE (M (evR (.sv (s a)))) R1 (fun c => .sv (s' c)) (C a) R1) (hx : ∀ a, isX (.sv (s a)) = false := by intro _; rfl) :
    WE (evX M me) R (fun c => .sv (vE pay s' c)) (fun Q => T fun r => excW r (fun a Q => C a fun c => Q (.inl c)) Q) R1 := fun w Q q => by
  obtain ⟨r, w1, q1, e1⟩ := h w _ q
  cases r with
  | inl a =>
    obtain ⟨c, w2, q2, e2⟩ := hk a w1 _ q1
    have z : isX (.sv (vE pay s (.inl a))) = false := hx a
    exact ⟨.inl c, w2, q2, by simp only [evX, e1, Option.bind_some, z, Bool.false_eq_true, if_false]; exact e2⟩
  | inr y => exact ⟨.inr y, w1, q1, by simp only [evX, e1, Option.bind_some]; rfl⟩
end
end Tv

/-! TvK: walks of a list's last dict, two items set at once, answers of any kind from try, places of tuples. -/
namespace Tv
open PySem Pv
section
variable {κ β : Type} [DecidableEq κ] {t : Bool} {kf : κ → List Int} {ek : κ → D} {e : β → D}
end
section
variable {pay : Pay} {ω γ δ : Type} {me m1 m2 : EM} {R R1 : ω → Rho} {io : Bool} {out : D → ω → SV}
end
/-! places of tuples -/
end Tv

/-! TvL: a tuple that the program names, as a value. -/
namespace Tv
open PySem Pv
section
variable {ω α δ : Type} {ma : EM} {R R1 R2 : ω → Rho} {ra : α → Rv} {Ta : PT α} {x : Str} {ns : List Int}
end
end Tv

/-! TvM: values of any kind told apart from tuples. -/
namespace Tv
open PySem Pv
end Tv

/-! TvN: x = x + (l.pop(i),). -/
namespace Tv
open PySem Pv
def popW {γ : Type} (l : List γ) (i : Int) : PT (γ × List γ) := fun Q => (0 ≤ i ∧ i.toNat ≤ 4611686018427387904) ∧ ∃ x, l[i.toNat]? = some x ∧ Q (x, l.eraseIdx i.toNat)
theorem popW_ok {γ : Type} {l : List γ} {i : Int} {x : γ} {Q : γ × List γ → Prop} (h0 : 0 ≤ i) (h1 : i ≤ 1000000000) (h : l[i.toNat]? = some x) (q : Q (x, l.eraseIdx i.toNat)) : popW l i Q := ⟨⟨h0, by omega⟩, x, h, q⟩
theorem fPop_map {γ : Type} {e : γ → D} {l : List γ} {i : Int} {x : γ} (h0 : 0 ≤ i ∧ i.toNat ≤ 4611686018427387904) (h : l[i.toNat]? = some x) : fPopAt (l.map e) [eI i] = some (e x, (l.eraseIdx i.toNat).map e) := by
  unfold fPopAt eI
  dsimp only
  rw [if_pos (by simp only [Bool.and_eq_true, decide_eq_true_eq, Nat.ble_eq]; exact h0)]
  rw [List.getElem?_map, h]
  have er : ∀ (l : List γ) (n : Nat), (l.map e).eraseIdx n = (l.eraseIdx n).map e := fun l => by
    induction l with
    | nil => intro n; simp
    | cons a l ih => intro n; cases n <;> simp [ih]
  rw [er]; rfl
end Tv

/-! TvO: l.remove(x). -/
namespace Tv
open PySem Pv
end Tv

/-! TvP: a loop over a list that stays its owner's. -/
namespace Tv
open PySem Pv
section
variable {ω δ σ : Type} {mg : GM} {m : SM} {kp : List Nat × List Nat} {R R1 : ω → Rho} {K0 K : σ → ω → Rho} {Kb : δ → σ → ω → Rho} {f : δ → σ → PT σ} {e : δ → D} {l : List δ} {j : Nat}
end
end Tv

/-! TvQ: exceptions with fields. -/
namespace Tv
open PySem Pv
section
variable {pay : Pay} {ω α β γ δ : Type} {me ma mb : EM} {R R1 : ω → Rho} {s : α → SV} {sr : γ → SV} {T : PT (α ⊕ Str)}
end
/-! an if whose block may end the def, whatever it holds: what follows is walked twice -/
section
variable {ω γ : Type} {io : Bool} {mt : TM} {a b m1 n : SM} {R : ω → Rho} {s : γ → SV} {out : γ → ω → SV} {Tt : PT Bool} {T T1 T2 : PT γ}
end
end Tv

/-! TvR: a or b of tuples; defs that change their last argument. -/
namespace Tv
open PySem Pv
section
variable {ω α : Type} {ma mb : EM} {R : ω → Rho} {e : α → D} {Ta Tb : PT (List α)}
end
section
variable {ω α γ : Type} {ms : AM} {R R1 : ω → Rho} {rs : α → List Rv} {Ts : PT α}
end
end Tv

/-! TvS: items of two lists set at once -/
namespace Tv
open PySem Pv
section
variable {ω γ δ : Type} {me m1 m2 : EM} {R R1 : ω → Rho}
end
end Tv

/-! TvT: sorted(set(pairs)), the front of a triple -/
namespace Tv
open PySem Pv
section
variable {α β γ : Type} {e : α → D} {f : β → D} {k : γ → D}
end
end Tv

/-! TvU: a turn goes on behind both ways of an if -/
namespace Tv
open PySem Pv
section
variable {ω β σ : Type} {io : Bool} {esc : Bool} {ks : List Nat} {mt : TM} {a b c d f m1 m2 n : SM} {R R1 : ω → Rho} {KL : σ → ω → Rho} {s : β → SV} {out : β → ω → SV} {Tt : PT Bool} {Tl Tr T : PT (Stp σ β)}
end
end Tv

/-! TvV: str(int) -/
namespace Tv
open PySem Pv
end Tv

/-! TvW: C(..) that may raise: the exception with its payload -/
namespace Pv
open PySem PySem.Spec PySem.SeqAt L2
section
variable {X : Cx} {CT : CTab} {W : WX} {x : Str} {p pos : Pos} {e : Expr} {es : List Expr} {f C : Addr} {j np : Nat} {cm : CM} {mr : AM}
end
end Pv
namespace Tv
open PySem Pv
abbrev Xp := Str × List (Str × D)
section
variable {ω α β γ : Type} {R R1 : ω → Rho} {m : SM} {me : EM} {c : Int} {fs : γ → List D} {T : PT α} {Tf : PT γ}
end
section
variable {ω α γ δ : Type} {ms : AM} {R R1 : ω → Rho} {rs : α → List Rv} {Ts : PT α}
end
section
variable {ω α γ : Type} {io : Bool} {me : EM} {R R1 : ω → Rho} {s : α → SV} {sr : γ → SV} {out : γ → ω → SV} {T : PT (Sum α Xp)}
end
end Tv

/-! TvX: (..).index(x) of a list of ints that no name holds. -/
namespace Tv
open PySem Pv
/-! == of instances by their own __eq__ -/
section
variable {ω α β : Type} {R R1 R2 : ω → Rho} {ma mb : EM} {ra : α → Rv} {rb : β → Rv} {Ta : PT α} {Tb : PT β}
theorem wEqO {c : Int} {em : Int → Option (Nat × CM)} {cm : CM} {fs : α → List D} {gs : β → List D} {t : α → β → PT Bool} (ha : WE ma R ra Ta R1) (hb : WE mb R1 rb Tb R2) (hc : ∀ a b, CW cm [.val (objD c (fs a)), .val (objD c (gs b))] (vV eB) (t a b)) (hm : em c = some (2, cm) := by rfl)
    (h1 : ∀ w a, frz1 (R1 w) (ra a) = some (objD c (fs a), R1 w) := by intro _ _; rfl) (h2 : ∀ w b, frz1 (R2 w) (rb b) = some (objD c (gs b), R2 w) := by intro _ _; rfl) :
    WE (evEqO em ma mb) R (fun x : Bool => .sv (.val (eB x))) (fun Q => Ta fun a => Tb fun b => t a b Q) R2 := fun w Q q => by
  obtain ⟨a, w1, q1, e1⟩ := ha w _ q
  obtain ⟨b, w2, q2, e2⟩ := hb w1 _ q1
  obtain ⟨x, o, q3, e3⟩ := hc a b _ q2
  refine ⟨x, w2, q3, ?_⟩
  have e4 : eqTail em (objD c (fs a)) (objD c (gs b)) (R2 w2) = some (.sv (.val (.bool x)), R2 w2) := by
    show (if c = c then (em c).bind fun m => if m.1 = 2 then (m.2 [.val (objD c (fs a)), .val (objD c (gs b))]).bind fun x => (match x.1 with
      | .val (.bool r) => some (Rv.sv (.val (.bool r)), R2 w2)
      | _ => none) else none else none) = _
    rw [if_pos rfl, hm]
    simp only [Option.bind_some, if_true, e3]
  simp only [evEqO, e1, h1, e2, h2, e4, Option.bind_some]
end
end Tv

/-! TvY: dict comprehensions. -/
namespace Tv
open PySem Pv
section
variable {ω α β γ δ κ : Type} {R R1 : ω → Rho} {mk mv : EM} {mi : IM} {mg : GM} {mt : TM} {vs : List Nat} {e : δ → D} {e' : γ → D} {Ti : PT (List δ)} {R0 : ω → Rho} {Rb Rc : δ → ω → Rho} {rk : δ → κ → Rv} {re : δ → β → Rv} {tt : δ → PT Bool} {tk : δ → PT κ} {tb : δ → PT β} {v : δ → β → γ} {kx : δ → κ → Int}
end
end Tv

/-! TvZ: (raising,) + raising. -/
namespace Tv
open PySem Pv
section
variable {pay : Pay} {ω α β γ : Type} {ma mb : EM} {R : ω → Rho}
end
section
variable {pay : Pay} {ω α δ : Type} {me : EM} {R R1 : ω → Rho} {s : α → SV} {T : PT (Sum α Str)} {K : δ → ω → Rho}
end
end Tv

/-! Ma1: grounds, lots, pits: plain facts. -/
namespace Ma
open Tv
abbrev Cv := List (List Int)
abbrev Lt := List Int
def atC (c : Cv) (b : Int) : Lt := c.getD b.toNat []
def Vcv (c : Cv) : Prop := ∀ (b : Nat) (l : Lt), c[b]? = some l → (∀ x ∈ l, 0 ≤ x ∧ x < b) ∧ l.Pairwise (· < ·)
def Lot (n : Nat) (l : Lt) : Prop := l.Pairwise (· < ·) ∧ ∀ x ∈ l, 0 ≤ x ∧ x < n
theorem atC_get {c : Cv} {b : Int} (h0 : 0 ≤ b) (h1 : b < c.length) : c[b.toNat]? = some (atC c b) := by
  have h : b.toNat < c.length := by omega
  simp [atC, h]
theorem atC_of {c : Cv} {i : Nat} {l : Lt} (h : c[i]? = some l) : atC c (i : Int) = l := by
  have hi := (List.getElem?_eq_some_iff.mp h).1
  have : atC c (i : Int) = c[i] := by simp [atC, hi]
  rw [this]; exact (List.getElem?_eq_some_iff.mp h).2
theorem Vcv.at {c : Cv} (h : Vcv c) {b : Int} (h0 : 0 ≤ b) {o : Int} (ho : o ∈ atC c b) : 0 ≤ o ∧ o < b := by
  by_cases h1 : b < c.length
  · have := (h b.toNat _ (atC_get h0 h1)).1 o ho
    omega
  · unfold atC at ho
    rw [List.getD_eq_getElem?_getD, List.getElem?_eq_none (by omega)] at ho
    simp at ho
theorem Vcv.asc {c : Cv} (h : Vcv c) {b : Int} (h0 : 0 ≤ b) : (atC c b).Pairwise (· < ·) := by
  by_cases h1 : b < c.length
  · exact (h b.toNat _ (atC_get h0 h1)).2
  · unfold atC
    rw [List.getD_eq_getElem?_getD, List.getElem?_eq_none (by omega)]
    simp
theorem Vcv.nil : Vcv [] := fun b l h => by simp at h
theorem Vcv.snoc {c : Cv} {l : Lt} (h : Vcv c) (h1 : ∀ x ∈ l, 0 ≤ x ∧ x < c.length) (h2 : l.Pairwise (· < ·)) : Vcv (c ++ [l]) := by
  intro b m e
  by_cases hb : b < c.length
  · rw [List.getElem?_append_left hb] at e; exact h b m e
  · rw [List.getElem?_append_right (by omega)] at e
    have hz : b - c.length = 0 := by
      have := (List.getElem?_eq_some_iff.mp e).1
      simp at this; omega
    rw [hz] at e
    simp at e
    subst e
    have : b = c.length := by omega
    subst this
    exact ⟨h1, h2⟩
theorem asc_len {n : Nat} {l : Lt} (h : Lot n l) : l.length ≤ n := by
  have h1 : (l.map Int.toNat).Nodup := by
    rw [List.nodup_iff_pairwise_ne, List.pairwise_map]
    refine List.Pairwise.imp_of_mem ?_ h.1
    intro a b ha hb hab
    have := h.2 a ha
    have := h.2 b hb
    omega
  have := List.Nodup.length_le_of_subset h1 (l₂ := List.range n) fun x hx => by
    obtain ⟨a, ha, rfl⟩ := List.mem_map.mp hx
    have := h.2 a ha
    exact List.mem_range.mpr (by omega)
  simpa using this
theorem Lot.nil {n : Nat} : Lot n [] := ⟨by simp, by simp⟩
theorem Lot.mono {n m : Nat} {l : Lt} (h : Lot n l) (hm : n ≤ m) : Lot m l := ⟨h.1, fun x hx => by have := h.2 x hx; omega⟩
theorem Lot.sub {n : Nat} {l m : Lt} (h : Lot n l) (s : m.Sublist l) : Lot n m := ⟨h.1.sublist s, fun x hx => h.2 x (s.subset hx)⟩
theorem Lot.range {n : Nat} : Lot n (rangeL 0 n) := ⟨rangeL_lt, fun x hx => by have := mem_rangeL.mp hx; omega⟩
theorem Lot.snoc {n : Nat} {l : Lt} (h : Lot n l) : Lot (n + 1) (l ++ [(n : Int)]) := by
  refine ⟨?_, fun x hx => ?_⟩
  · rw [List.pairwise_append]
    exact ⟨h.1, by simp, fun a ha b hb => by have := h.2 a ha; simp at hb; omega⟩
  · rcases List.mem_append.mp hx with hx | hx
    · have := h.2 x hx; omega
    · simp at hx; omega
theorem asc_ext : ∀ {l m : Lt}, l.Pairwise (· < ·) → m.Pairwise (· < ·) → (∀ x, x ∈ l ↔ x ∈ m) → l = m
  | [], m, _, _, h => by
    cases m with
    | nil => rfl
    | cons y ys => exact absurd ((h y).mpr (by simp)) (by simp)
  | x :: xs, [], _, _, h => absurd ((h x).mp (by simp)) (by simp)
  | x :: xs, y :: ys, hl, hm, h => by
    rw [List.pairwise_cons] at hl hm
    have e : x = y := by
      have h1 := (h x).mp (by simp)
      have h2 := (h y).mpr (by simp)
      rcases List.mem_cons.mp h1 with h1 | h1
      · exact h1
      · rcases List.mem_cons.mp h2 with h2 | h2
        · exact h2.symm
        · have := hm.1 x h1; have := hl.1 y h2; omega
    subst e
    have e2 : xs = ys := asc_ext hl.2 hm.2 fun z => by
      constructor
      · intro hz
        rcases List.mem_cons.mp ((h z).mp (List.mem_cons_of_mem _ hz)) with e | e
        · subst e; have := hl.1 z hz; omega
        · exact e
      · intro hz
        rcases List.mem_cons.mp ((h z).mpr (List.mem_cons_of_mem _ hz)) with e | e
        · subst e; have := hm.1 z hz; omega
        · exact e
    rw [e2]
/-! all lots -/
def rawL : Nat → List Lt
  | 0 => [[]]
  | n + 1 => rawL n ++ (rawL n).map (· ++ [(n : Int)])
theorem rawL_len : ∀ n, (rawL n).length = 2 ^ n
  | 0 => rfl
  | n + 1 => by simp [rawL, rawL_len n, Nat.pow_succ]; omega
theorem rawL_small {n : Nat} (h : n ≤ 10) : (rawL n).length ≤ 1024 := by
  rw [rawL_len]
  exact Nat.pow_le_pow_right (by decide) h
theorem mem_rawL : ∀ {n : Nat} {l : Lt}, l ∈ rawL n ↔ Lot n l
  | 0, l => by
    simp only [rawL, List.mem_singleton]
    constructor
    · rintro rfl; exact Lot.nil
    · intro h
      cases l with
      | nil => rfl
      | cons x xs => have := h.2 x (by simp); omega
  | n + 1, l => by
    simp only [rawL, List.mem_append, List.mem_map]
    constructor
    · rintro (h | ⟨m, h, rfl⟩)
      · exact (mem_rawL.mp h).mono (by omega)
      · exact (mem_rawL.mp h).snoc
    · intro h
      by_cases hn : (n : Int) ∈ l
      · refine .inr ⟨l.filter (fun x => decide (x < n)), mem_rawL.mpr ⟨h.1.filter _, fun x hx => ?_⟩, ?_⟩
        · have h1 := List.mem_filter.mp hx
          have := h.2 x h1.1
          have := of_decide_eq_true h1.2
          omega
        · refine asc_ext ?_ h.1 fun x => ?_
          · rw [List.pairwise_append]
            exact ⟨h.1.filter _, by simp, fun a ha b hb => by
              have := of_decide_eq_true (List.mem_filter.mp ha).2
              simp at hb; omega⟩
          · simp only [List.mem_append, List.mem_filter, decide_eq_true_eq, List.mem_singleton]
            constructor
            · rintro (⟨h1, _⟩ | rfl)
              · exact h1
              · exact hn
            · intro hx
              have := h.2 x hx
              by_cases e : x = n
              · exact .inr e
              · exact .inl ⟨hx, by omega⟩
      · refine .inl (mem_rawL.mpr ⟨h.1, fun x hx => ?_⟩)
        have := h.2 x hx
        have : x ≠ n := fun e => hn (e ▸ hx)
        omega
theorem rawL_nodup : ∀ n, (rawL n).Nodup
  | 0 => by simp [rawL]
  | n + 1 => by
    simp only [rawL]
    rw [List.nodup_append]
    refine ⟨rawL_nodup n, ?_, ?_⟩
    · rw [List.nodup_iff_pairwise_ne, List.pairwise_map]
      have := List.nodup_iff_pairwise_ne.mp (rawL_nodup n)
      exact this.imp fun h e => h (by simpa using e)
    · intro a ha b hb e
      obtain ⟨m, hm, rfl⟩ := List.mem_map.mp hb
      have h1 := (mem_rawL.mp ha).2 n (by rw [e]; simp)
      omega
/-! the order of lots -/
def szd (l : Lt) : Int × Lt := ((l.length : Int), l)
abbrev ltZ : Int × Lt → Int × Lt → Bool := ltP ltI (ltLex ltI)
theorem ltZ_tot : TotB ltZ := ltP_tot ltI_tot (ltLex_tot ltI_tot)
abbrev ltS (a b : Lt) : Bool := ltZ (szd a) (szd b)
theorem szd_inj (a b : Lt) (h : szd a = szd b) : a = b := (Prod.mk.inj h).2
theorem ltS_tot : TotB ltS := ⟨fun a => ltZ_tot.irr _, fun a b c => ltZ_tot.trans _ _ _, fun a b h1 h2 => szd_inj _ _ (ltZ_tot.tri _ _ h1 h2)⟩
def srtS (l : List Lt) : List Lt := sortB ltS l
theorem srtS_perm (l : List Lt) : (srtS l).Perm l := sortB_perm l
theorem srtS_sorted (l : List Lt) : (srtS l).Pairwise (fun a b => ltS b a = false) := sortB_sorted ltS_tot l
theorem srtS_uniq {l m : List Lt} (p : m.Perm l) (s : m.Pairwise (fun a b => ltS b a = false)) : m = srtS l := (sortB_eq ltS_tot p s).symm
theorem srtS_filter (p : Lt → Bool) (l : List Lt) : (srtS l).filter p = srtS (l.filter p) := srtS_uniq ((srtS_perm l).filter p) ((srtS_sorted l).filter p)
theorem srtS_mem {l : List Lt} {x : Lt} : x ∈ srtS l ↔ x ∈ l := (srtS_perm l).mem_iff
theorem srtS_len (l : List Lt) : (srtS l).length = l.length := (srtS_perm l).length_eq
theorem srtS_nodup {l : List Lt} (h : l.Nodup) : (srtS l).Nodup := (srtS_perm l).nodup_iff.mpr h
theorem sortK_srtS (l : List Lt) : sortKB ltZ l (l.map szd) = srtS l := sortKB_eq ltZ_tot szd_inj (srtS_perm l) (srtS_sorted l)
def lotsL (n : Nat) : List Lt := srtS (rawL n)
theorem mem_lotsL {n : Nat} {l : Lt} : l ∈ lotsL n ↔ Lot n l := srtS_mem.trans mem_rawL
theorem lotsL_small {n : Nat} (h : n ≤ 10) : (lotsL n).length ≤ 1024 := by rw [lotsL, srtS_len]; exact rawL_small h
/-! pits -/
def isPitB (c : Cv) (l : Lt) : Bool := l.all fun b => (atC c b).all fun o => decide (o ∈ l)
theorem isPitB_iff {c : Cv} {l : Lt} : isPitB c l = true ↔ ∀ b ∈ l, ∀ o ∈ atC c b, o ∈ l := by simp [isPitB]
def pitsL (c : Cv) : List Lt := (lotsL c.length).filter (isPitB c)
structure Pit (c : Cv) (l : Lt) : Prop where
  lot : Lot c.length l
  full : ∀ b ∈ l, ∀ o ∈ atC c b, o ∈ l
theorem mem_pitsL {c : Cv} {l : Lt} : l ∈ pitsL c ↔ Pit c l := by
  simp only [pitsL, List.mem_filter, mem_lotsL, isPitB_iff]
  exact ⟨fun h => ⟨h.1, h.2⟩, fun h => ⟨h.lot, h.full⟩⟩
theorem pitsL_len {c : Cv} (h : c.length ≤ 10) : (pitsL c).length ≤ 1024 := Nat.le_trans (List.length_filter_le _ _) (lotsL_small h)
theorem pitsL_eq (c : Cv) : pitsL c = srtS ((rawL c.length).filter (isPitB c)) := srtS_filter _ _
theorem pitsL_nodup (c : Cv) : (pitsL c).Nodup := (srtS_nodup (rawL_nodup _)).filter _
theorem pit_nil (c : Cv) : Pit c [] := ⟨Lot.nil, by simp⟩
theorem pitsL_ne (c : Cv) : pitsL c ≠ [] := fun e => by
  have := mem_pitsL.mpr (pit_nil c)
  rw [e] at this; simp at this
theorem raw_pits_succ {c : Cv} (h : Vcv c) (n : Nat) : (rawL (n + 1)).filter (isPitB c) = (rawL n).filter (isPitB c) ++ (((rawL n).filter (isPitB c)).filter fun l => (atC c (n : Int)).all fun o => decide (o ∈ l)).map (· ++ [(n : Int)]) := by
  simp only [rawL, List.filter_append, List.filter_map, List.filter_filter]
  congr 2
  refine List.filter_congr fun l hl => ?_
  have hl := mem_rawL.mp hl
  show isPitB c (l ++ [(n : Int)]) = _
  rw [Bool.eq_iff_iff, Bool.and_eq_true, isPitB_iff, isPitB_iff, List.all_eq_true]
  constructor
  · intro q
    refine ⟨fun o ho => ?_, fun b hb o ho => ?_⟩
    · have h1 := q n (by simp) o ho
      have h2 := h.at (by omega) ho
      rw [decide_eq_true_eq]
      rcases List.mem_append.mp h1 with z | z
      · exact z
      · simp at z; omega
    · have h1 := q b (List.mem_append_left _ hb) o ho
      have h3 := hl.2 b hb
      have h2 := h.at h3.1 ho
      rcases List.mem_append.mp h1 with z | z
      · exact z
      · simp at z; omega
  · rintro ⟨q1, q2⟩ b hb o ho
    rcases List.mem_append.mp hb with z | z
    · exact List.mem_append_left _ (q2 b z o ho)
    · simp at z; subst z
      exact List.mem_append_left _ (of_decide_eq_true (q1 o ho))
end Ma

/-! Ma2: worths, best pits, meets and joins. -/
namespace Ma
open Tv Pv
def wAt (w : List Int) (b : Int) : Int := w.getD b.toNat 0
def sumW (w : List Int) (l : Lt) : Int := (l.map (wAt w)).sum
structure Wor (n : Nat) (w : List Int) : Prop where
  len : w.length = n
  bd : ∀ x ∈ w, -50 ≤ x ∧ x ≤ 50
theorem wAt_get {w : List Int} {b : Int} (h0 : 0 ≤ b) (h1 : b < w.length) : w[b.toNat]? = some (wAt w b) := by
  have h : b.toNat < w.length := by omega
  simp [wAt, h]
/-! the greatest -/
theorem maxB_ge : ∀ (xs : List Int) (x : Int), x ≤ maxB ltI x xs ∧ ∀ y ∈ xs, y ≤ maxB ltI x xs
  | [], x => ⟨Int.le_refl _, by simp⟩
  | y :: ys, x => by
    have e : maxB ltI x (y :: ys) = maxB ltI (if ltI x y = true then y else x) ys := rfl
    have ih := maxB_ge ys (if ltI x y = true then y else x)
    rw [e]
    by_cases h : x < y
    · rw [if_pos (by simpa using h)] at ih ⊢
      refine ⟨by omega, fun z hz => ?_⟩
      rcases List.mem_cons.mp hz with rfl | hz
      · exact ih.1
      · exact ih.2 z hz
    · rw [if_neg (by simpa using h)] at ih ⊢
      refine ⟨ih.1, fun z hz => ?_⟩
      rcases List.mem_cons.mp hz with rfl | hz
      · have := ih.1; omega
      · exact ih.2 z hz
theorem maxB_mem : ∀ (xs : List Int) (x : Int), maxB ltI x xs ∈ x :: xs
  | [], x => by simp [maxB]
  | y :: ys, x => by
    have e : maxB ltI x (y :: ys) = maxB ltI (if ltI x y = true then y else x) ys := rfl
    rw [e]
    have ih := maxB_mem ys (if ltI x y = true then y else x)
    rcases List.mem_cons.mp ih with h | h
    · rw [h]; split <;> simp
    · exact List.mem_cons_of_mem _ (List.mem_cons_of_mem _ h)
def maxL : List Int → Int
  | [] => 0
  | x :: xs => maxB ltI x xs
theorem maxL_ge {l : List Int} {x : Int} (h : x ∈ l) : x ≤ maxL l := by
  cases l with
  | nil => simp at h
  | cons y ys =>
    rcases List.mem_cons.mp h with rfl | h
    · exact (maxB_ge ys x).1
    · exact (maxB_ge ys y).2 x h
theorem maxL_mem {l : List Int} (h : l ≠ []) : maxL l ∈ l := by
  cases l with
  | nil => exact absurd rfl h
  | cons y ys => exact maxB_mem ys y
theorem maxW_ok {l : List Int} {Q : Int → Prop} (h : l ≠ []) (q : Q (maxL l)) : maxW ltI l Q := by
  cases l with
  | nil => exact absurd rfl h
  | cons y ys => exact q
/-! best pits -/
def most (c : Cv) (w : List Int) : Int := maxL ((pitsL c).map (sumW w))
def bestL (c : Cv) (w : List Int) : List Lt := (pitsL c).filter fun p => decide (sumW w p = most c w)
theorem most_ge {c : Cv} {w : List Int} {p : Lt} (h : Pit c p) : sumW w p ≤ most c w := maxL_ge (List.mem_map_of_mem (mem_pitsL.mpr h))
theorem most_at (c : Cv) (w : List Int) : ∃ p, Pit c p ∧ sumW w p = most c w := by
  have := maxL_mem (l := (pitsL c).map (sumW w)) (by simpa using pitsL_ne c)
  obtain ⟨p, hp, e⟩ := List.mem_map.mp this
  exact ⟨p, mem_pitsL.mp hp, e⟩
theorem mem_bestL {c : Cv} {w : List Int} {p : Lt} : p ∈ bestL c w ↔ Pit c p ∧ sumW w p = most c w := by
  simp only [bestL, List.mem_filter, mem_pitsL, decide_eq_true_eq]
theorem best_of {c : Cv} {w : List Int} {p : Lt} (h : Pit c p) (hs : most c w ≤ sumW w p) : p ∈ bestL c w := mem_bestL.mpr ⟨h, by have := most_ge (w := w) h; omega⟩
theorem bestL_ne (c : Cv) (w : List Int) : bestL c w ≠ [] := fun e => by
  obtain ⟨p, hp, hs⟩ := most_at c w
  have := mem_bestL.mpr ⟨hp, hs⟩
  rw [e] at this; simp at this
theorem bestL_sorted (c : Cv) (w : List Int) : (bestL c w).Pairwise (fun a b => ltS b a = false) := by
  have h1 : (pitsL c).Pairwise (fun a b => ltS b a = false) := by
    rw [pitsL_eq]; exact srtS_sorted _
  exact h1.filter _
theorem ltS_len {a b : Lt} (h : ltS b a = false) : a.length ≤ b.length := by
  by_cases e : (szd b).1 = (szd a).1
  · have e' : (b.length : Int) = (a.length : Int) := e
    omega
  · have h1 : ltP ltI (ltLex ltI) (szd b) (szd a) = ltI (szd b).1 (szd a).1 := by unfold ltP; rw [if_neg e]
    have h2 : ltI (szd b).1 (szd a).1 = false := h1.symm.trans h
    have h3 : ¬ ((b.length : Int) < (a.length : Int)) := by
      have := of_decide_eq_false h2
      exact this
    omega
/-! meets and joins -/
def meet (l m : Lt) : Lt := l.filter fun x => decide (x ∈ m)
def join (l m : Lt) : Lt := ssrt (l ++ m)
theorem mem_meet {l m : Lt} {x : Int} : x ∈ meet l m ↔ x ∈ l ∧ x ∈ m := by simp [meet]
theorem mem_join {l m : Lt} {x : Int} : x ∈ join l m ↔ x ∈ l ∨ x ∈ m := by rw [join, ssrt_mem, List.mem_append]
theorem ssrt_lt (ns : List Int) : (ssrt ns).Pairwise (· < ·) := by
  have h1 := ssrt_le ns
  have h2 : (ssrt ns).Nodup := (ssrt_perm ns).nodup_iff.mpr (dd_nodup ns)
  have h3 := List.nodup_iff_pairwise_ne.mp h2
  exact (h1.and h3).imp fun h => by have := h.1; have := h.2; omega
theorem Lot.meet {n : Nat} {l m : Lt} (h : Lot n l) : Lot n (meet l m) := h.sub List.filter_sublist
theorem Lot.join {n : Nat} {l m : Lt} (h : Lot n l) (g : Lot n m) : Lot n (join l m) := ⟨ssrt_lt _, fun x hx => (mem_join.mp hx).elim (h.2 x) (g.2 x)⟩
theorem Pit.meet {c : Cv} {l m : Lt} (h : Pit c l) (g : Pit c m) : Pit c (meet l m) := ⟨h.lot.meet, fun b hb o ho => by
  rw [mem_meet] at hb ⊢
  exact ⟨h.full b hb.1 o ho, g.full b hb.2 o ho⟩⟩
theorem Pit.join {c : Cv} {l m : Lt} (h : Pit c l) (g : Pit c m) : Pit c (join l m) := ⟨h.lot.join g.lot, fun b hb o ho => by
  rw [mem_join] at hb ⊢
  exact hb.elim (fun z => .inl (h.full b z o ho)) fun z => .inr (g.full b z o ho)⟩
theorem lot_filter {n : Nat} {l : Lt} (h : Lot n l) : l = (rangeL 0 n).filter fun x => decide (x ∈ l) := by
  refine asc_ext h.1 (rangeL_lt.filter _) fun x => ?_
  simp only [List.mem_filter, mem_rangeL, decide_eq_true_eq]
  exact ⟨fun hx => ⟨by have := h.2 x hx; omega, hx⟩, fun hx => hx.2⟩
theorem sum_filter (f : Int → Int) (p : Int → Bool) : ∀ l : Lt, ((l.filter p).map f).sum = (l.map fun x => if p x = true then f x else 0).sum
  | [] => rfl
  | x :: xs => by
    have ih := sum_filter f p xs
    by_cases h : p x = true
    · simp [h, ih]
    · simp [h, ih]
theorem sumW_ind {n : Nat} {w : List Int} {l : Lt} (h : Lot n l) : sumW w l = ((rangeL 0 n).map fun x => if x ∈ l then wAt w x else 0).sum := by
  have e := lot_filter h
  unfold sumW
  conv => lhs; rw [e]
  rw [sum_filter]
  simp only [decide_eq_true_eq]
theorem sum_map_add (f g : Int → Int) : ∀ l : Lt, (l.map f).sum + (l.map g).sum = (l.map fun x => f x + g x).sum
  | [] => rfl
  | x :: xs => by
    have ih := sum_map_add f g xs
    simp only [List.map_cons, List.sum_cons]
    omega
theorem sum_map_congr {f g : Int → Int} : ∀ {l : Lt}, (∀ x ∈ l, f x = g x) → (l.map f).sum = (l.map g).sum := fun h => by rw [List.map_congr_left h]
theorem sum_meet_join {n : Nat} {w : List Int} {l m : Lt} (h : Lot n l) (g : Lot n m) : sumW w (meet l m) + sumW w (join l m) = sumW w l + sumW w m := by
  rw [sumW_ind h.meet, sumW_ind (h.join g), sumW_ind h, sumW_ind g, sum_map_add, sum_map_add]
  refine sum_map_congr fun x _ => ?_
  simp only [mem_meet, mem_join]
  by_cases h1 : x ∈ l <;> by_cases h2 : x ∈ m <;> simp [h1, h2]
theorem best_meet_join {c : Cv} {w : List Int} {l m : Lt} (h : l ∈ bestL c w) (g : m ∈ bestL c w) : meet l m ∈ bestL c w ∧ join l m ∈ bestL c w := by
  rw [mem_bestL] at h g
  have e := sum_meet_join (w := w) h.1.lot g.1.lot
  have h1 := most_ge (w := w) (h.1.meet g.1)
  have h2 := most_ge (w := w) (h.1.join g.1)
  exact ⟨best_of (h.1.meet g.1) (by omega), best_of (h.1.join g.1) (by omega)⟩
def minus (l m : Lt) : Lt := l.filter fun x => !decide (x ∈ m)
theorem mem_minus {l m : Lt} {x : Int} : x ∈ minus l m ↔ x ∈ l ∧ x ∉ m := by simp [minus]
theorem Lot.minus {n : Nat} {l m : Lt} (h : Lot n l) : Lot n (minus l m) := h.sub List.filter_sublist
theorem asc_sub_eq {l m : Lt} (hl : l.Pairwise (· < ·)) (hm : m.Pairwise (· < ·)) (hs : ∀ x ∈ l, x ∈ m) (hn : m.length ≤ l.length) : l = m := by
  refine asc_ext hl hm fun x => ⟨hs x, fun hx => ?_⟩
  have nl : l.Nodup := List.nodup_iff_pairwise_ne.mpr (hl.imp fun h => by omega)
  have nm : m.Nodup := List.nodup_iff_pairwise_ne.mpr (hm.imp fun h => by omega)
  exact Classical.byContradiction fun hx' => by
    have h1 : (x :: l).Nodup := List.nodup_cons.mpr ⟨hx', nl⟩
    have := List.Nodup.length_le_of_subset h1 (l₂ := m) fun y hy => by
      rcases List.mem_cons.mp hy with rfl | hy
      · exact hx
      · exact hs y hy
    simp at this
    omega
theorem best_head_len {c : Cv} {w : List Int} {a p : Lt} (h : (bestL c w)[0]? = some a) (hp : p ∈ bestL c w) : a.length ≤ p.length := by
  cases e : bestL c w with
  | nil => exact absurd e (bestL_ne c w)
  | cons x xs =>
    rw [e] at h hp
    simp at h; subst h
    rcases List.mem_cons.mp hp with rfl | hp
    · exact Nat.le_refl _
    · have hs := bestL_sorted c w
      rw [e, List.pairwise_cons] at hs
      exact ltS_len (hs.1 p hp)
theorem best_least {c : Cv} {w : List Int} {a p : Lt} (h : (bestL c w)[0]? = some a) (hp : p ∈ bestL c w) : meet a p = a := by
  have ha : a ∈ bestL c w := List.mem_of_getElem? h
  have h1 := (best_meet_join ha hp).1
  have h2 := best_head_len h h1
  exact asc_sub_eq (mem_bestL.mp h1).1.lot.1 (mem_bestL.mp ha).1.lot.1 (fun x hx => (mem_meet.mp hx).1) h2
theorem least_sub {c : Cv} {w : List Int} {a p : Lt} (h : (bestL c w)[0]? = some a) (hp : p ∈ bestL c w) : ∀ x ∈ a, x ∈ p := fun x hx => by
  rw [← best_least h hp] at hx
  exact (mem_meet.mp hx).2
end Ma

/-! Ma6: tables, rules, profiles -/
namespace Ma
open PySem Pv Tv
abbrev Rl := List (List Int)
def r0 (rs : Rl) (i : Nat) : Int := (rs.getD i []).getD 0 0
def r1 (rs : Rl) (i : Nat) : Int := (rs.getD i []).getD 1 0
def pt (p : List Int) (i : Nat) : Int := p.getD i 0
theorem pt_get {p : List Int} {i : Nat} (h : i < p.length) : p[i]? = some (pt p i) := by simp [pt, h]
theorem pt_of {p : List Int} {i : Nat} {x : Int} (h : p[i]? = some x) : pt p i = x := by simp [pt, h]
theorem pt_mem {p : List Int} {i : Nat} (h : i < p.length) : pt p i ∈ p := List.mem_of_getElem? (pt_get h)
structure Rul (n : Nat) (rs : Rl) : Prop where
  len : rs.length + 1 = n
  ok : ∀ r ∈ rs, ∃ a b, r = [a, b] ∧ 1 ≤ a ∧ a ≤ 9 ∧ 1 ≤ b ∧ b ≤ 9
theorem Rul.at {n : Nat} {rs : Rl} (h : Rul n rs) {i : Nat} (hi : i < rs.length) : rs[i]? = some [r0 rs i, r1 rs i] ∧ 1 ≤ r0 rs i ∧ r0 rs i ≤ 9 ∧ 1 ≤ r1 rs i ∧ r1 rs i ≤ 9 := by
  obtain ⟨a, b, e, h1, h2, h3, h4⟩ := h.ok rs[i] (List.getElem_mem hi)
  have e2 : rs[i]? = some [a, b] := by rw [List.getElem?_eq_getElem hi, e]
  have ea : r0 rs i = a := by simp [r0, e2]
  have eb : r1 rs i = b := by simp [r1, e2]
  rw [ea, eb]
  exact ⟨e2, h1, h2, h3, h4⟩
theorem Rul.nn {n : Nat} {rs : Rl} (h : Rul n rs) (i : Nat) : 0 ≤ r0 rs i ∧ 0 ≤ r1 rs i := by
  by_cases hi : i < rs.length
  · have := h.at hi; omega
  · simp [r0, r1, List.getElem?_eq_none (Nat.le_of_not_lt hi)]
def Stp1 (rs : Rl) (p : List Int) (i : Nat) : Prop := pt p i - pt p (i + 1) ≤ r0 rs i ∧ pt p (i + 1) - pt p i ≤ r1 rs i
def Lets (rs : Rl) (p : List Int) : Prop := ∀ i, i + 1 < p.length → Stp1 rs p i
structure Tab (cs : List Int) (rs : Rl) : Prop where
  rul : Rul cs.length rs
  len : cs.length ≤ 5
  bd : ∀ c ∈ cs, 1 ≤ c ∧ c ≤ 10
  sum : cs.sum ≤ 10
  lets : Lets rs cs
theorem Tab.pos {cs : List Int} {rs : Rl} (h : Tab cs rs) : 1 ≤ cs.length := by have := h.rul.len; omega
theorem Tab.rl {cs : List Int} {rs : Rl} (h : Tab cs rs) : rs.length ≤ 4 := by have := h.rul.len; have := h.len; omega
/-! slacks -/
def up (rs : Rl) (i : Nat) : Nat → Int
  | 0 => 0
  | n + 1 => up rs i n + r0 rs (i + n)
def dn (rs : Rl) (j : Nat) : Nat → Int
  | 0 => 0
  | n + 1 => dn rs j n + r1 rs (j + n)
def sl (rs : Rl) (i j : Nat) : Int := if i < j then up rs i (j - i) else dn rs j (i - j)
theorem Lets.le {rs : Rl} {p : List Int} (h : Lets rs p) {i j : Nat} (hi : i < p.length) (hj : j < p.length) : pt p i ≤ pt p j + sl rs i j := by
  have u : ∀ (n i : Nat), i + n < p.length → pt p i ≤ pt p (i + n) + up rs i n := by
    intro n
    induction n with
    | zero => intro i _; simp [up]
    | succ n ih =>
      intro i hn
      have h1 := ih i (by omega)
      have h2 := (h (i + n) (by omega)).1
      rw [up, ← Nat.add_assoc]; omega
  have d : ∀ (n j : Nat), j + n < p.length → pt p (j + n) ≤ pt p j + dn rs j n := by
    intro n
    induction n with
    | zero => intro i _; simp [dn]
    | succ n ih =>
      intro i hn
      have h1 := ih i (by omega)
      have h2 := (h (i + n) (by omega)).2
      rw [dn, ← Nat.add_assoc]; omega
  unfold sl; split
  · have := u (j - i) i (by omega); rwa [show i + (j - i) = j by omega] at this
  · have := d (i - j) j (by omega); rwa [show j + (i - j) = i by omega] at this
/-! the deepest and the shallowest -/
/-! all rows of depths -/
def ext1 (s : Int) (row : List Int) : List (List Int) := (rangeL 0 (s + 1).toNat).map fun d => row ++ [d]
def ext (acc : List (List Int)) (s : Int) : List (List Int) := acc.flatMap (ext1 s)
theorem snoc_ind {α : Type} {P : List α → Prop} (h0 : P []) (h1 : ∀ l x, P l → P (l ++ [x])) (l : List α) : P l := by
  have : ∀ n (l : List α), l.length = n → P l := by
    intro n
    induction n with
    | zero => intro l hl; rw [List.length_eq_zero_iff.mp hl]; exact h0
    | succ n ih =>
      intro l hl
      have hne : l ≠ [] := by intro e; subst e; simp at hl
      rw [← List.dropLast_concat_getLast hne]
      exact h1 _ _ (ih _ (by simp; omega))
  exact this _ l rfl
/-! profiles -/
/-! slices of rules -/
/-! ways of answering -/
end Ma

/-! Ma7: depths that were seen -/
namespace Ma
open PySem Pv Tv
abbrev Sn := List (Option Int)
def sAt (s : Sn) (i : Nat) : Option Int := s.getD i none
def Agr (s : Sn) (p : List Int) : Prop := ∀ i, i < s.length → ∀ d, sAt s i = some d → pt p i = d
structure Seen (cs : List Int) (s : Sn) : Prop where
  len : s.length = cs.length
  ok : ∀ i, i < cs.length → ∀ d, sAt s i = some d → 0 ≤ d ∧ d ≤ pt cs i
section
variable {cs : List Int} {rs : Rl} {s : Sn}
end
end Ma

/-! Ma4: all that a block needs; least and greatest pits of a lot. -/
namespace Ma
open PySem Pv Tv
inductive Rch (c : Cv) : Int → Int → Prop
  | one {b o : Int} : o ∈ atC c b → Rch c b o
  | step {b o x : Int} : o ∈ atC c b → Rch c o x → Rch c b x
theorem Rch.lt {c : Cv} (h : Vcv c) {b x : Int} (r : Rch c b x) : 0 ≤ b → 0 ≤ x ∧ x < b := by
  induction r with
  | one ho => exact fun h0 => h.at h0 ho
  | step ho _ ih =>
    intro h0
    have := h.at h0 ho
    have := ih this.1
    omega
theorem Rch.trans {c : Cv} {b o x : Int} (r : Rch c b o) (q : Rch c o x) : Rch c b x := by
  induction r with
  | one ho => exact .step ho q
  | step ho _ ih => exact .step ho (ih q)
theorem Rch.pit {c : Cv} {p : Lt} (h : Pit c p) {b x : Int} (r : Rch c b x) : b ∈ p → x ∈ p := by
  induction r with
  | one ho => exact fun hb => h.full _ hb _ ho
  | step ho _ ih => exact fun hb => ih (h.full _ hb _ ho)
structure Clo (c : Cv) (n : Nat) (r : Cv) : Prop where
  len : r.length = n
  mem : ∀ b : Int, 0 ≤ b → b < n → ∀ x, x ∈ atC r b ↔ Rch c b x
  asc : ∀ b : Int, 0 ≤ b → b < n → (atC r b).Pairwise (· < ·)
theorem Clo.lot {c : Cv} {n : Nat} {r : Cv} (h : Clo c n r) (hv : Vcv c) {b : Int} (h0 : 0 ≤ b) (h1 : b < n) : Lot b.toNat (atC r b) := ⟨h.asc b h0 h1, fun x hx => by
  have := ((h.mem b h0 h1 x).mp hx).lt hv h0
  omega⟩
theorem Clo.nil {c : Cv} : Clo c 0 [] := ⟨rfl, fun b h0 h1 => by omega, fun b h0 h1 => by omega⟩
theorem atC_snoc_l {r : Cv} {l : Lt} {b : Int} (h0 : 0 ≤ b) (h1 : b < r.length) : atC (r ++ [l]) b = atC r b := by
  unfold atC
  rw [List.getD_eq_getElem?_getD, List.getD_eq_getElem?_getD, List.getElem?_append_left (by omega)]
theorem atC_snoc_r {r : Cv} {l : Lt} : atC (r ++ [l]) (r.length : Int) = l := by
  unfold atC
  rw [List.getD_eq_getElem?_getD]; simp
theorem Clo.snoc {c : Cv} {n : Nat} {r : Cv} {l : Lt} (h : Clo c n r) (h1 : l.Pairwise (· < ·)) (h2 : ∀ x, x ∈ l ↔ Rch c (n : Int) x) : Clo c (n + 1) (r ++ [l]) := by
  have hl := h.len
  refine ⟨by simp [hl], fun b b0 b1 x => ?_, fun b b0 b1 => ?_⟩
  · by_cases e : b < n
    · rw [atC_snoc_l b0 (by omega)]; exact h.mem b b0 e x
    · obtain rfl : b = (n : Int) := by omega
      rw [← hl, atC_snoc_r, hl]; exact h2 x
  · by_cases e : b < n
    · rw [atC_snoc_l b0 (by omega)]; exact h.asc b b0 e
    · obtain rfl : b = (n : Int) := by omega
      rw [← hl, atC_snoc_r]; exact h1
/-! parts of all pits -/
/-! of a lot -/
structure IsLeast (c : Cv) (l a : Lt) : Prop where
  asc : a.Pairwise (· < ·)
  mem : ∀ x, x ∈ a ↔ x ∈ l ∨ ∃ b ∈ l, Rch c b x
theorem IsLeast.pit {c : Cv} {l a : Lt} (h : IsLeast c l a) (hv : Vcv c) (hl : Lot c.length l) : Pit c a := by
  refine ⟨⟨h.asc, fun x hx => ?_⟩, fun b hb o ho => ?_⟩
  · rcases (h.mem x).mp hx with hx | ⟨b, hb, r⟩
    · exact hl.2 x hx
    · have := hl.2 b hb
      have := r.lt hv this.1
      omega
  · rw [h.mem]
    rcases (h.mem b).mp hb with hb | ⟨d, hd, r⟩
    · exact .inr ⟨b, hb, .one ho⟩
    · exact .inr ⟨d, hd, r.trans (.one ho)⟩
theorem IsLeast.sub {c : Cv} {l a p : Lt} (h : IsLeast c l a) (hp : Pit c p) (hs : ∀ x ∈ l, x ∈ p) : ∀ x ∈ a, x ∈ p := fun x hx => by
  rcases (h.mem x).mp hx with hx | ⟨b, hb, r⟩
  · exact hs x hx
  · exact r.pit hp (hs b hb)
structure IsGreat (c : Cv) (l a : Lt) : Prop where
  asc : a.Pairwise (· < ·)
  mem : ∀ x, x ∈ a ↔ (0 ≤ x ∧ x < c.length) ∧ x ∉ l ∧ ∀ o, Rch c x o → o ∉ l
theorem IsGreat.pit {c : Cv} {l a : Lt} (h : IsGreat c l a) (hv : Vcv c) : Pit c a := by
  refine ⟨⟨h.asc, fun x hx => ((h.mem x).mp hx).1⟩, fun b hb o ho => ?_⟩
  obtain ⟨h1, h2, h3⟩ := (h.mem b).mp hb
  have := hv.at h1.1 ho
  exact (h.mem o).mpr ⟨by omega, h3 o (.one ho), fun x r => h3 x (.step ho r)⟩
theorem IsGreat.sub {c : Cv} {l a p : Lt} (h : IsGreat c l a) (hp : Pit c p) (hs : ∀ x ∈ l, x ∉ p) : ∀ x ∈ p, x ∈ a := fun x hx =>
  (h.mem x).mpr ⟨hp.lot.2 x hx, fun z => hs x z hx, fun o r z => hs o z (r.pit hp hx)⟩
end Ma

/-! MaA: choices, rows of probes -/
namespace Ma
open PySem Pv Tv
abbrev Chl := List (List Int)
abbrev Ety := Str × Int × Int
structure Nums (l : List Int) : Prop where
  pos : 1 ≤ l.length
  len : l.length ≤ 3
  asc : l.Pairwise (· < ·)
  bd : ∀ x ∈ l, -50 ≤ x ∧ x ≤ 50
structure Chs (n : Nat) (ch : Chl) : Prop where
  len : ch.length = n
  ok : ∀ l ∈ ch, Nums l
theorem Chs.set {n : Nat} {ch : Chl} (h : Chs n ch) {b : Nat} {l : List Int} (hl : Nums l) : Chs n (ch.set b l) := ⟨by simp [h.len], fun x hx => (List.mem_or_eq_of_mem_set hx).elim (h.ok x) fun e => e ▸ hl⟩
def atL (ch : Chl) (b : Int) : List Int := ch.getD b.toNat []
theorem Chs.at {n : Nat} {ch : Chl} (h : Chs n ch) {b : Int} (h0 : 0 ≤ b) (h1 : b < n) : Nums (atL ch b) := by
  have : b.toNat < ch.length := by have := h.len; omega
  refine h.ok _ ?_
  simp [atL, this]
structure Ent1 (n : Nat) (e : Ety) : Prop where
  w : e.1 = "told" ∨ e.1 = "changed"
  b0 : 0 ≤ e.2.1
  b1 : e.2.1 < n
  n0 : -50 ≤ e.2.2
  n1 : e.2.2 ≤ 50
end Ma

/-! MaB: cases of worths, sure pits -/
namespace Ma
open PySem Pv Tv
structure NumL (l : List Int) : Prop where
  pos : 1 ≤ l.length
  asc : l.Pairwise (· < ·)
  bd : ∀ x ∈ l, -50 ≤ x ∧ x ≤ 50
def cext1 (l row : List Int) : List (List Int) := l.map fun d => row ++ [d]
def cext (acc : List (List Int)) (l : List Int) : List (List Int) := acc.flatMap (cext1 l)
def casL (nums : List (List Int)) : List (List Int) := nums.foldl cext [[]]
theorem casL_snoc (nums : List (List Int)) (l : List Int) : casL (nums ++ [l]) = cext (casL nums) l := by simp [casL, List.foldl_append]
theorem cext_len {acc : List (List Int)} {l : List Int} : (cext acc l).length = acc.length * l.length := by
  unfold cext
  induction acc with
  | nil => simp
  | cons a acc ih => rw [List.flatMap_cons, List.length_append, ih]; simp [cext1, Nat.add_mul]; omega
structure NumsL (n : Nat) (nums : List (List Int)) : Prop where
  len : nums.length = n
  ok : ∀ l ∈ nums, NumL l
theorem NumL.ends {l : List Int} (h : NumL l) {x : Int} (hx : x ∈ l) : pt l 0 ≤ x ∧ x ≤ pt l (l.length - 1) := by
  obtain ⟨i, hi, rfl⟩ := List.getElem_of_mem hx
  have pw := List.pairwise_iff_getElem.mp h.asc
  have p0 : pt l 0 = l[0]'(by omega) := pt_of (List.getElem?_eq_getElem _)
  have p1 : pt l (l.length - 1) = l[l.length - 1]'(by omega) := pt_of (List.getElem?_eq_getElem _)
  rw [p0, p1]
  constructor
  · by_cases e : i = 0
    · subst e; exact Int.le_refl _
    · have := pw 0 i (by omega) hi (by omega); omega
  · by_cases e : i = l.length - 1
    · subst e; exact Int.le_refl _
    · have := pw i (l.length - 1) hi (by omega) (by omega); omega
theorem sum_mono {f g : Int → Int} : ∀ {l : Lt}, (∀ x ∈ l, f x ≤ g x) → (l.map f).sum ≤ (l.map g).sum
  | [], _ => by simp
  | x :: xs, h => by
    have h1 := sum_mono (f := f) (g := g) (l := xs) fun y hy => h y (.tail _ hy)
    have h2 := h x (.head _)
    simp only [List.map_cons, List.sum_cons]; omega
end Ma

/-! Ma3: fates of blocks. -/
namespace Ma
open PySem Pv Tv
end Ma

/-! MaC: regrets -/
namespace Ma
open PySem Pv Tv
theorem cas_pow {ch : List (List Int)} : (∀ l ∈ ch, l.length ≤ 3) → (casL ch).length ≤ 3 ^ ch.length := by
  refine snoc_ind (P := fun ch => (∀ l ∈ ch, l.length ≤ 3) → (casL ch).length ≤ 3 ^ ch.length) (fun _ => by simp [casL]) (fun l x ih h => ?_) ch
  rw [casL_snoc, cext_len, List.length_append, List.length_singleton, Nat.pow_succ]
  exact Nat.mul_le_mul (ih fun y hy => h y (by simp [hy])) (h x (by simp))
theorem Chs.nums {n : Nat} {ch : Chl} (h : Chs n ch) : NumsL n ch := ⟨h.len, fun l hl => ⟨(h.ok l hl).pos, (h.ok l hl).asc, (h.ok l hl).bd⟩⟩
theorem Chs.few {n : Nat} {ch : Chl} (h : Chs n ch) (hn : n ≤ 6) : (casL ch).length ≤ 729 := by
  have h1 := cas_pow (ch := ch) fun l hl => (h.ok l hl).len
  have h2 : 3 ^ ch.length ≤ 3 ^ 6 := Nat.pow_le_pow_right (by decide) (by rw [h.len]; exact hn)
  exact Nat.le_trans h1 h2
end Ma

/-! MaE: possible pits -/
namespace Ma
open PySem Pv Tv
theorem has_put {κ β : Type} [DecidableEq κ] (m : List (κ × β)) (k x : κ) (v : β) : hasM (putM m k v) x = (hasM m x || decide (k = x)) := by
  unfold putM
  by_cases c : hasM m k = true
  · rw [if_pos c]
    have e : hasM (m.map fun q => if q.1 = k then (q.1, v) else q) x = hasM m x := by
      unfold hasM
      rw [List.any_map]
      congr 1
      funext q
      simp only [Function.comp]
      split <;> rfl
    rw [e]
    by_cases d : k = x
    · subst d; simp [c]
    · simp [d]
  · rw [if_neg c]; simp [hasM]
end Ma

/-! MaF: dicts as sets; columns that hold others. -/
namespace Ma
open PySem Pv Tv
/-! keys -/
theorem mem_keysM {κ β : Type} [DecidableEq κ] {m : List (κ × β)} {x : κ} : x ∈ keysM m ↔ hasM m x = true := by
  simp only [keysM, hasM, List.mem_map, List.any_eq_true, decide_eq_true_eq]
theorem keys_put {κ β : Type} [DecidableEq κ] (m : List (κ × β)) (k : κ) (v : β) : keysM (putM m k v) = if hasM m k = true then keysM m else keysM m ++ [k] := by
  unfold putM
  split
  · simp only [keysM, List.map_map]
    apply List.map_congr_left
    intro q _
    simp only [Function.comp]
    split <;> rfl
  · simp [keysM]
theorem keys_nd {κ β : Type} [DecidableEq κ] {m : List (κ × β)} (h : (keysM m).Nodup) (k : κ) (v : β) : (keysM (putM m k v)).Nodup := by
  rw [keys_put]
  split
  · exact h
  · rename_i c
    rw [List.nodup_append]
    exact ⟨h, by simp, fun a ha b hb e => by
      simp at hb; subst hb; subst e
      exact c (mem_keysM.mp ha)⟩
/-! columns that hold -/
end Ma

/-! Ma5: from a pit that is dug. -/
namespace Ma
open PySem Pv Tv
end Ma

/-! MaG: what all and what some of the best have; pits within pits; plans with refills. -/
namespace Ma
open PySem Pv Tv
theorem getM_put {κ β : Type} [DecidableEq κ] (m : List (κ × β)) (k x : κ) (v : β) : getM (putM m k v) x = if x = k then some v else getM m x := by
  unfold putM
  split
  · rename_i h
    unfold getM hasM at *
    induction m with
    | nil => simp at h
    | cons q m ih =>
      rw [List.map_cons, List.find?_cons, List.find?_cons]
      by_cases c : q.1 = k
      · by_cases e : x = k
        · subst e; simp [c]
        · rw [if_pos c, if_neg e]
          have e1 : ¬ q.1 = x := fun z => e (z.symm.trans c)
          simp only [e1, decide_false]
          clear h ih
          induction m with
          | nil => rfl
          | cons p m ih =>
            rw [List.map_cons, List.find?_cons, List.find?_cons]
            by_cases c2 : p.1 = k
            · rw [if_pos c2]
              have e2 : ¬ p.1 = x := fun z => e (z.symm.trans c2)
              simp only [e2, decide_false]; exact ih
            · rw [if_neg c2]
              by_cases e2 : p.1 = x
              · simp [e2]
              · simp only [e2, decide_false]; exact ih
      · rw [if_neg c]
        have h' : (m.any fun q => decide (q.1 = k)) = true := by simpa [c] using h
        by_cases e : q.1 = x
        · have : ¬ x = k := fun z => c (e.trans z)
          simp [e, this]
        · simp only [e, decide_false]; exact ih h'
  · rename_i h
    unfold getM hasM at *
    rw [List.find?_append]
    by_cases e : x = k
    · subst e
      have : m.find? (fun q => decide (q.1 = x)) = none := by
        rw [List.find?_eq_none]
        intro q hq hz
        exact h (List.any_eq_true.mpr ⟨q, hq, hz⟩)
      rw [this]; simp
    · have e2 : ¬ k = x := fun z => e z.symm
      simp [e, e2]
theorem hasM_of {κ β : Type} [DecidableEq κ] {m : List (κ × β)} {x : κ} : (∃ v, getM m x = some v) ↔ x ∈ keysM m := by
  rw [mem_keysM, ← hasM_get, Option.isSome_iff_exists]
section
variable {π : Type} {F G : π → Prop} {f : π → Int} {g : π → Lt} {b b' : Int} {l m l' m' : Lt}
structure Opt (F : π → Prop) (f : π → Int) (g : π → Lt) (b : Int) (l m : Lt) : Prop where
  at_ : ∃ q, F q ∧ f q = b
  ge : ∀ q, F q → f q ≤ b
  la : l.Pairwise (· < ·)
  ma : m.Pairwise (· < ·)
  li : ∀ x, x ∈ l ↔ ∀ q, F q → f q = b → x ∈ g q
  mi : ∀ x, x ∈ m ↔ ∃ q, F q ∧ f q = b ∧ x ∈ g q
theorem Opt.congr (h : Opt F f g b l m) (e : ∀ q, F q ↔ G q) : Opt G f g b l m := by
  have : F = G := funext fun q => propext (e q)
  subst this; exact h
theorem Opt.up (h : Opt F f g b l m) (k : Opt G f g b' l' m') (hb : b < b') : Opt (fun q => F q ∨ G q) f g b' l' m' where
  at_ := let ⟨q, h1, h2⟩ := k.at_; ⟨q, .inr h1, h2⟩
  ge q := fun z => z.elim (fun z => by have := h.ge q z; omega) (k.ge q)
  la := k.la
  ma := k.ma
  li x := by
    rw [k.li]
    exact ⟨fun a q z e => z.elim (fun z => by have := h.ge q z; omega) fun z => a q z e, fun a q z e => a q (.inr z) e⟩
  mi x := by
    rw [k.mi]
    exact ⟨fun ⟨q, z, e, i⟩ => ⟨q, .inr z, e, i⟩, fun ⟨q, z, e, i⟩ => z.elim (fun z => by have := h.ge q z; omega) fun z => ⟨q, z, e, i⟩⟩
theorem Opt.same (h : Opt F f g b l m) (k : Opt G f g b l' m') : Opt (fun q => F q ∨ G q) f g b (meet l l') (join m m') where
  at_ := let ⟨q, h1, h2⟩ := k.at_; ⟨q, .inr h1, h2⟩
  ge q := fun z => z.elim (h.ge q) (k.ge q)
  la := h.la.sublist List.filter_sublist
  ma := ssrt_lt _
  li x := by
    rw [mem_meet, h.li, k.li]
    exact ⟨fun a q z e => z.elim (fun z => a.1 q z e) fun z => a.2 q z e, fun a => ⟨fun q z e => a q (.inl z) e, fun q z e => a q (.inr z) e⟩⟩
  mi x := by
    rw [mem_join, h.mi, k.mi]
    constructor
    · rintro (⟨q, z, e, i⟩ | ⟨q, z, e, i⟩)
      · exact ⟨q, .inl z, e, i⟩
      · exact ⟨q, .inr z, e, i⟩
    · rintro ⟨q, z | z, e, i⟩
      · exact .inl ⟨q, z, e, i⟩
      · exact .inr ⟨q, z, e, i⟩
theorem Opt.one {p : π} (h : (g p).Pairwise (· < ·)) : Opt (fun q => q = p) f g (f p) (g p) (g p) where
  at_ := ⟨p, rfl, rfl⟩
  ge q := fun z => by subst z; omega
  la := h
  ma := h
  li x := ⟨fun a q z _ => by subst z; exact a, fun a => a p rfl rfl⟩
  mi x := ⟨fun a => ⟨p, rfl, rfl, a⟩, fun ⟨q, z, _, i⟩ => by subst z; exact i⟩
theorem Opt.lot {n : Nat} (h : Opt F f g b l m) (hl : ∀ q, F q → Lot n (g q)) : Lot n l ∧ Lot n m := by
  refine ⟨⟨h.la, fun x hx => ?_⟩, ⟨h.ma, fun x hx => ?_⟩⟩
  · obtain ⟨q, h1, h2⟩ := h.at_
    exact (hl q h1).2 x ((h.li x).mp hx q h1 h2)
  · obtain ⟨q, h1, h2, h3⟩ := (h.mi x).mp hx
    exact (hl q h1).2 x h3
/-! told by lists -/
end
/-! pits within a pit -/
def SubP (c : Cv) (p o : Lt) : Prop := Pit c o ∧ ∀ x ∈ o, x ∈ p
/-! plans -/
def Plan (c : Cv) (q : Lt × Lt) : Prop := Pit c q.1 ∧ SubP c q.1 q.2
def pw (w r : List Int) (q : Lt × Lt) : Int := sumW w q.1 + sumW r q.1 - sumW r q.2
theorem sum_minus {n : Nat} {w : List Int} {d o : Lt} (hd : Lot n d) (ho : Lot n o) (h : ∀ x ∈ o, x ∈ d) : sumW w (minus d o) = sumW w d - sumW w o := by
  have e := sum_meet_join (w := w) (hd.minus (m := o)) ho
  have e1 : meet (minus d o) o = [] := by
    rw [List.eq_nil_iff_forall_not_mem]
    intro x hx
    have := mem_meet.mp hx
    exact (mem_minus.mp this.1).2 this.2
  have e2 : join (minus d o) o = d := asc_ext (ssrt_lt _) hd.1 fun x => by
    rw [mem_join, mem_minus]
    constructor
    · rintro (z | z)
      · exact z.1
      · exact h x z
    · intro z
      by_cases c : x ∈ o
      · exact .inr c
      · exact .inl ⟨z, c⟩
  rw [e1, e2] at e
  have : sumW w [] = 0 := rfl
  omega
structure PO (c : Cv) (w r : List Int) (b : Int) (l1 l2 m1 m2 : Lt) : Prop where
  o1 : Opt (Plan c) (pw w r) (·.1) b l1 m1
  o2 : Opt (Plan c) (pw w r) (·.2) b l2 m2
/-! by lists -/
/-! two best plans meet and join in best ones -/
theorem sub_len {l m : Lt} (hl : l.Pairwise (· < ·)) (hm : m.Pairwise (· < ·)) (hs : ∀ x ∈ l, x ∈ m) : l.length ≤ m.length := by
  have nl : l.Nodup := List.nodup_iff_pairwise_ne.mpr (hl.imp fun h => by omega)
  exact List.Nodup.length_le_of_subset nl fun y hy => hs y hy
end Ma

/-! MaQ: rows in which a pit is dug, and what a purse must hold. -/
namespace Ma
open PySem Pv Tv
def exts (c : Cv) (p one : Lt) : Lt := p.filter fun b => !decide (b ∈ one) && (atC c b).all fun o => decide (o ∈ one)
theorem sumW_snoc (w : List Int) (row : Lt) (b : Int) : sumW w (row ++ [b]) = sumW w row + wAt w b := by simp [sumW]
theorem exts_mem {c : Cv} {p one : Lt} {b : Int} : b ∈ exts c p one ↔ b ∈ p ∧ b ∉ one ∧ ∀ o ∈ atC c b, o ∈ one := by
  simp [exts, List.mem_filter]
theorem sub_join {c : Cv} {p D : Lt} {b : Int} (hp : Pit c p) (h : SubP c p D) (hb : b ∈ exts c p D) : SubP c p (join D [b]) ∧ (join D [b]).length = D.length + 1 := by
  obtain ⟨b1, b2, b3⟩ := exts_mem.mp hb
  have lb : Lot c.length [b] := ⟨by simp, fun x hx => by rw [List.mem_singleton.mp hx]; exact hp.lot.2 b b1⟩
  have lj := h.1.lot.join lb
  refine ⟨⟨⟨lj, fun x hx o ho => ?_⟩, fun x hx => ?_⟩, ?_⟩
  · rcases mem_join.mp hx with hx | hx
    · exact mem_join.mpr (.inl (h.1.full x hx o ho))
    · rw [List.mem_singleton.mp hx] at ho; exact mem_join.mpr (.inl (b3 o ho))
  · rcases mem_join.mp hx with hx | hx
    · exact h.2 x hx
    · rw [List.mem_singleton.mp hx]; exact b1
  · have nd : (D ++ [b]).Nodup := by
      rw [List.nodup_append]
      exact ⟨List.nodup_iff_pairwise_ne.mpr (h.1.lot.1.imp fun h => by omega), by simp, fun x hx y hy e => by
        rw [List.mem_singleton.mp hy] at e; exact b2 (e ▸ hx)⟩
    have nj : (join D [b]).Nodup := List.nodup_iff_pairwise_ne.mpr (lj.1.imp fun h => by omega)
    have l1 := List.Nodup.length_le_of_subset nd (l₂ := join D [b]) fun x hx => mem_join.mpr (List.mem_append.mp hx)
    have l2 := List.Nodup.length_le_of_subset nj (l₂ := D ++ [b]) fun x hx => List.mem_append.mpr (mem_join.mp hx)
    rw [List.length_append, List.length_singleton] at l1 l2
    omega
theorem sum_join {c : Cv} {w : List Int} {p D : Lt} {b : Int} (hp : Pit c p) (h : SubP c p D) (hb : b ∈ exts c p D) : sumW w (join D [b]) = sumW w D + wAt w b := by
  obtain ⟨b1, b2, b3⟩ := exts_mem.mp hb
  have lb : Lot c.length [b] := ⟨by simp, fun x hx => by rw [List.mem_singleton.mp hx]; exact hp.lot.2 b b1⟩
  have e := sum_meet_join (w := w) h.1.lot lb
  have e1 : meet D [b] = [] := by
    rw [List.eq_nil_iff_forall_not_mem]
    intro x hx
    have := mem_meet.mp hx
    exact b2 (List.mem_singleton.mp this.2 ▸ this.1)
  rw [e1] at e
  have e2 : sumW w [] = 0 := rfl
  have e3 : sumW w [b] = wAt w b := by simp [sumW]
  omega
structure Dug (c : Cv) (w : List Int) (p one D : Lt) : Prop where
  sub : SubP c p D
  mem : ∀ x, x ∈ one ↔ x ∈ D
  sum : sumW w one = sumW w D
theorem Dug.next {c : Cv} {w : List Int} {p one D : Lt} {b : Int} (hp : Pit c p) (h : Dug c w p one D) (hb : b ∈ exts c p D) : Dug c w p (one ++ [b]) (join D [b]) := ⟨(sub_join hp h.sub hb).1, fun x => by rw [List.mem_append, mem_join, h.mem], by rw [sumW_snoc, h.sum, sum_join hp h.sub hb]⟩
/-! the least of pairs -/
end Ma
namespace Ma
open Tv
end Ma

/-! Mb4: rows of a pit, counted and told by number -/
namespace Ma
open Tv
theorem keys_len {κ β : Type} (m : List (κ × β)) : (keysM m).length = m.length := List.length_map ..
def Rcd (c : Cv) (p : Lt) : Nat → Lt → Prop
  | 0, D => D = []
  | t + 1, D => ∃ E b, Rcd c p t E ∧ b ∈ exts c p E ∧ D = join E [b]
theorem Rcd.sub {c : Cv} {p : Lt} (hp : Pit c p) : ∀ {t : Nat} {D : Lt}, Rcd c p t D → SubP c p D ∧ D.length = t
  | 0, D, h => by rw [show D = [] from h]; exact ⟨⟨pit_nil c, by simp⟩, rfl⟩
  | t + 1, D, ⟨E, b, h, hb, e⟩ => by
    obtain ⟨h1, h2⟩ := Rcd.sub hp h
    obtain ⟨h3, h4⟩ := sub_join hp h1 hb
    rw [e]; exact ⟨h3, by omega⟩
theorem Rcd.le {c : Cv} {p : Lt} (hp : Pit c p) {t : Nat} {D : Lt} (h : Rcd c p t D) : t ≤ p.length := by
  obtain ⟨h1, h2⟩ := h.sub hp
  have := sub_len h1.1.lot.1 hp.lot.1 h1.2
  omega
theorem Rcd.full {c : Cv} {p : Lt} (hp : Pit c p) {D : Lt} (h : Rcd c p p.length D) : D = p := by
  obtain ⟨h1, h2⟩ := h.sub hp
  exact asc_sub_eq h1.1.lot.1 hp.lot.1 h1.2 (by omega)
theorem Rcd.next {c : Cv} {p : Lt} {t : Nat} {D : Lt} {b : Int} (h : Rcd c p t D) (hb : b ∈ exts c p D) : Rcd c p (t + 1) (join D [b]) := ⟨D, b, h, hb, rfl⟩
/-! rows -/
end Ma

/-! MaR: the cells of a table, its ground; pits are profiles -/
namespace Ma
open PySem Pv Tv
/-! sums -/
/-! cells -/
def layR (cs : List Int) (d : Int) : List (Int × Int) := ((rangeL 0 cs.length).filter fun j => decide (d ≤ pt cs j.toNat)).map fun j => (j, d)
def cellsL (cs : List Int) : List (Int × Int) := (rangeL 1 10).flatMap (layR cs)
def Bd (cs : List Int) : Prop := ∀ c ∈ cs, 1 ≤ c ∧ c ≤ 10
theorem Bd.at {cs : List Int} (h : Bd cs) {j : Nat} (hj : j < cs.length) : 1 ≤ pt cs j ∧ pt cs j ≤ 10 := h _ (pt_mem hj)
/-! places -/
def pl (cs : List Int) (c : Int × Int) : Nat := (idxF c (cellsL cs)).getD 0
def cl (cs : List Int) (i : Int) : Int × Int := (cellsL cs).getD i.toNat (0, 0)
/-! the ground -/
section
variable {cs : List Int} {rs : Rl}
/-! pits and profiles -/
end
end Ma

/-! MaS: profiles worth most are the best pits of the table's ground -/
namespace Ma
open PySem Pv Tv
section
variable {cs : List Int} {rs : Rl} {w : List Int}
/-! worths -/
theorem cut_to {α : Type} {l : List α} {k : Int} (h0 : 0 ≤ k) : cutL l none (some k) = l.take k.toNat := by
  have e : HT.sIx l.length l.length (some k) = min k.toNat l.length := by
    simp only [HT.sIx]
    split <;> omega
  have e2 : HT.sIx l.length 0 none = 0 := rfl
  rw [cutL, e, e2, List.drop_zero, Nat.sub_zero]
  by_cases z : k.toNat ≤ l.length
  · rw [Nat.min_eq_left z]
  · rw [Nat.min_eq_right (by omega), List.take_of_length_le (Nat.le_refl _), List.take_of_length_le (by omega)]
end
end Ma

/-! MaX: deeds from pit to pit, the least of the shortest rows -/
namespace Ma
open PySem Pv Tv
theorem ltStr_tot : TotB ltStr where
  irr := fun a => PyProof.Rows.lex_irrefl (O := PyProof.Rows.itemOrd) _
  trans := fun a b c h1 h2 => PyProof.Rows.lex_trans (O := PyProof.Rows.itemOrd) _ _ _ h1 h2
  tri := fun a b h1 h2 => by
    have h := PyProof.Rows.lex_total (O := PyProof.Rows.itemOrd) _ _ h1 h2
    simp only [PySem.W.keyToks, List.cons.injEq, Sum.inr.injEq, and_true] at h
    exact PySem.W.str_of_cps h
abbrev Deed := Str × Int
abbrev ltD : Deed → Deed → Bool := ltP ltStr ltI
theorem ltD_tot : TotB ltD := ltP_tot ltStr_tot ltI_tot
theorem sDF : ¬ ("fill" : Str) = "dig" := by decide
def ins (p : Lt) (b : Int) : Lt := join p [b]
def del (p : Lt) (b : Int) : Lt := p.filter fun x => !decide (x = b)
inductive Dd (c : Cv) (p : Lt) : Deed → Lt → Prop
  | dig {b : Int} : 0 ≤ b → b < c.length → b ∉ p → Pit c (ins p b) → Dd c p ("dig", b) (ins p b)
  | fill {b : Int} : b ∈ p → Pit c (del p b) → Dd c p ("fill", b) (del p b)
theorem Dd.pit {c : Cv} {p q : Lt} {d : Deed} (h : Dd c p d q) : Pit c q := by
  cases h with
  | dig _ _ _ h => exact h
  | fill _ h => exact h
def dist (c : Cv) (p g : Lt) : Nat := ((rangeL 0 c.length).filter fun x => decide (x ∈ p) != decide (x ∈ g)).length
section
variable {c : Cv} {p q g h : Lt} {d : Deed}
theorem range_nd (n : Nat) : (rangeL 0 n).Nodup := List.nodup_iff_pairwise_ne.mpr (rangeL_lt.imp fun h => by omega)
def Wk (c : Cv) : Lt → List Deed → Lt → Prop
  | p, [], g => p = g
  | p, d :: r, g => ∃ q, Dd c p d q ∧ Wk c q r g
def gdL (c : Cv) (p g : Lt) : List Deed := ((minus g p).filter fun b => isPitB c (ins p b)).map (fun b => (("dig" : Str), b)) ++ ((minus p g).filter fun b => isPitB c (del p b)).map (fun b => (("fill" : Str), b))
def stepD (p : Lt) (d : Deed) : Lt := if d.1 = "dig" then ins p d.2 else del p d.2
theorem Dd.step (h : Dd c p d q) : q = stepD p d := by
  cases h with
  | dig _ _ _ _ => simp [stepD]
  | fill _ _ => simp [stepD, sDF]
def grow (c : Cv) (g : Lt) : Nat → Lt → List Deed
  | 0, _ => []
  | n + 1, p => match gdL c p g with
    | [] => []
    | d :: _ => d :: grow c g n (stepD p d)
def rowR (c : Cv) (p g : Lt) : List Deed := grow c g (dist c p g) p
end
end Ma

/-! MaY: rows of deeds, layer by layer -/
namespace Ma
open PySem Pv Tv
theorem ltLD_tot : TotB (ltLex ltD) := ltLex_tot ltD_tot
abbrev Mp := List (Lt × List Deed)
section
variable {c : Cv} {p : Lt} {k : Nat}
structure Lay (c : Cv) (p : Lt) (k : Nat) (T : List (List Deed × Lt)) : Prop where
  srt : T.Pairwise (fun a b => ltLex ltD a.1 b.1 = true)
  wk : ∀ x ∈ T, Pit c x.2 ∧ Wk c p x.1 x.2 ∧ x.1.length = k + 1
  all : ∀ g, Pit c g → dist c p g = k + 1 → (rowR c p g, g) ∈ T
def good (c : Cv) (p : Lt) (k : Nat) (x : List Deed × Lt) : Bool := decide (dist c p x.2 = k + 1) && decide (x.1 = rowR c p x.2)
structure Jn (c : Cv) (p : Lt) (k : Nat) (done : List (List Deed × Lt)) (s : Mp × List Lt) : Prop where
  later : s.2 = (done.filter (good c p k)).map (·.2)
  old : ∀ g, Pit c g → dist c p g ≤ k → getM s.1 g = some (rowR c p g)
  new : ∀ g, g ∈ s.2 → getM s.1 g = some (rowR c p g)
  non : ∀ g, ¬ (Pit c g ∧ dist c p g ≤ k) → g ∉ s.2 → getM s.1 g = none
  nd : (keysM s.1).Nodup
structure Line (c : Cv) (p : Lt) (k : Nat) (l : List Lt) : Prop where
  mem : ∀ g, g ∈ l ↔ Pit c g ∧ dist c p g = k
  srt : l.Pairwise (fun a b => ltLex ltD (rowR c p a) (rowR c p b) = true)
theorem Line.nd {l : List Lt} (h : Line c p k l) : l.Nodup := by
  rw [List.nodup_iff_pairwise_ne]
  exact h.srt.imp fun {a b} z e => by rw [e, ltLD_tot.irr] at z; cases z
structure DsOk (c : Cv) (h : Lt) (l : List (Deed × Lt)) : Prop where
  mem : ∀ x, x ∈ l ↔ Dd c h x.1 x.2
  srt : l.Pairwise (fun a b => ltD a.1 b.1 = true)
end
end Ma
namespace Ma
open PySem Pv Tv
end Ma

/-! Mc1: payments along ways: what the program does, as plain functions -/
namespace Ma
open Tv
abbrev Gv := List ((Int × Int) × Int)
abbrev Cam := List (Int × Option Int)
abbrev ltPI : Int × Int → Int × Int → Bool := ltP ltI ltI
def gAt (g : Gv) (p : Int × Int) : Int := (getM g p).getD 0
def joinS (here : Int) : List Int → List Int × Cam → List Int × Cam
  | [], s => s
  | o :: os, s => joinS here os (if hasM s.2 o = true then s else (s.1 ++ [o], s.2 ++ [(o, some here)]))
def backP (cm : Cam) : Nat → Int → List Int
  | 0, _ => []
  | t + 1, x => match getM cm x with
    | some (some v) => v :: backP cm t v
    | _ => []
def srcs (left : List Int) : List Int := (rangeL 0 left.length).filter fun b => decide (0 < wAt left b)
def cam0 (l : List Int) : Cam := l.map fun b => (b, none)
def payL1 (left : List Int) (way : List Int) (m : Int) : List Int := left.set (way.getLastD 0).toNat (wAt left (way.getLastD 0) - m)
def payL (left : List Int) (way : List Int) (m : Int) : List Int := (payL1 left way m).set (way.headD 0).toNat (wAt (payL1 left way m) (way.headD 0) + m)
/-! ### searching -/
theorem has_keys {κ β : Type} [DecidableEq κ] {m : List (κ × β)} {x : κ} : hasM m x = true ↔ x ∈ keysM m := by
  rw [← hasM_get, Option.isSome_iff_exists]; exact hasM_of
theorem keys_app {κ β : Type} (m l : List (κ × β)) : keysM (m ++ l) = keysM m ++ keysM l := List.map_append
theorem get_at {κ β : Type} [DecidableEq κ] : ∀ {m : List (κ × β)} {i : Nat} {x : κ} {v : β}, (keysM m).Nodup → m[i]? = some (x, v) → getM m x = some v
  | [], _, _, _, _, h => by simp at h
  | q :: m, 0, x, v, _, h => by
    simp at h; subst h
    simp [getM]
  | q :: m, i + 1, x, v, nd, h => by
    have nd' := List.nodup_cons.mp (show (q.1 :: keysM m).Nodup from nd)
    have h' : m[i]? = some (x, v) := by simpa using h
    have ne : ¬ q.1 = x := fun e => nd'.1 (by rw [e]; exact List.mem_map_of_mem (f := (·.1)) (List.mem_of_getElem? h'))
    have ih := get_at nd'.2 h'
    unfold getM at ih ⊢
    rw [List.find?_cons_of_neg (by simpa using ne)]; exact ih
theorem nd_uniq {α : Type} {l : List α} (h : l.Nodup) {i j : Nat} {v : α} (hi : l[i]? = some v) (hj : l[j]? = some v) : i = j := by
  obtain ⟨i1, i2⟩ := List.getElem?_eq_some_iff.mp hi
  obtain ⟨j1, j2⟩ := List.getElem?_eq_some_iff.mp hj
  rw [List.nodup_iff_pairwise_ne] at h
  rcases Nat.lt_trichotomy i j with lt | e | gt
  · exact absurd (i2.trans j2.symm) ((List.pairwise_iff_getElem.mp h) i j i1 j1 lt)
  · exact e
  · exact absurd (j2.trans i2.symm) ((List.pairwise_iff_getElem.mp h) j i j1 i1 gt)
structure Bfs (n : Nat) (B : Int → List Int) (left : List Int) (done line : List Int) (cm : Cam) : Prop where
  ks : keysM cm = done ++ line
  nd : (keysM cm).Nodup
  rg : ∀ x ∈ keysM cm, 0 ≤ x ∧ x < n
  src : ∀ (i : Nat) (x : Int), cm[i]? = some (x, none) → 0 < wAt left x
  par : ∀ (i : Nat) (x v : Int), cm[i]? = some (x, some v) → ∃ j, j < i ∧ (keysM cm)[j]? = some v ∧ x ∈ B v
  all : ∀ x ∈ done, ¬ wAt left x < 0 ∧ ∀ y ∈ B x, y ∈ keysM cm
  str : ∀ x : Int, 0 ≤ x → x < n → 0 < wAt left x → x ∈ keysM cm
section
variable {n : Nat} {B : Int → List Int} {left done line : List Int} {cm : Cam}
theorem Bfs.start (hl : left.length = n) : Bfs n B left [] (srcs left) (cam0 (srcs left)) := by
  have k : keysM (cam0 (srcs left)) = srcs left := by
    unfold keysM cam0
    rw [List.map_map]
    exact List.map_id _
  have at_ : ∀ {i : Nat} {q : Int × Option Int}, (cam0 (srcs left))[i]? = some q → q.1 ∈ srcs left ∧ q.2 = none := fun {i q} h => by
    have := List.mem_of_getElem? h
    obtain ⟨b, hb, rfl⟩ := List.mem_map.mp this
    exact ⟨hb, rfl⟩
  have ms : ∀ x, x ∈ srcs left ↔ (0 ≤ x ∧ x < n) ∧ 0 < wAt left x := fun x => by
    unfold srcs
    rw [List.mem_filter, mem_rangeL, decide_eq_true_eq, hl]; constructor <;> intro h <;> exact ⟨by omega, h.2⟩
  refine ⟨by rw [k]; rfl, ?_, fun x hx => ?_, fun i x h => ?_, fun i x v h => ?_, fun x hx => by simp at hx, fun x h0 h1 h2 => ?_⟩
  · rw [k]
    exact List.nodup_iff_pairwise_ne.mpr ((rangeL_lt.filter _).imp fun h => by omega)
  · rw [k] at hx; exact ((ms x).mp hx).1
  · exact ((ms x).mp (at_ h).1).2
  · have := (at_ h).2; cases this
  · rw [k]; exact (ms x).mpr ⟨⟨h0, h1⟩, h2⟩
theorem Bfs.len (h : Bfs n B left done line cm) : cm.length = done.length + line.length := by
  have := congrArg List.length h.ks
  rwa [keys_len, List.length_append] at this
theorem Bfs.le (h : Bfs n B left done line cm) : cm.length ≤ n := by
  have := List.Nodup.length_le_of_subset h.nd (l₂ := rangeL 0 n) fun x hx => mem_rangeL.mpr (by have := h.rg x hx; omega)
  rwa [keys_len, rangeL_len] at this
structure Mid (n : Nat) (B : Int → List Int) (left : List Int) (done : List Int) (here : Int) (got line : List Int) (cm : Cam) : Prop where
  ks : keysM cm = done ++ here :: line
  nd : (keysM cm).Nodup
  rg : ∀ x ∈ keysM cm, 0 ≤ x ∧ x < n
  src : ∀ (i : Nat) (x : Int), cm[i]? = some (x, none) → 0 < wAt left x
  par : ∀ (i : Nat) (x v : Int), cm[i]? = some (x, some v) → ∃ j, j < i ∧ (keysM cm)[j]? = some v ∧ x ∈ B v
  all : ∀ x ∈ done, ¬ wAt left x < 0 ∧ ∀ y ∈ B x, y ∈ keysM cm
  str : ∀ x : Int, 0 ≤ x → x < n → 0 < wAt left x → x ∈ keysM cm
  got : ∀ y ∈ got, y ∈ keysM cm
theorem Bfs.mid {here : Int} (h : Bfs n B left done (here :: line) cm) : Mid n B left done here [] line cm := ⟨h.ks, h.nd, h.rg, h.src, h.par, h.all, h.str, by simp⟩
theorem Mid.step {here : Int} {got : List Int} (h : Mid n B left done here got line cm) {o : Int} (ho : o ∈ B here) (h0 : 0 ≤ o ∧ o < n) :
    Mid n B left done here (got ++ [o]) (if hasM cm o = true then (line, cm) else (line ++ [o], cm ++ [(o, some here)])).1 (if hasM cm o = true then (line, cm) else (line ++ [o], cm ++ [(o, some here)])).2 := by
  by_cases e : hasM cm o = true
  · rw [if_pos e]
    exact ⟨h.ks, h.nd, h.rg, h.src, h.par, h.all, h.str, fun y hy => by
      rcases List.mem_append.mp hy with hy | hy
      · exact h.got y hy
      · rw [List.mem_singleton.mp hy]; exact has_keys.mp e⟩
  · rw [if_neg e]
    have nk : o ∉ keysM cm := fun z => e (has_keys.mpr z)
    have kk : keysM (cm ++ [(o, some here)]) = keysM cm ++ [o] := keys_app _ _
    refine ⟨?_, ?_, fun x hx => ?_, fun i x hi => ?_, fun i x v hi => ?_, fun x hx => ⟨(h.all x hx).1, fun y hy => ?_⟩, fun x a b c => ?_, fun y hy => ?_⟩
    · rw [kk, h.ks]; simp
    · rw [kk, List.nodup_append]
      exact ⟨h.nd, by simp, fun a ha b hb z => nk (by rw [List.mem_singleton.mp hb] at z; exact z ▸ ha)⟩
    · rw [kk] at hx
      rcases List.mem_append.mp hx with hx | hx
      · exact h.rg x hx
      · rw [List.mem_singleton.mp hx]; exact h0
    · show 0 < wAt left x
      have hi : (cm ++ [(o, some here)])[i]? = some (x, none) := hi
      by_cases lt : i < cm.length
      · rw [List.getElem?_append_left lt] at hi; exact h.src i x hi
      · rw [List.getElem?_append_right (by omega)] at hi
        have := List.mem_of_getElem? hi
        simp at this
    · have hi : (cm ++ [(o, some here)])[i]? = some (x, some v) := hi
      by_cases lt : i < cm.length
      · rw [List.getElem?_append_left lt] at hi
        obtain ⟨j, j1, j2, j3⟩ := h.par i x v hi
        exact ⟨j, j1, by rw [kk, List.getElem?_append_left (by rw [keys_len]; omega)]; exact j2, j3⟩
      · rw [List.getElem?_append_right (by omega)] at hi
        have m := List.mem_of_getElem? hi
        have ii : i - cm.length = 0 := by
          have := (List.getElem?_eq_some_iff.mp hi).1
          simp at this; omega
        simp at m
        obtain ⟨rfl, rfl⟩ := m
        have hk : v ∈ keysM cm := by rw [h.ks]; simp
        obtain ⟨j, hj⟩ := List.getElem?_of_mem hk
        have jl := (List.getElem?_eq_some_iff.mp hj).1
        rw [keys_len] at jl
        exact ⟨j, by omega, by rw [kk, List.getElem?_append_left (by rw [keys_len]; omega)]; exact hj, ho⟩
    · rw [kk]; exact List.mem_append_left _ ((h.all x hx).2 y hy)
    · rw [kk]; exact List.mem_append_left _ (h.str x a b c)
    · rw [kk]
      rcases List.mem_append.mp hy with hy | hy
      · exact List.mem_append_left _ (h.got y hy)
      · exact List.mem_append_right _ hy
theorem Mid.join {here : Int} : ∀ {os got line : List Int} {cm : Cam}, Mid n B left done here got line cm → (∀ o ∈ os, o ∈ B here ∧ 0 ≤ o ∧ o < n) → Mid n B left done here (got ++ os) (joinS here os (line, cm)).1 (joinS here os (line, cm)).2
  | [], got, line, cm, h, _ => by rw [List.append_nil]; exact h
  | o :: os, got, line, cm, h, ho => by
    have s := h.step (ho o (by simp)).1 (ho o (by simp)).2
    have := s.join (os := os) fun x hx => ho x (by simp [hx])
    rw [List.append_assoc] at this
    exact this
theorem Mid.fin {here : Int} (h : Mid n B left done here (B here) line cm) (hz : ¬ wAt left here < 0) : Bfs n B left (done ++ [here]) line cm :=
  ⟨by rw [h.ks]; simp, h.nd, h.rg, h.src, h.par, fun x hx => by
    rcases List.mem_append.mp hx with hx | hx
    · exact h.all x hx
    · rw [List.mem_singleton.mp hx]; exact ⟨hz, h.got⟩, h.str⟩
theorem Bfs.next {here : Int} (hB : ∀ x : Int, 0 ≤ x → x < n → ∀ y ∈ B x, 0 ≤ y ∧ y < n) (h : Bfs n B left done (here :: line) cm) (hz : ¬ wAt left here < 0) : Bfs n B left (done ++ [here]) (joinS here (B here) (line, cm)).1 (joinS here (B here) (line, cm)).2 := by
  have hr := h.rg here (by rw [h.ks]; simp)
  have := h.mid.join (os := B here) fun o ho => ⟨ho, hB here hr.1 hr.2 o ho⟩
  rw [List.nil_append] at this
  exact this.fin hz
def Wy (B : Int → List Int) (left : List Int) : List Int → Prop
  | [] => False
  | [x] => 0 < wAt left x
  | x :: y :: l => x ∈ B y ∧ Wy B left (y :: l)
theorem Bfs.back (h : Bfs n B left done line cm) : ∀ (t i : Nat) (x : Int) (p : Option Int), cm[i]? = some (x, p) → i < t → Wy B left (x :: backP cm t x) ∧ (x :: backP cm t x).Nodup ∧ ∀ y ∈ backP cm t x, ∃ j, j < i ∧ (keysM cm)[j]? = some y
  | 0, i, x, p, hi, ht => by omega
  | t + 1, i, x, p, hi, ht => by
    have g := get_at h.nd hi
    cases p with
    | none =>
      have e : backP cm (t + 1) x = [] := by
        show (match getM cm x with | some (some v) => v :: backP cm t v | _ => []) = _
        rw [g]
      rw [e]
      exact ⟨h.src i x hi, by simp, by simp⟩
    | some v =>
      obtain ⟨j, j1, j2, j3⟩ := h.par i x v hi
      have jl := (List.getElem?_eq_some_iff.mp j2).1
      rw [keys_len] at jl
      obtain ⟨q, hq⟩ : ∃ q, cm[j]? = some (v, q) := by
        have e1 := List.getElem?_eq_getElem jl
        have j2 : (cm.map (·.1))[j]? = some v := j2
        rw [List.getElem?_map, e1] at j2
        exact ⟨cm[j].2, by rw [e1]; cases j2; rfl⟩
      obtain ⟨w1, w2, w3⟩ := h.back t j v q hq (by omega)
      have e : backP cm (t + 1) x = v :: backP cm t v := by
        show (match getM cm x with | some (some v) => v :: backP cm t v | _ => []) = _
        rw [g]
      rw [e]
      have w4 : ∀ y ∈ v :: backP cm t v, ∃ j', j' < i ∧ (keysM cm)[j']? = some y := fun y hy => by
        rcases List.mem_cons.mp hy with rfl | hy
        · exact ⟨j, j1, j2⟩
        · obtain ⟨a, b, c⟩ := w3 y hy; exact ⟨a, by omega, c⟩
      refine ⟨⟨j3, w1⟩, List.nodup_cons.mpr ⟨fun hx => ?_, w2⟩, w4⟩
      obtain ⟨j', a, b⟩ := w4 x hx
      have xi : (keysM cm)[i]? = some x := by
        show (cm.map (·.1))[i]? = some x
        rw [List.getElem?_map, hi]; rfl
      have := nd_uniq h.nd b xi
      omega
theorem Bfs.found {here : Int} (h : Bfs n B left done (here :: line) cm) : Wy B left (here :: backP cm cm.length here) ∧ (here :: backP cm cm.length here).Nodup ∧ ∀ y ∈ here :: backP cm cm.length here, 0 ≤ y ∧ y < n := by
  have hk : here ∈ keysM cm := by rw [h.ks]; simp
  obtain ⟨i, hi⟩ := List.getElem?_of_mem hk
  have il := (List.getElem?_eq_some_iff.mp hi).1
  rw [keys_len] at il
  obtain ⟨q, hq⟩ : ∃ q, cm[i]? = some (here, q) := by
    have e1 := List.getElem?_eq_getElem il
    have hi : (cm.map (·.1))[i]? = some here := hi
    rw [List.getElem?_map, e1] at hi
    exact ⟨cm[i].2, by rw [e1]; cases hi; rfl⟩
  obtain ⟨a, b, c⟩ := h.back cm.length i here q hq il
  refine ⟨a, b, fun y hy => ?_⟩
  rcases List.mem_cons.mp hy with rfl | hy
  · exact h.rg y hk
  · obtain ⟨j, _, hj⟩ := c y hy; exact h.rg y (List.mem_of_getElem? hj)
end
end Ma
namespace Ma
open Tv
end Ma
namespace Ma
open Tv
end Ma
namespace Ma
open Tv
end Ma

/-! Mc2: payments along ways: what is kept, the end -/
namespace Ma
open Tv
def outG (n : Nat) (g : Gv) (a : Int) : Int := ((rangeL 0 n).map fun b => gAt g (a, b)).sum
def inG (n : Nat) (g : Gv) (b : Int) : Int := ((rangeL 0 n).map fun a => gAt g (a, b)).sum
def vl (n : Nat) (w : List Int) (g : Gv) (x : Int) : Int := if 0 < wAt w x then wAt w x - outG n g x else if wAt w x < 0 then wAt w x + inG n g x else 0
structure Pre (told : Cv) (w : List Int) : Prop where
  tl : told.length = w.length
  wl : w.length ≤ 10
  wb : ∀ x ∈ w, -50 ≤ x ∧ x ≤ 50
  tr : ∀ (b : Int), 0 ≤ b → b < w.length → ∀ x ∈ atC told b, 0 ≤ x ∧ x < w.length
  tz : ∀ (b : Int), 0 ≤ b → b < w.length → (atC told b).length ≤ 1000
structure KeyOk (told : Cv) (w : List Int) (p : Int × Int) : Prop where
  r1 : 0 ≤ p.1 ∧ p.1 < w.length
  r2 : 0 ≤ p.2 ∧ p.2 < w.length
  pos : 0 < wAt w p.1
  neg : wAt w p.2 < 0
  nd : p.2 ∈ atC told p.1
structure Gok (told : Cv) (w : List Int) (g : Gv) : Prop where
  kn : (keysM g).Nodup
  ke : ∀ p ∈ keysM g, KeyOk told w p
  nn : ∀ p, 0 ≤ gAt g p
structure Fl (told : Cv) (w : List Int) (s : List Int × Gv) : Prop extends Gok told w s.2 where
  len : s.1.length = w.length
  lv : ∀ x : Int, 0 ≤ x → x < w.length → wAt s.1 x = vl w.length w s.2 x
  lp : ∀ x : Int, 0 ≤ x → x < w.length → 0 < wAt w x → 0 ≤ wAt s.1 x
  ln : ∀ x : Int, 0 ≤ x → x < w.length → wAt w x < 0 → wAt s.1 x ≤ 0
section
variable {told : Cv} {w : List Int} {g : Gv} {m : Int}
theorem Wy.last {B : Int → List Int} {left : List Int} : ∀ {l : List Int}, Wy B left l → 0 < wAt left (l.getLastD 0) ∧ l.getLastD 0 ∈ l ∧ l.headD 0 ∈ l
  | [x], h => ⟨h, by simp, by simp⟩
  | x :: y :: l, h => by
    have := h.2.last
    have el : (x :: y :: l).getLastD 0 = (y :: l).getLastD 0 := rfl
    rw [el]
    exact ⟨this.1, List.mem_cons_of_mem _ this.2.1, by simp⟩
end
end Ma

/-! Mc3: purses in memory -/
namespace Pv
open PySem PySem.Spec PySem.SeqAt L2 Tv
abbrev key2 (p : Int × Int) : List Key := [.inl p.1, .inl p.2]
def encG (g : Ma.Gv) : List (List Key × V) := g.map fun q => (key2 q.1, V.int q.2)
def optV : Option Int → V
  | none => .non
  | some v => .int v
def encC (cm : Ma.Cam) : List (Key × V) := cm.map fun q => (.inl q.1, optV q.2)
theorem Same.sub {H H' : Hp} (h : Same H H') : Sub H H' := fun a o e => ⟨o, h a o e, rfl⟩
theorem Same.sqT {K : PySem.W.Frag} {H H' : Hp} {a : Addr} {xs : List V} (s : Same H H') (h : SqT K H a xs) : SqT K H' a xs := (Same.sub s).sqT h
theorem Same.upd {H : Hp} {p : Addr} {o : HO} (h : H p = none) : Same H (upd H p o) := fun b u e => by rw [upd_ne (ne_of_none e h)]; exact e
section
variable {X : Cx} {K : PySem.W.Frag}
end
def pfl (tl l f d : Addr) : List (Str × V) := putF "given" (.ref d) (putF "first" (.ref f) (putF "left" (.ref l) (putF "told" (.ref tl) [])))
structure PCl (K : PySem.W.Frag) (C : Addr) : Prop where
  cl : Cls K C
  nT : NoAttr K C "told"
  nL : NoAttr K C "left"
  nF : NoAttr K C "first"
  nG : NoAttr K C "given"
structure PObj (K : PySem.W.Frag) (C : Addr) (told : Ma.Cv) (w : List Int) (B H : Hp) (p l d : Addr) (left : List Int) (g : Ma.Gv) : Prop where
  same : Same B H
  bp : B p = none
  bl : B l = none
  bd : B d = none
  ob : ∃ dx tl f tvs, H p = some (.ins C dx (pfl tl l f d)) ∧ B tl = some (.lst (tvs.map V.ref)) ∧ Paired (fun (r : List Int) t => SqT K B t (r.map V.int)) told tvs ∧ SqT K B f (w.map V.int)
  hl : H l = some (.lst (left.map V.int))
  hd : H d = some (.dT (encG g))
section
variable {K : PySem.W.Frag} {C : Addr} {told : Ma.Cv} {w : List Int} {B H H' : Hp} {p l d : Addr} {left : List Int} {g : Ma.Gv}
theorem PObj.to (h : PObj K C told w B H p l d left g) (s : Same H H') : PObj K C told w B H' p l d left g := by
  obtain ⟨dx, tl, f, tvs, h1, h2, h3, h4⟩ := h.ob
  exact ⟨h.same.trans s, h.bp, h.bl, h.bd, ⟨dx, tl, f, tvs, s _ _ h1, h2, h3, h4⟩, s _ _ h.hl, s _ _ h.hd⟩
end
end Pv
namespace Pv
open PySem PySem.Spec PySem.SeqAt L2 Tv
/-! ### ways -/
structure LAt (H0 H : Hp) (a1 a2 : Addr) (line : List Int) (cm : Ma.Cam) : Prop where
  same : Same H0 H
  n1 : H0 a1 = none
  n2 : H0 a2 = none
  h1 : H a1 = some (.lst (line.map V.int))
  h2 : H a2 = some (.dK (encC cm))
theorem LAt.ne {H0 H : Hp} {a1 a2 : Addr} {line : List Int} {cm : Ma.Cam} (h : LAt H0 H a1 a2 line cm) : a1 ≠ a2 := ne_of h.h1 h.h2 (by intro z; cases z)
theorem LAt.to {H0 H H' : Hp} {a1 a2 : Addr} {line : List Int} {cm : Ma.Cam} (h : LAt H0 H a1 a2 line cm) (s : Same H H') : LAt H0 H' a1 a2 line cm := ⟨h.same.trans s, h.n1, h.n2, s _ _ h.h1, s _ _ h.h2⟩
end Pv
namespace Pv
open PySem PySem.Spec PySem.SeqAt L2 Tv
end Pv
namespace Ma
open Tv
end Ma
namespace Pv
open PySem PySem.Spec PySem.SeqAt L2 Tv
def PrR (H : Hp) (q : Int × Int) (v : V) : Prop := ∃ t : Addr, v = .ref t ∧ H t = some (.tup [.int q.1, .int q.2])
theorem PrR.to {H H' : Hp} (s : Same H H') : ∀ {l : List (Int × Int)} {zs : List V}, Paired (PrR H) l zs → Paired (PrR H') l zs
  | _, _, .nil => .nil
  | _, _, .cons ⟨t, e, h⟩ b => .cons ⟨t, e, s _ _ h⟩ (PrR.to s b)
theorem paired_app {α β : Type} {R : α → β → Prop} {x : α} {y : β} (h : R x y) : ∀ {l : List α} {zs : List β}, Paired R l zs → Paired R (l ++ [x]) (zs ++ [y])
  | _, _, .nil => .cons h .nil
  | _, _, .cons a b => .cons a (paired_app h b)
end Pv
namespace Pv
open PySem PySem.Spec PySem.SeqAt L2 Tv
theorem PrR.upd {H : Hp} {b : Addr} {xs : List V} {o : HO} (h : H b = some (.lst xs)) : ∀ {l : List (Int × Int)} {zs : List V}, Paired (PrR H) l zs → Paired (PrR (L2.upd H b o)) l zs
  | _, _, .nil => .nil
  | _, _, .cons ⟨t, e, z⟩ r => .cons ⟨t, e, by rw [upd_ne (ne_of z h (by intro y; cases y))]; exact z⟩ (PrR.upd h r)
end Pv
namespace Pv
open PySem PySem.Spec PySem.SeqAt L2 Tv
end Pv

/-! PxL: sorted(d), d a dict whose keys are pairs of ints -/
namespace Pv
open PySem PySem.Spec PySem.SeqAt PyProof.Rows L2 Tv
/-! // by great divisors -/
section
variable {X : Cx} {CT : CTab} {a b : Expr} {ma mb : EM} {pos : Pos}
end
end Pv

/-! PxM: a pair and one more -/
namespace Pv
open PySem PySem.Spec L2 Tv
/-! * and // of great ints -/
section
variable {X : Cx} {CT : CTab} {a b : Expr} {ma mb : EM} {pos : Pos}
end
end Pv

/-! PxN: except C as e: x = [e.f] if isinstance(e, D) and isinstance(e, ValueError) else []. -/
namespace Pv
open PySem PySem.Spec PySem.SeqAt L2 PyProof.Rows
section
variable {X : Cx} {CT : CTab} {P : List Nat} {Wx : Option WX} {W : WX}
end
end Pv

/-! PxO: comparisons with a global tuple of texts; == and != of an instance and anything by its class's own __eq__. -/
namespace Pv
open PySem PySem.Spec PySem.SeqAt L2
section
variable {X : Cx} {CT : CTab} {a : Expr} {ma : EM} {p pos : Pos} {n : Nat}
end
/-! == and != of an instance -/
section
variable {prog : Program} {w : World} {A : Around} {E : Value → Shared → Prop} {s : Shared} {K : PySem.W.Frag} {x C L f : Addr} {h₀ : Heap} {m : Str → Option Value} {ox : Obj} {od : Option Obj} {b tb : Value}
end
section
variable {X : Cx} {CT : CTab} {a b : Expr} {ma mb : EM} {j : Nat} {em : Int → Option (Nat × CM)} {pos : Pos}
end
end Pv

/-! TwA: answers that are a value or a list; == and != of instances with anything; comparisons with a global tuple of texts. -/
namespace Tv
open PySem Pv
def sF : D → SV
  | .list l => .own (.lst l)
  | d => .val d
section
variable {ω α β γ : Type} {R R1 R2 : ω → Rho} {me ma mb : EM} {ra : α → Rv} {rb : β → Rv} {Ta : PT α} {Tb : PT β}
/-! exceptions with their fields, from a class's maker -/
end
end Tv

/-! PxP: for k, v in d.items(), keys of any kind. -/
namespace Pv
open PySem PySem.Spec PySem.SeqAt L2 PyProof.Rows
section
variable {X : Cx} {pins : List (Addr × Obj)} {σ : L2.St} {H : Hp} {s : Shared} {d : Addr} {o : Obj}
end
section
variable {P : Program} {w : World} {K : PySem.W.Frag} {tg : Expr} {d : Addr} {o : Obj} {es : Array DictEntry} {ep : Nat}
end
section
variable {X : Cx} {tg e : Expr} {td : TE} {apos cpos : Pos}
end
/-! ### the pairs of a dict -/
section
variable {X : Cx} {CT : CTab} {P ts : List Nat} {elts : List Expr} {kk : Nat} {tpos : Pos} {body : List Stmt} {mg : GM} {mb : SM} {x : Str}
end
end Pv

/-! PxQ: sorted(d, key=f), sum(d.values()), d a dict whose keys are tuples. -/
namespace Pv
open PySem PySem.Spec PySem.SeqAt L2 PySem.W PyProof.Rows
section
variable {prog : Program} {w : World} {A : Around} {E : Value → Shared → Prop} {s : Shared} {T : String} {r d : Addr} {n : Nat} {P : Nat → Value → Prop} {OK : Heap → Prop}
end
/-! the node -/
end Pv

/-! PxR: sum(d.values()), d a dict whose keys are tuples; d == {}. -/
namespace Pv
open PySem PySem.Spec PySem.SeqAt L2 PyProof.Rows
open PySem.Calls
section
variable {prog : Program} {w : World} {A : Around} {E : Value → Shared → Prop} {s : Shared} {T : String} {r d : Addr} {n : Nat} {P : Nat → Value → Prop} {OK : Heap → Prop} {Q : Value → Shared → Prop}
end
section
variable {X : Cx} {CT : CTab} {e : Expr} {td : TE} {me : EM} {p pos apos cpos : Pos}
end
/-! d == {} -/
section
variable {prog : Program} {w : World} {A : Around} {E : Value → Shared → Prop} {s : Shared}
end
section
variable {X : Cx} {CT : CTab} {e : Expr} {td : TE} {me : EM} {pos p2 : Pos}
end
end Pv

/-! PxS: x += e, x -= e of ints. -/
namespace Pv
open PySem PySem.Spec PySem.SeqAt L2
section
variable {X : Cx} {CT : CTab} {P : List Nat} {Wx : Option WX} {e : Expr} {me : EM} {pos pos' : Pos}
end
end Pv

/-! TwB: the pairs of a dict, its values' sum, its keys sorted by a def, whether it is empty; x += e; comparisons with a global tuple of texts. -/
namespace Tv
open PySem Pv
section
variable {κ β : Type} [DecidableEq κ] {t : Bool} {kf : κ → List Int} {ek : κ → D} {e : β → D}
end
/-! comparisons with a global tuple of texts -/
end Tv

/-! PxT: sorted(list of tuples), none of them empty or the first one empty. -/
namespace Pv
open PySem PySem.Spec PySem.SeqAt L2
def gSortedU (ds : List D) : Option SV := match gSorted ds with
  | some x => some x
  | none => gSortedE ds
def rSrtU (K : PySem.W.Frag) : List V → Hp → VK → Prop := fun vs H Q => rSrt K vs H Q ∨ rSrtE K vs H Q
theorem cr_srtU {X : Cx} (hu : X.A.units + 200 < cLine) : CallR X (.builtin "sorted") (rSrtU X.K) := by
  intro pins s σ H vs us Q I r h
  rcases h with h | h
  · exact cr_srt hu pins s σ H vs us Q I r h
  · exact cr_srtE hu pins s σ H vs us Q I r h
theorem simSrtU {k : Kx} : CallSim k (rSrtU k.K) gSortedU := by
  intro F ρ σ H vs ds Q f rd h
  unfold gSortedU at h
  cases e : gSorted ds with
  | some x => rw [e] at h; exact .inl (simSrt F ρ σ H vs ds Q f rd (by rw [e]; exact h))
  | none => rw [e] at h; exact .inr (simSrtE F ρ σ H vs ds Q f rd h)
theorem uSortedU {X : Cx} {CT : CTab} {n : Nat} (hr : Room n X.A) : Blt X CT (.builtin "sorted") gSortedU := ⟨_, cr_srtU hr.u, simSrtU (k := kx X CT)⟩
end Pv

/-! TwC: sorted(list of tuples), none of them empty or the first one empty. -/
namespace Tv
open PySem Pv
def sortWU {α : Type} (e : α → D) (lt : List α → List α → Bool) (l : List (List α)) : PT (List (List α)) := fun Q => (srtOk (eT e) l = true ∨ l.head? = some []) ∧ Q (sortB lt l)
theorem opSortedU {α : Type} [DecidableEq α] {e : α → D} {n : Nat} {lt : List α → List α → Bool} [g : Good (eT e) n] [o : Ordd (eT e) lt] (l : List (List α)) (hn : n ≤ 100 := by decide) : OpN gSortedU [eL (eT e) l] (vL (eT e)) (sortWU e lt l) := fun Q q => by
  by_cases h : srtOk (eT e) l = true
  · obtain ⟨a, h1, h2⟩ := opSorted (e := eT e) (lt := lt) l hn Q ⟨h, q.2⟩
    exact ⟨a, h1, by simp only [gSortedU, h2]⟩
  · obtain ⟨a, h1, h2⟩ := opSortedE (e := e) (lt := lt) l hn Q ⟨q.1.resolve_left h, q.2⟩
    refine ⟨a, h1, ?_⟩
    have h3 : gSorted [eL (eT e) l] = none := by
      have h4 : sortable (l.map (eT e)) ≠ true := h
      simp only [gSorted, eL]
      rw [if_neg]
      intro z
      simp only [pSort, Bool.and_eq_true] at z
      exact h4 z.1.2
    simp only [gSortedU, h3, h2]
theorem sortWU_ok {α : Type} {e : α → D} {lt : List α → List α → Bool} {l : List (List α)} {Q : List (List α) → Prop} (h : (∀ x ∈ l, x ≠ []) ∨ l.head? = some []) (q : Q (sortB lt l)) : sortWU e lt l Q := by
  refine ⟨h.imp_left fun h => ?_, q⟩
  unfold srtOk sortable
  rw [Bool.or_eq_true]
  left
  rw [List.all_eq_true]
  intro d hd
  obtain ⟨p, hp, rfl⟩ := List.mem_map.mp hd
  cases p with
  | nil => exact absurd rfl (h [] hp)
  | cons x xs => rfl
end Tv

/-! PxU: except C as e: x = (e.f,). -/
namespace Pv
open PySem PySem.Spec PySem.SeqAt L2 PyProof.Rows
section
variable {X : Cx} {CT : CTab} {P : List Nat} {Wx : Option WX} {W : WX}
end
end Pv

/-! PxV: l.count(x), items of any kind. -/
namespace Pv
open PySem PySem.Spec PySem.SeqAt L2 PyProof.Rows
section
variable {X : Cx} {CT : CTab} {e : Expr} {mr : AM} {p pos : Pos}
end
end Pv

/-! TwD: except C as e: x = (e.f,); l.count(x). -/
namespace Tv
open PySem Pv
section
variable {pay : Pay} {ω α β γ δ : Type} {me ma mb : EM} {R R1 : ω → Rho} {s : α → SV} {sr : γ → SV} {T : PT (α ⊕ Str)}
end
end Tv

/-! PxW: for v in d.values(), keys of any kind. -/
namespace Pv
open PySem PySem.Spec PySem.SeqAt L2 PyProof.Rows
section
variable {P : Program} {w : World} {K : PySem.W.Frag} {tg : Expr} {d : Addr} {o : Obj} {es : Array DictEntry} {ep : Nat}
end
section
variable {X : Cx} {tg e : Expr} {td : TE} {apos cpos : Pos}
end
section
variable {X : Cx} {CT : CTab} {P ts : List Nat} {tg : Expr} {body : List Stmt} {mg : GM} {mb : SM} {x : Str}
end
end Pv

/-! TwE: the values of a dict, walked; (*pair, x). -/
namespace Tv
open PySem Pv
end Tv

/-! PxX: xs[i] -= e; x, xs[i] = e. -/
namespace Pv
open PySem PySem.Spec PySem.SeqAt L2
section
variable {X : Cx} {CT : CTab} {P : List Nat} {Wx : Option WX} {a e : Expr} {ma me : EM} {p tpos pos : Pos}
end
section
variable {X : Cx} {CT : CTab} {P : List Nat} {Wx : Option WX} {b e : Expr} {m2 me : EM}
end
end Pv

/-! TwF: xs[i] -= e; x, xs[i] = e. -/
namespace Tv
open PySem Pv
section
variable {ω γ δ : Type} {me m1 m2 : EM} {R R1 : ω → Rho}
end
end Tv

/-! PxY: text.split(sep), sep.join(texts). -/
namespace Pv
open PySem PySem.Spec PySem.SeqAt L2 PyProof.Rows
section
variable {X : Cx} {CT : CTab} {e o : Expr} {mo : EM} {mr : AM} {p pos : Pos}
end
section
variable {X : Cx} {CT : CTab} {e o : Expr} {mo : EM} {mr : AM} {p pos : Pos}
end
end Pv

/-! TwG: text.split(sep), sep.join(texts). -/
namespace Tv
open PySem Pv
end Tv

/-! PxZ: text * int, text + text. -/
namespace Pv
open PySem PySem.Spec PySem.SeqAt L2 PyProof.Rows
section
variable {X : Cx} {CT : CTab} {a b : Expr} {ma mb : EM} {pos : Pos}
end
end Pv

/-! TwH: text * int, text + text. -/
namespace Tv
open PySem Pv
end Tv

/-! PyA: B.__init__(self, ..), B an own class over ValueError that has no __init__ of its own. -/
namespace L2
open PySem PySem.Spec PyProof.Rows
section
variable {X : Cx} {e : Expr} {es : List Expr} {ta : TA} {p1 p2 pos : Pos} {x : Str} {B : Addr}
def pinB (K : PySem.W.Frag) (B : Addr) : Bool := decide (PySem.W.specialIn K (.ref B) "__getattribute__" = some (some (.builtin "type.__getattribute__"))) && PySem.W.readsIn K B (.type "type")
end
end L2

/-! PyB: an own exception class whose __init__ says B.__init__(self, 'text'); self.f = a; self.g = b. -/
namespace Pv
open PySem PySem.Spec PySem.SeqAt L2 PyProof.Rows
structure JC (K : PySem.W.Frag) (C BA : Addr) (f1 f2 : Str) : Prop where
  T : OexC K C
  f1 : PySem.W.findIn K (.ref C) f1 = some none
  f2 : PySem.W.findIn K (.ref C) f2 = some none
  b : pinB K BA = true
  v : PySem.W.findCls K (.ref BA) (.type "type") "__init__" = some (.val (.builtin "ValueError.__init__"))
def pinFB (K : PySem.W.Frag) (B x1 x2 f1 f2 : Str) : FuncData → Bool
  | ⟨_, qn, ⟨[], [⟨a0, _, _⟩, ⟨a1, _, _⟩, ⟨a2, _, _⟩], none, [], [], none, []⟩, .stmts [.Expr (.Call (.Attribute (.Name bn p1) ini p2) [.Name s0 p3, .Constant (.str tx) u q0] [] p4) p5, .Assign [.Attribute (.Name s1 p6) g1 p7] (.Name y1 p8) p9, .Assign [.Attribute (.Name s2 p10) g2 p11] (.Name y2 p12) p13], sc, gl, [], .none, _, _, _, _, cda, _, bi⟩ =>
    decide (a0 = "self") && (decide (a1 = x1) && (decide (a2 = x2) && (decide (bn = B) && (decide (ini = "__init__") && (decide (s0 = "self") && (decide (s1 = "self") && (decide (s2 = "self") && (decide (g1 = f1) && (decide (g2 = f2) && (decide (y1 = x1) && (decide (y2 = x2) &&
    (decide (gl = mainGlobals) && (decide (bi = builtinsNs) && (PySem.W.codeIn K cda qn && (decide (p4.line = p2.endLine) && (decide (sc.kind = .function) && (decide (sc.isCoroutine = false) && (decide (sc.isGenerator = false) && (decide (sc.names.lookup B = some .globalImplicit) &&
    (decide (sc.names.lookup ("self" : Str) = some .local) && (decide (sc.names.lookup x1 = some .local) && (decide (sc.names.lookup x2 = some .local) && (sc.names.all fun y => decide (y.2 ≠ .free))))))))))))))))))))))))
  | _ => false
def valB : Option PySem.W.CFound → Bool
  | some (.val (.builtin n)) => decide (n = "ValueError.__init__")
  | _ => false
def jcB (K : PySem.W.Frag) (C BA : Addr) (f1 f2 : Str) : Bool :=
  oexB K C && (He.eqO (PySem.W.findIn K (.ref C) "__setattr__") (some (some (.builtin "object.__setattr__"))) && (decide (PySem.W.subIn K (.ref C) (.type "BaseException") = some true) && (decide (PySem.W.typeIn K (.ref C) = some (.type "type")) && (PySem.W.keepIn K (.ref C) &&
  (He.eqO (PySem.W.findIn K (.ref C) f1) (some none) && (He.eqO (PySem.W.findIn K (.ref C) f2) (some none) && (pinB K BA && valB (PySem.W.findCls K (.ref BA) (.type "type") "__init__"))))))))
def pjB (K : PySem.W.Frag) (x f1 f2 : Str) : Bool := (jcB K (He.ga K x) (He.ga K "PitError") f1 f2 && xfB K (He.ga K x)) && (match PySem.W.findIn K (.ref (He.ga K x)) "__init__" with
  | some (some (.ref fI)) => decide (PySem.W.typeIn K (.ref fI) = some (.type "function")) && (match K.lookup fI with
    | some ⟨_, _, .func fd, _⟩ => pinFB K "PitError" "line" "word" f1 f2 fd
    | _ => false)
  | _ => false)
section
variable {X : Cx} {CT : CTab} {P : List Nat} {Wx : Option WX} {W : WX}
end
end Pv

/-! PyC: except C as e: x = (e.f1, e.f2) if isinstance(e, D) else 's'. -/
namespace Pv
open PySem PySem.Spec PySem.SeqAt L2 PyProof.Rows
section
variable {X : Cx} {CT : CTab} {P : List Nat} {Wx : Option WX} {W : WX}
end
structure FxJ (l : List (Str × Str × Str)) (fa : List He.Fa) (fn : List He.DefD) (cs : ClsT) (K : PySem.W.Frag) (mg : Str → Option Value) : Prop extends Fx fa fn cs K mg where
  pj : (l.all fun z => pjB K z.1 z.2.1 z.2.2) = true
abbrev exJ (cs : ClsT) (l : List (Str × Str × Str)) (K : PySem.W.Frag) : Bool := exK cs K && l.all fun z => pjB K z.1 z.2.1 z.2.2
theorem FxJ.of {l : List (Str × Str × Str)} {fa : List He.Fa} {fn : List He.DefD} {cs : ClsT} {K : PySem.W.Frag} {mg : Str → Option Value} {w : World} {h : Heap} (X : K.In h) (G : h.Ns mainGlobals mg) (c : He.SaysX fa fn [] [] (exJ cs l) w h K) : FxJ l fa fn cs K mg :=
  ⟨Fx.of X G ⟨c.t, (He.ba c.more).1, c.hd, c.out, c.empty⟩, (He.ba c.more).2⟩
end Pv

/-! PyD: x.append(what may raise). -/
namespace Pv
open PySem PySem.Spec PySem.SeqAt L2 PyProof.Rows
section
variable {X : Cx} {CT : CTab} {W : WX} {e : Expr} {me : EM} {pos p : Pos}
end
end Pv

/-! TwI: what may raise, the fields told by the run (twi.py printed most of it). -/
namespace Tv
open PySem Pv
section
variable {ω α β γ δ : Type} {me : EM} {R R1 R2 : ω → Rho} {s : α → SV} {s' : γ → SV} {sr : γ → SV} {T : PT (α ⊕ Xp)} {io : Bool} {out : γ → ω → SV} {K : δ → ω → Rho}
end
end Tv

/-! PyE: own exception classes whose __init__ only keeps what it is handed: self.f = x, or self.f = x; self.g = y. -/
namespace Pv
open PySem PySem.Spec PySem.SeqAt L2 PyProof.Rows
structure NjC (K : PySem.W.Frag) (C : Addr) (f1 f2 : Str) : Prop where
  T : OexC K C
  f1 : PySem.W.findIn K (.ref C) f1 = some none
  f2 : PySem.W.findIn K (.ref C) f2 = some none
def n1FB (K : PySem.W.Frag) (f1 : Str) : FuncData → Bool
  | ⟨_, qn, ⟨[], [⟨a0, _, _⟩, ⟨a1, _, _⟩], none, [], [], none, []⟩, .stmts [.Assign [.Attribute (.Name s1 p6) g1 p7] (.Name y1 p8) p9], sc, gl, [], .none, _, _, _, _, cda, _, bi⟩ =>
    decide (a0 = "self") && (decide (s1 = "self") && (decide (g1 = f1) && (decide (y1 = a1) && (decide (a1 = "index") &&
    (decide (gl = mainGlobals) && (decide (bi = builtinsNs) && (PySem.W.codeIn K cda qn && (decide (sc.kind = .function) && (decide (sc.isCoroutine = false) && (decide (sc.isGenerator = false) &&
    (decide (sc.names.lookup ("self" : Str) = some .local) && (decide (sc.names.lookup ("index" : Str) = some .local) && (sc.names.all fun y => decide (y.2 ≠ .free))))))))))))))
  | _ => false
def n2FB (K : PySem.W.Frag) (f1 f2 : Str) : FuncData → Bool
  | ⟨_, qn, ⟨[], [⟨a0, _, _⟩, ⟨a1, _, _⟩, ⟨a2, _, _⟩], none, [], [], none, []⟩, .stmts [.Assign [.Attribute (.Name s1 p6) g1 p7] (.Name y1 p8) p9, .Assign [.Attribute (.Name s2 p10) g2 p11] (.Name y2 p12) p13], sc, gl, [], .none, _, _, _, _, cda, _, bi⟩ =>
    decide (a0 = "self") && (decide (a1 = "arm") && (decide (a2 = "place") && (decide (s1 = "self") && (decide (s2 = "self") && (decide (g1 = f1) && (decide (g2 = f2) && (decide (y1 = "arm") && (decide (y2 = "place") &&
    (decide (gl = mainGlobals) && (decide (bi = builtinsNs) && (PySem.W.codeIn K cda qn && (decide (sc.kind = .function) && (decide (sc.isCoroutine = false) && (decide (sc.isGenerator = false) &&
    (decide (sc.names.lookup ("self" : Str) = some .local) && (decide (sc.names.lookup ("arm" : Str) = some .local) && (decide (sc.names.lookup ("place" : Str) = some .local) && (sc.names.all fun y => decide (y.2 ≠ .free)))))))))))))))))))
  | _ => false
def ncB (K : PySem.W.Frag) (C : Addr) (f1 f2 : Str) : Bool :=
  oexB K C && (He.eqO (PySem.W.findIn K (.ref C) "__setattr__") (some (some (.builtin "object.__setattr__"))) && (decide (PySem.W.subIn K (.ref C) (.type "BaseException") = some true) && (decide (PySem.W.typeIn K (.ref C) = some (.type "type")) && (PySem.W.keepIn K (.ref C) &&
  (He.eqO (PySem.W.findIn K (.ref C) f1) (some none) && He.eqO (PySem.W.findIn K (.ref C) f2) (some none))))))
def njB (K : PySem.W.Frag) (x f1 f2 : Str) : Bool := (ncB K (He.ga K x) f1 f2 && xfB K (He.ga K x)) && (match PySem.W.findIn K (.ref (He.ga K x)) "__init__" with
  | some (some (.ref fI)) => decide (PySem.W.typeIn K (.ref fI) = some (.type "function")) && (match K.lookup fI with
    | some ⟨_, _, .func fd, _⟩ => if f2 = "" then n1FB K f1 fd else n2FB K f1 f2 fd
    | _ => false)
  | _ => false)
section
variable {X : Cx} {CT : CTab} {P : List Nat} {Wx : Option WX} {W : WX}
end
structure FxN (l : List (Str × Str × Str)) (fa : List He.Fa) (fn : List He.DefD) (cs : ClsT) (K : PySem.W.Frag) (mg : Str → Option Value) : Prop extends Fx fa fn cs K mg where
  nj : (l.all fun z => njB K z.1 z.2.1 z.2.2) = true
abbrev exN (cs : ClsT) (l : List (Str × Str × Str)) (K : PySem.W.Frag) : Bool := exK cs K && l.all fun z => njB K z.1 z.2.1 z.2.2
theorem FxN.of {l : List (Str × Str × Str)} {fa : List He.Fa} {fn : List He.DefD} {cs : ClsT} {K : PySem.W.Frag} {mg : Str → Option Value} {w : World} {h : Heap} (X : K.In h) (G : h.Ns mainGlobals mg) (c : He.SaysX fa fn [] [] (exN cs l) w h K) : FxN l fa fn cs K mg :=
  ⟨Fx.of X G ⟨c.t, (He.ba c.more).1, c.hd, c.out, c.empty⟩, (He.ba c.more).2⟩
end Pv

/-! PyF: what may raise, frozen where it is made. -/
namespace Pv
open PySem PySem.Spec PySem.SeqAt L2
end Pv

/-! PyG: f(.., raising): the last argument may raise. -/
namespace Pv
open PySem PySem.Spec PySem.SeqAt L2
section
variable {X : Cx} {CT : CTab} {W : WX} {x : Str} {p pos : Pos} {a b e : Expr} {f : Addr} {io : Bool} {np j : Nat} {cm : CM} {ma mb me : EM}
end
end Pv

/-! TwJ: errors with one field told by the run; return [s, e.f]. -/
namespace Tv
open PySem Pv
section
variable {ω α β γ δ : Type} {me ma mb : EM} {R R1 : ω → Rho} {s : α → SV} {sr : γ → SV} {T : PT (α ⊕ Xp)}
end
section
variable {ω α β δ1 δ2 γ σ : Type} {mt : TM} {m1 m2 n : SM} {R R1 : ω → Rho} {K1 : δ1 → ω → Rho} {K2 : δ2 → ω → Rho} {KL : σ → ω → Rho} {io esc : Bool} {ks : List Nat} {s : γ → SV} {out : γ → ω → SV} {Tt : PT Bool} {T1 : PT δ1} {T2 : PT δ2} {Tl : δ1 → PT (Stp σ γ)} {Tr : δ2 → PT (Stp σ γ)}
end
end Tv

/-! PyH: tuples that have no attributes of their own: t.index(n); tuple(range(n)), tuple(list) known as such. -/
namespace L2
open PySem PySem.Spec PyProof.Rows
section
variable {X : Cx}
def exT (its : Array Value) : Obj := { cls := .type "tuple", data := .seq its }
theorem exT_new {h : Heap} {its : Array Value} : (h.push (exT its)).get? h.objs.size = some (exT its) := Heap.get?_push_size h rfl
theorem call_tupleX : CallR X (.type "tuple") (fun xs H Q => ∃ p ys, xs = [.ref p] ∧ SqL X.K H p ys ∧ ∀ l ob, H l = none → ob.cls = .type "tuple" → ob.dict = none → Q (.ref l) (upd H l (.frz ob (.tup ys)))) := by
  intro pins s σ H xs us Q I r h
  obtain ⟨p, ys, rfl, hq, q⟩ := h
  obtain ⟨u, rfl, rx⟩ := vals1 r
  cases rx
  obtain ⟨its, r', pl, hz⟩ := I.list hq
  have hlen := r'.length
  refine call_tuple_list pl.isList (fun h' kp => ?_) (by simp only [List.size_toArray] <;> omega)
  have I1 : Inv X pins σ H { s with heap := h' } := I.kept (t' := s.toks) kp
  have I2 : Inv X pins σ (upd H h'.objs.size (.frz (exT its.toArray) (.tup ys))) { s with heap := h'.push (exT its.toArray) } :=
    I1.laid (t' := s.toks) (fun b o e => Heap.get?_push_of_some _ e) (Nat.le_refl _) (show ObjOk X.prog X.w _ _ _ (.frz (exT its.toArray) (.tup ys)) from ⟨exT_new, hz, its, r', IsTup.new _ _⟩)
  exact ⟨.ref h'.objs.size, _, I2, rfl, q _ _ (I1.hok.fresh (Nat.le_refl _)) rfl rfl⟩
def tTIx (to : TE) (ta : TA) : TE := fun σ H Q => to σ H fun x H1 => (∃ (a : Addr) (ob : Obj) (vs : List V), x = .ref a ∧ H1 a = some (.frz ob (.tup vs)) ∧ ob.cls = .type "tuple" ∧ ob.dict = none) ∧
  ta σ H1 fun ys H2 => ∃ (a : Addr) (ns : List Int) (k : Int), x = .ref a ∧ ys = [.int k] ∧ SqT X.K H2 a (ns.map V.int) ∧ k ∈ ns ∧ Q (.int (ns.idxOf k : Nat)) H2
variable {o e : Expr} {to : TE} {t : TA} {apos cpos : Pos}
theorem pe_tix (ho : PE X o to) (ha : PA X [e] t)
    (hbase : attributeBase o "index" X.env (eval o X.env) = eval o X.env := by rfl)
    (hfew : ((backTo cpos (starEach [e] X.env)).all (fun x => !x.1) && (backToKw cpos (keywordEach [] X.env)).all (fun x => x.1.isSome)
      && decide ([e].length + ([] : List Keyword).length + (if ([] : List Keyword).isEmpty then 0 else 1) < 30)) = true := by rfl)
    (hline : (apos.endLine == cpos.line) = true := by rfl) (hs : starEach [e] X.env = (false, eval e X.env) :: starEach [] X.env := by rfl) (hplain : (backTo cpos (starEach [] X.env)).any (·.1) = false := by rfl) :
    PE X (.Call (.Attribute o "index" apos) [e] [] cpos) (tTIx (X := X) to t) := by
  refine ⟨fun pins s σ H Q I h => ?_⟩
  refine wpAny_Call_method_late hbase hfew hline rfl (thn (ho.run pins s σ H _ I h) fun v s1 ⟨x, H1, I1, r1, ⟨a, ob, vs, ex, hk, hc, hd⟩, q1⟩ => ?_)
  subst ex
  cases r1
  obtain ⟨hg, _⟩ := I1.hok a _ hk
  refine ⟨"tuple", "tuple.index", PySem.F.plainAttrs_tuple, PySem.F.slot_tuple_index, PySem.F.type_tuple_index, ⟨ob, hg, hc⟩, fun b eb => by cases eb; exact ⟨ob, hg, hd⟩, ?_⟩
  have hA := ha.run cpos pins s1 σ H1 _ I1 q1
  rw [hs] at hA ⊢
  refine Calls.callWith_builtin (by show (false || (backTo cpos (starEach [] X.env)).any (·.1)) = false; rw [hplain] <;> rfl) (Calls.evalArgs_plain ?_)
  refine thn hA fun us s2 ⟨ys, H2, I2, r2, q2⟩ => ?_
  obtain ⟨a', ns, k, e1, rfl, hq, hm, q⟩ := q2
  cases e1
  obtain ⟨u, rfl, ru⟩ := vals1 r2
  obtain ⟨tk, rfl⟩ := ru
  obtain ⟨its, r', pl, hz⟩ := I2.tuple hq
  exact PySem.SeqAt.tuple_index_ints pl (Vals.ints r') hm ⟨.int (ns.idxOf k : Nat), H2, I2.tok _, ⟨_, rfl⟩, q⟩
end
end L2
namespace Pv
open PySem PySem.Spec PySem.SeqAt L2
theorem nlk_xt {F : Hp} {a : Addr} {vs : List V} {ob : Obj} (e : F a = some (.frz ob (.tup vs))) (c : ob.cls = .type "tuple") (d : ob.dict = none) : TpX F a vs := ⟨ob, e, c, d⟩
def gTupleX : List D → Option SV
  | [.list xs] => some (.val (tpD xs))
  | _ => none
def rTupleX (K : PySem.W.Frag) : List V → Hp → VK → Prop := fun xs H Q => ∃ p ys, xs = [.ref p] ∧ SqL K H p ys ∧ ∀ l ob, H l = none → ob.cls = .type "tuple" → ob.dict = none → Q (.ref l) (upd H l (.frz ob (.tup ys)))
theorem simTupleX {k : Kx} : CallSim k (rTupleX k.K) gTupleX := by
  intro F ρ σ H vs ds Q f rd h
  unfold gTupleX at h
  split at h
  · obtain ⟨v, rfl, r⟩ := rd.one
    obtain ⟨a, ws, rfl, ha, rl⟩ := r.lst f.sub
    exact ⟨a, ws, rfl, .inl (.inl ha), fun l ob hl hc hd => h _ _ _ (Aft.newF f hl) (Rep.xt (nlk_xt upd_same hc hd) (rl.mono (Sub.upd (f.sub.none_of hl))))⟩
  · exact h.elim
def idxI (k : Int) : List Int → Option Nat
  | [] => none
  | j :: r => if j = k then some 0 else (idxI k r).map (· + 1)
theorem idxI_some {k : Int} : ∀ {l : List Int} {j : Nat}, idxI k l = some j → k ∈ l ∧ l.idxOf k = j
  | [], _, h => by cases h
  | x :: r, j, h => by
    unfold idxI at h
    split at h
    · rename_i e
      cases h
      subst e
      exact ⟨List.mem_cons_self .., by simp⟩
    · rename_i e
      obtain ⟨j', h1, rfl⟩ := Option.map_eq_some_iff.mp h
      obtain ⟨h2, h3⟩ := idxI_some h1
      refine ⟨List.mem_cons_of_mem _ h2, ?_⟩
      rw [List.idxOf_cons, h3]
      have : (x == k) = false := by simpa using e
      rw [this]; rfl
def gTIx : D → D → Option SV
  | .dict [(.bool true, .tuple xs)], .int k => (intsD xs).bind fun ns => (idxI k ns).map fun j => .val (.int (j : Int))
  | _, _ => none
def xtB : D → Bool
  | .dict [(.bool true, .tuple _)] => true
  | _ => false
def evTIx (mo me : EM) : EM := fun ρ => (mo ρ).bind fun a => (rdD a.2 a.1).bind fun d => if xtB d = true then (me a.2).bind fun b => (rdD b.2 b.1).bind fun d2 => (gTIx d d2).bind fun s => some (.sv s, b.2) else none
theorem simTIx {X : Cx} {CT : CTab} {to te : TE} {mo me : EM} (ho : SimE (kx X CT) to mo) (he : SimE (kx X CT) te me) : SimE (kx X CT) (tTIx (X := X) to (tCons te tNil)) (evTIx mo me) := by
  intro F ρ σ H Q f h
  unfold evTIx at h
  refine ho F ρ σ H _ f ((wpo_bind.mp h).mono fun a _ h => ?_)
  intro v F1 H1 A1 R1
  have h := wpo_bind.mp h
  cases e1 : rdD a.2 a.1 with
  | none => rw [e1] at h; exact h.elim
  | some d =>
    rw [e1] at h
    have rd := R1.rd A1.fr e1
    replace h : wpo (if xtB d = true then _ else none) _ := h
    split at h
    · rename_i hx
      unfold xtB at hx
      split at hx
      · rename_i xs
        obtain ⟨p, vs, rfl, hp, hq, rl⟩ := rd.xtp A1.fr.sub
        obtain ⟨ob, e2, c1, c2⟩ := hp.mono A1.fr.sub
        refine ⟨⟨p, ob, vs, rfl, e2, c1, c2⟩, ?_⟩
        refine he F1 a.2 σ H1 _ A1.fr ((wpo_bind.mp h).mono fun b _ h => ?_)
        intro u F2 H2 A2 R2
        have h := wpo_bind.mp h
        cases e3 : rdD b.2 b.1 with
        | none => rw [e3] at h; exact h.elim
        | some d2 =>
          rw [e3] at h
          have rd2 := R2.rd A2.fr e3
          replace h : wpo ((gTIx (.dict [(.bool true, .tuple xs)]) d2).bind _) _ := h
          replace h := wpo_bind.mp h
          cases d2 with
          | int k =>
            replace h : wpo ((intsD xs).bind fun ns => (idxI k ns).map fun j => SV.val (.int (j : Int))) _ := h
            cases e4 : intsD xs with
            | none => rw [e4] at h; exact h.elim
            | some ns =>
              rw [e4, Option.bind_some] at h
              cases e5 : idxI k ns with
              | none => rw [e5] at h; exact h.elim
              | some j =>
                rw [e5] at h
                obtain ⟨m1, m2⟩ := idxI_some e5
                have hq2 : SqT X.K H2 p (ns.map V.int) := by
                  rw [← rl.ints e4]
                  exact ((hp.mono A2.tr.sub).mono A2.fr.sub).sqT
                refine ⟨p, ns, k, rfl, by rw [rd2.int], hq2, m1, ?_⟩
                rw [m2]
                exact h _ F2 H2 (A1.trans A2) (.int _)
          | _ => exact h.elim
      · cases hx
    · exact h.elim
section
variable {X : Cx} {CT : CTab} {a e : Expr} {ma me : EM} {p pos p2 pos2 apos : Pos}
theorem uTupleX : Blt X CT (.type "tuple") gTupleX := ⟨_, call_tupleX, simTupleX (k := kx X CT)⟩
theorem nTIx (ho : NE X CT a ma) (he : NE X CT e me) (hbase : attributeBase a "index" X.env (eval a X.env) = eval a X.env := by rfl)
    (hfew : ((backTo pos (starEach [e] X.env)).all (fun x => !x.1) && (backToKw pos (keywordEach [] X.env)).all (fun x => x.1.isSome)
      && decide ([e].length + ([] : List Keyword).length + (if ([] : List Keyword).isEmpty then 0 else 1) < 30)) = true := by rfl)
    (hline : (apos.endLine == pos.line) = true := by rfl) (hs : starEach [e] X.env = (false, eval e X.env) :: starEach [] X.env := by rfl) (hplain : (backTo pos (starEach [] X.env)).any (·.1) = false := by rfl) :
    NE X CT (.Call (.Attribute a "index" apos) [e] [] pos) (evTIx ma me) := by
  obtain ⟨_, po, so⟩ := ho
  obtain ⟨_, pe, se⟩ := he
  exact ⟨_, pe_tix po (pa_cons pe pa_nil hs) hbase hfew hline hs hplain, simTIx so se⟩
end
theorem qEqO {X : Cx} {CT : CTab} {a b : Expr} {ma mb : EM} {pos : Pos} {j : Nat} {em : Int → Option (Nat × CM)} (ok : EqOk (kx X CT) X j em) (hr : Room j X.A) (ha : NE X CT a ma) (hb : NE X CT b mb) (hm : behindInMarks .Eq b = false := by first | exact nobehind _ (by decide) (by decide) | rfl) : NT X CT (.Compare a [.Eq] [b] pos) (tvB (evEqO em ma mb)) := by
  obtain ⟨_, pa, sa⟩ := ha
  obtain ⟨_, pb, sb⟩ := hb
  exact ⟨_, pt_cmpR (op_eqOwn hr) pa pb hm, simTvB (simEqO (k := kx X CT) ok sa sb)⟩
end Pv

/-! TwK: tuples known to have no attributes of their own. -/
namespace Tv
open PySem Pv
section
variable {ω α β γ δ : Type} {ma me : EM} {R R1 : ω → Rho} {e : α → D}
def eXt (e : α → D) (l : List α) : D := tpD (l.map e)
theorem opLenX (l : List α) : OpN gLen [eXt e l] (vV eI) (fun Q => Q (l.length : Int)) := fun Q q => ⟨_, q, by simp only [gLen, eXt, List.length_map]⟩
theorem opTupX (l : List α) : OpN gTupleX [eL e l] (vV (eXt e)) (fun Q => Q l) := fun Q q => ⟨_, q, rfl⟩
theorem opLenSetX (l : List Int) : Op1 gLenSetT (eXt eI l) (vV eI) (fun Q => Nat.ble l.length 3999 = true ∧ Q ((dd l).length : Int)) := fun Q q => by
  refine ⟨_, q.2, ?_⟩
  have h := Nat.le_of_ble_eq_true q.1
  simp only [gLenSetT, eXt, ints_map, Option.bind_some, if_pos (show l.length < 4000 by omega)]
theorem opIxE (l : List α) (i : Int) : Op2 gIx (eXt e l) (eI i) (vV e) (ixW l i) := fun Q q => by
  obtain ⟨a, h1, h2⟩ := opIxT (e := e) l i Q q
  exact ⟨a, h1, h2⟩
def tixW (l : List Int) (k : Int) : PT Int := fun Q => ∃ j : Nat, idxI k l = some j ∧ Q (j : Int)
theorem wTIx {l : List Int} {Tb : PT Int} (hb : WE me R (fun b => .sv (.val (eI b))) Tb R1) (ha : ∀ w, ma (R w) = some (.sv (.val (eXt eI l)), R w) := by intro _; rfl) :
    WE (evTIx ma me) R (fun j => .sv (.val (eI j))) (fun Q => Tb fun b => tixW l b Q) R1 := fun w Q q => by
  obtain ⟨b, w1, ⟨j, h1, q2⟩, e1⟩ := hb w _ q
  refine ⟨(j : Int), w1, q2, ?_⟩
  have e2 : rdD (R w) (.sv (.val (eXt eI l))) = some (eXt eI l) := rfl
  have e3 : xtB (eXt eI l) = true := rfl
  have e4 : rdD (R1 w1) (.sv (.val (eI b))) = some (.int b) := rfl
  have e5 : gTIx (eXt eI l) (.int b) = some (.val (.int (j : Int))) := by
    show (intsD (l.map eI)).bind _ = _
    rw [ints_map, Option.bind_some, h1]
    rfl
  simp only [evTIx, ha, e2, e3, e1, e4, e5, Option.bind_some, if_true]
end
end Tv

/-! PyI: more of tuples that have no attributes of their own: displays, sums, parts, in. -/
namespace L2
open PySem PySem.Spec PyProof.Rows HT
section
variable {X : Cx}
def NewX (H : Hp) (xs : List V) (Q : VK) : Prop := ∀ p ob, H p = none → ob.cls = .type "tuple" → ob.dict = none → Q (.ref p) (upd H p (.frz ob (.tup xs)))
def tTupX (t : TA) : TE := fun σ H Q => t σ H fun xs H1 => xs.length ≤ sizeLine ∧ NewX H1 xs Q
theorem pe_tupX {es : List Expr} {t : TA} {pos : Pos} {x1} (h : PA X es t) : PE X (.Tuple es x1 pos) (tTupX t) := by
  refine ⟨fun pins s σ H Q I hq => ?_⟩
  refine wpAny_Tuple_spliced (thn (h.run pos pins s σ H _ I hq) fun us s1 ⟨xs, H1, I1, r, z, q⟩ => ⟨by rw [← r.length]; exact z, ?_⟩)
  have hf : H1 s1.heap.objs.size = none := I1.hok.fresh (Nat.le_refl _)
  refine ⟨.ref s1.heap.objs.size, upd H1 s1.heap.objs.size (.frz (exT us.toArray) (.tup xs)), I1.laid (t' := s1.toks) (fun b u e => Heap.get?_push_of_some _ e) (Nat.le_refl _) ?_, rfl, q _ _ hf rfl rfl⟩
  exact ⟨exT_new, z, us, r, ⟨_, Heap.get?_push_size _ rfl, rfl, _, rfl⟩⟩
def rCatX (K : PySem.W.Frag) : R2 := fun x y H Q => ∃ a b xs ys, x = .ref a ∧ y = .ref b ∧ SqT K H a xs ∧ SqT K H b ys ∧ xs.length + ys.length ≤ sizeLine ∧
  (xs = [] → Q (.ref b) H) ∧ (xs ≠ [] → ys = [] → Q (.ref a) H) ∧ (xs ≠ [] → ys ≠ [] → NewX H (xs ++ ys) Q)
theorem op_catX : OpR X (binaryOp .Add) (rCatX X.K) := by
  intro pins s σ H x y v u Q I rx ry h
  obtain ⟨a, b, xs, ys, rfl, rfl, ha, hb, hz, q0, q1, q2⟩ := h
  cases rx
  cases ry
  obtain ⟨its, r1, p1, _⟩ := I.tuple ha
  obtain ⟨its2, r2, p2, _⟩ := I.tuple hb
  by_cases hx : xs = []
  · subst hx
    cases r1
    exact cat_tup0 p1 p2 ⟨.ref b, H, I, rfl, q0 rfl⟩
  · refine HT.cat_tup p1 p2 (fun z => hx (r1.nil_iff.mp z)) (fun z => ⟨.ref a, H, I, rfl, q1 hx (r2.nil_iff.mp z)⟩) (fun z => ?_) (by rw [← r1.length, ← r2.length]; exact hz)
    refine ⟨.ref s.heap.objs.size, _, I.laid (t' := s.toks) (o := .frz (exT (its ++ its2).toArray) (.tup (xs ++ ys))) (fun b ob q => Heap.get?_push_of_some _ q) (Nat.le_refl _) ?_, rfl, q2 hx (fun w => z (r2.nil_iff.mpr w)) _ _ (I.hok.fresh (Nat.le_refl _)) rfl rfl⟩
    exact ⟨exT_new, by rw [List.length_append]; exact hz, _, r1.append r2, IsTup.new _ _⟩
end
end L2
namespace Pv
open PySem PySem.Spec PySem.SeqAt L2
def evTupX (ma : AM) : EM := fun ρ => (ma ρ).bind fun a => (frzs a.2 a.1).bind fun b => if b.1.length ≤ sizeLine then some (.sv (.val (tpD b.1)), b.2) else none
theorem simTupX {k : Kx} {ta : TA} {ma : AM} (ha : SimA k ta ma) : SimE k (tTupX ta) (evTupX ma) := by
  intro F ρ σ H Q f h
  unfold evTupX at h
  refine ha F ρ σ H _ f ((wpo_bind.mp h).mono fun a _ h => ?_)
  intro vs F1 H1 A1 R1
  have h := wpo_bind.mp h
  cases e1 : frzs a.2 a.1 with
  | none => rw [e1] at h; exact h.elim
  | some b =>
    rw [e1] at h
    obtain ⟨F2, A2, s2, r2⟩ := frzs_ok f A1 (fun _ h => h) R1 e1
    have h : wpo (if b.1.length ≤ sizeLine then some (Rv.sv (.val (tpD b.1)), b.2) else none) _ := h
    split at h
    · rename_i hz
      refine ⟨by rw [r2.length]; exact hz, fun p ob hp hc hd => ?_⟩
      exact h _ _ _ (A2.new hp) (Rep.xt (nlk_xt upd_same hc hd) (r2.mono (Sub.upd (A2.fr.sub.none_of hp))))
    · exact h.elim
def gAddX : D → D → Option SV
  | .dict [(.bool true, .tuple xs)], .dict [(.bool true, .tuple ys)] => if xs.length + ys.length ≤ sizeLine then some (.val (tpD (xs ++ ys))) else none
  | _, _ => none
theorem simAddX {k : Kx} : OpSim k (rCatX k.K) gAddX := by
  intro F ρ σ H x y dx dy Q f rx ry h
  unfold gAddX at h
  split at h
  · rename_i xs ys
    split at h
    · rename_i hz
      obtain ⟨a, vs, rfl, ha', ha, ra⟩ := rx.xtp f.sub
      obtain ⟨b, us, rfl, hb', hb, rb⟩ := ry.xtp f.sub
      refine ⟨a, b, vs, us, rfl, rfl, ha, hb, by rw [ra.length, rb.length]; exact hz, fun e => ?_, fun e1 e2 => ?_, fun e1 e2 p ob hp hc hd => ?_⟩
      · subst e
        cases ra
        exact h _ F H (Aft.refl f) (Rep.xt hb' rb)
      · subst e2
        cases rb
        rw [List.append_nil] at h
        exact h _ F H (Aft.refl f) (Rep.xt ha' ra)
      · exact h _ _ _ (Aft.newF f hp) (Rep.xt (nlk_xt upd_same hc hd) ((ra.append rb).mono (Sub.upd (f.sub.none_of hp))))
    · exact h.elim
  · exact h.elim
def gAddP : D → D → Option SV
  | .dict [(.bool true, .tuple xs)], .tuple (y :: ys) => if xs.length + (y :: ys).length ≤ sizeLine then some (.val (.tuple (xs ++ y :: ys))) else none
  | _, _ => none
theorem simAddP {k : Kx} : OpSim k (rCatA k.K) gAddP := by
  intro F ρ σ H x y dx dy Q f rx ry h
  unfold gAddP at h
  split at h
  · rename_i xs y ys
    split at h
    · rename_i hz
      obtain ⟨a, vs, rfl, ha', ha, ra⟩ := rx.xtp f.sub
      obtain ⟨b, us, rfl, hb', hb, rb⟩ := ry.tup f.sub
      refine ⟨a, b, vs, us, rfl, rfl, ha, hb, by rw [ra.length, rb.length]; exact hz, fun e => ?_, fun e1 e2 => ?_, fun e1 e2 p hp => ?_⟩
      · subst e
        cases ra
        exact h _ F H (Aft.refl f) (Rep.tup hb' rb)
      · subst e2
        cases rb
      · exact h _ _ _ (Aft.newF f hp) (Rep.tup upd_same ((ra.append rb).mono (Sub.upd (f.sub.none_of hp))))
    · exact h.elim
  · exact h.elim
def gSlX (lo hi : Option Int) : D → Option SV
  | .dict [(.bool true, .tuple xs)] => if HT.sIx xs.length 0 lo = 0 ∧ HT.sIx xs.length xs.length hi = xs.length then none else some (.val (.tuple (cutL xs lo hi)))
  | _ => none
def evSlX (me : EM) (ml mh : OM) : EM := fun ρ => (me ρ).bind fun a => (ml a.2).bind fun b => (mh b.2).bind fun c => (rdD c.2 a.1).bind fun d => (gSlX b.1 c.1 d).bind fun s => some (.sv s, c.2)
theorem simSlX {k : Kx} {te : TE} {tl th : TO} {me : EM} {ml mh : OM} (he : SimE k te me) (hl : SimO k tl ml) (hh : SimO k th mh) : SimE k (tSl (rSlB k.K) te tl th) (evSlX me ml mh) := by
  intro F ρ σ H Q f h
  unfold evSlX at h
  refine he F ρ σ H _ f ((wpo_bind.mp h).mono fun a _ h => ?_)
  intro x F1 H1 A1 R1
  refine hl F1 a.2 σ H1 _ A1.fr ((wpo_bind.mp h).mono fun b _ h => ?_)
  intro F2 H2 A2
  refine hh F2 b.2 σ H2 _ A2.fr ((wpo_bind.mp h).mono fun c _ h => ?_)
  intro F3 H3 A3
  have R3 := R1.step f A1 (A2.trans A3)
  have A := A1.trans (A2.trans A3)
  have h := wpo_bind.mp h
  cases e1 : rdD c.2 a.1 with
  | none => rw [e1] at h; exact h.elim
  | some d =>
    rw [e1] at h
    have rd := R3.rd A3.fr e1
    replace h : wpo (gSlX b.1 c.1 d) _ := wpo_bind.mp h
    unfold gSlX at h
    split at h
    · obtain ⟨p, ws, rfl, hp', hp, rl⟩ := rd.xtp A3.fr.sub
      split at h
      · exact h.elim
      · rename_i hw
        refine .inr ⟨p, ws, rfl, hp, fun hw' => ?_, fun _ q hq => ?_⟩
        · rw [rl.length] at hw'
          exact absurd hw' hw
        · exact h _ _ _ (A.new hq) (Rep.tup upd_same ((rl.cut _ _).mono (Sub.upd (A3.fr.sub.none_of hq))))
    · exact h.elim
def gInX (neg : Bool) : D → D → Option SV
  | d, .dict [(.bool true, .tuple xs)] => if pIn d (.tuple xs) = true then some (.val (.bool (if neg = true then !gIn d (.tuple xs) else gIn d (.tuple xs)))) else none
  | _, _ => none
theorem dp_xt {k : Kx} {F H : Hp} {v : V} {xs : List D} (s : Sub F H) (h : RdR k F H v (tpD xs)) (p : PyData.plainAll xs = true) : Dp k.K H v (.tuple xs) := by
  obtain ⟨a, vs, rfl, _, hq, rl⟩ := h.xtp s
  exact .tup hq ((rl.mono s).dp p)
theorem simNotInX {k : Kx} : OpSim k (rDat k.K pIn fun d e => !gIn d e) (gInX true) := by
  intro F ρ σ H x y dx dy Q f rx ry h
  unfold gInX at h
  split at h
  · rename_i d xs
    by_cases e : pIn dx (.tuple xs) = true
    · rw [if_pos e] at h
      obtain ⟨p1, p2⟩ := pIn_plain e
      exact ⟨dx, .tuple xs, rx.dp f.sub p1, dp_xt f.sub ry (by simpa [PyData.plain] using p2), e, h _ F H (Aft.refl f) (.bl _)⟩
    · rw [if_neg e] at h; exact h.elim
  · exact h.elim
section
variable {X : Cx} {CT : CTab} {a b : Expr} {ma mb : EM} {es : List Expr} {mr : AM} {pos p2 : Pos} {n : Nat}
theorem nTupX {x1} : NA X CT es mr → NE X CT (.Tuple es x1 pos) (evTupX mr) := fun ⟨_, pa, sa⟩ => ⟨_, pe_tupX pa, simTupX sa⟩
theorem nAddXX : NE X CT a ma → NE X CT b mb → NE X CT (.BinOp a .Add b pos) (evBin gAddX ma mb) := fun ⟨_, pa, sa⟩ ⟨_, pb, sb⟩ => ⟨_, pe_op op_catX pa pb, simBin (k := kx X CT) simAddX sa sb⟩
theorem nAddXP : NE X CT a ma → NE X CT b mb → NE X CT (.BinOp a .Add b pos) (evBin gAddP ma mb) := fun ⟨_, pa, sa⟩ ⟨_, pb, sb⟩ => ⟨_, pe_op op_catA pa pb, simBin (k := kx X CT) simAddP sa sb⟩
theorem nSlX2 {lo hi : Option Expr} {ml mh : OM} : NE X CT a ma → NO X CT lo ml → NO X CT hi mh → NE X CT (.Subscript a (.Slice lo hi none p2) pos) (evSlX ma ml mh) :=
  fun ⟨_, pa, sa⟩ ⟨_, pl, sl⟩ ⟨_, ph, sh⟩ => ⟨_, pe_slice sl_B pa pl ph, simSlX (k := kx X CT) sa sl sh⟩
theorem kNotInX (hr : Room n X.A) : Cmp X CT .NotIn (gInX true) := ⟨_, op_notInP hr.u, simNotInX⟩
end
end Pv

/-! TwL: displays, sums, parts of tuples without attributes. -/
namespace Tv
open PySem Pv
section
variable {ω α β γ δ : Type} {ma me : EM} {ms : AM} {R R1 R2 : ω → Rho} {rs : α → List Rv} {Ts : PT α} {e : α → D}
theorem wTupX {e : γ → D} {f : α → γ} {ds : α → List D} (ha : W ms R rs Ts R1) (he : ∀ a, e (f a) = tpD (ds a)) (h1 : ∀ w a, frzs (R1 w) (rs a) = some (ds a, R2 w) := by intro _ _; rfl) (hl : ∀ a, (ds a).length ≤ sizeLine := by intro _; exact Nat.le_trans (Nat.le_refl _) (by rw [size_eq]; (first | exact (by decide : (0 : Nat) ≤ 16777216) | exact (by decide : (1 : Nat) ≤ 16777216)))) :
    WE (evTupX ms) R (fun c => .sv (.val (e c))) (fun Q => Ts fun a => Q (f a)) R2 := fun w Q q => by
  obtain ⟨a, w1, q1, e1⟩ := ha w _ q
  exact ⟨f a, w1, q1, by simp only [evTupX, e1, h1, Option.bind_some, if_pos (hl a), he]⟩
theorem opAddXX (l m : List α) : Op2 gAddX (eXt e l) (eXt e m) (vV (eXt e)) (catW l m) := fun Q q => ⟨_, q.2, by simp only [gAddX, eXt, vV, List.length_map, if_pos q.1, List.map_append]⟩
theorem opAddXP (l m : List α) : Op2 gAddP (eXt e l) (eT e m) (vV (eT e)) (fun Q => m ≠ [] ∧ catW l m Q) := fun Q q => by
  obtain ⟨hm, hz, q⟩ := q
  cases m with
  | nil => exact absurd rfl hm
  | cons x m =>
    refine ⟨_, q, ?_⟩
    show (if (l.map e).length + (e x :: m.map e).length ≤ sizeLine then _ else _) = _
    rw [if_pos (by simpa using hz)]
    show some (SV.val (.tuple (l.map e ++ e x :: m.map e))) = some (SV.val (.tuple ((l ++ x :: m).map e)))
    rw [List.map_append]
    rfl
theorem wSlX {ra : α → Rv} {Ta : PT α} {d1 : α → D} {s : γ → SV} {top : α → PT γ} {lo hi : Option Int} (ha : WE ma R ra Ta R1) (ho : ∀ a, Op1 (gSlX lo hi) (d1 a) s (top a)) {ml mh : OM} (hl : ∀ w, ml (R1 w) = some (lo, R1 w) := by intro _; rfl) (hh : ∀ w, mh (R1 w) = some (hi, R1 w) := by intro _; rfl) (h1 : ∀ w a, rdD (R1 w) (ra a) = some (d1 a) := by intro _ _; rfl) :
    WE (evSlX ma ml mh) R (fun x => .sv (s x)) (fun Q => Ta fun a => top a Q) R1 := fun w Q q => by
  obtain ⟨a, w1, q1, e1⟩ := ha w _ q
  obtain ⟨c, q2, e2⟩ := ho a _ q1
  exact ⟨c, w1, q2, by simp only [evSlX, e1, hl, hh, h1, e2, Option.bind_some]⟩
def slXW {α : Type} (l : List α) (lo hi : Option Int) : PT (List α) := fun Q => ¬ (HT.sIx l.length 0 lo = 0 ∧ HT.sIx l.length l.length hi = l.length) ∧ Q (cutL l lo hi)
theorem opSlX (lo hi : Option Int) (l : List α) : Op1 (gSlX lo hi) (eXt e l) (vV (eT e)) (slXW l lo hi) := fun Q q => by
  refine ⟨_, q.2, ?_⟩
  show (if HT.sIx (l.map e).length 0 lo = 0 ∧ HT.sIx (l.map e).length (l.map e).length hi = (l.map e).length then none else _) = _
  rw [List.length_map, if_neg q.1]
  show some (SV.val (.tuple (cutL (l.map e) lo hi))) = some (SV.val (.tuple ((cutL l lo hi).map e)))
  unfold cutL
  rw [List.length_map, List.map_take, List.map_drop]
theorem opListX (l : List α) : OpN gList [eXt e l] (vL e) (fun Q => Q l) := fun Q q => ⟨_, q, rfl⟩
theorem opNotInX [DecidableEq α] {n : Nat} [g : Good e n] (a : α) (l : List α) (hn : n ≤ 100 := by decide) : Op2 (gInX true) (e a) (eXt e l) (vV eB) (fun Q => Q (!decide (a ∈ l))) := fun Q q => by
  obtain ⟨b, h1, h2⟩ := opNotInT (e := e) a l hn Q q
  refine ⟨b, h1, ?_⟩
  rw [← h2]
  rfl
end
theorem wNeverI {ω : Type} {m : EM} {R R1 : ω → Rho} : WE m R (fun j : Int => .sv (.val (eI j))) (fun _ => False) R1 := fun _ _ q => q.elim
theorem sPopCatX {ω γ α : Type} {ms : AM} {R R1 : ω → Rho} {rs : α → List Rv} {T : PT α} {e : γ → D} {i j : Nat} {P : List Nat} {l t : List γ} {v : α → Int} {K : List γ × List γ → ω → Rho} (h : W ms R rs T R1)
    (h0 : ∀ w, lstAt (R w) i = some (l.map e) := by intro _; rfl) (ht : ∀ w, evVar j (R w) = some (.sv (.val (eXt e t)), R w) := by intro _; rfl) (h1 : ∀ w a, frzs (R1 w) (rs a) = some ([eI (v a)], R1 w) := by intro _ _; rfl)
    (h2 : ∀ w, lstAt (R1 w) i = some (l.map e) := by intro _; rfl) (hj : j ∉ P := by decide)
    (hK : ∀ w p, ((R1 w).set i (some (.own (.lst (p.2.map e))))).set j (some (.val (eXt e p.1))) = K p w := by intro _ _; rfl) :
    WS (exAsg P j (evBin gAddX (evVar j) (evTupX (evCons (evMut fPopAt i ms) evNil)))) R K (fun Q => T fun a => popW l (v a) fun p => catW t [p.1] fun t' => Q (t', p.2)) := fun w Q q => by
  obtain ⟨a, w1, ⟨hi, x, hx, q1⟩, e1⟩ := h w _ q
  obtain ⟨hl, q1⟩ := q1
  refine ⟨_, w1, q1, ?_⟩
  have em : evMut fPopAt i ms (R w) = some (.sv (.val (e x)), (R1 w1).set i (some (.own (.lst ((l.eraseIdx (v a).toNat).map e))))) := by
    simp only [evMut, h0, e1, h1, h2, Option.bind_some, fPop_map hi hx]
  have et : evTupX (evCons (evMut fPopAt i ms) evNil) (R w) = some (.sv (.val (tpD [e x])), (R1 w1).set i (some (.own (.lst ((l.eraseIdx (v a).toNat).map e))))) := by
    simp only [evTupX, evCons, evNil, em, Option.bind_some, frzs, frz1]
    rw [if_pos (by rw [size_eq]; simp)]
  have eg : gAddX (eXt e t) (tpD [e x]) = some (.val (eXt e (t ++ [x]))) := by
    have := opAddXX (e := e) t [x] (fun r => r = t ++ [x]) ⟨hl, rfl⟩
    obtain ⟨r, rfl, h⟩ := this
    exact h
  simp only [exAsg, evBin, ht, et, Option.bind_some, rdD, SV.d, eg, stoS, if_neg hj]
  exact congrArg (fun z => some (Fl.nx, z)) (hK w1 (t ++ [x], l.eraseIdx (v a).toNat))
end Tv

/-! Mb1: loops that may be left with an answer -/
namespace Ma
open Tv
end Ma

/-! Mb3: values of any kind, plain facts -/
namespace Ma
open PySem Pv Tv
def okB : D → Bool
  | .dict [] => true
  | .dict _ => false
  | _ => true
def intB : D → Bool
  | .int _ => true
  | .bool _ => true
  | _ => false
def boolB : D → Bool
  | .bool _ => true
  | _ => false
def tupB : D → Bool
  | .tuple _ => true
  | _ => false
theorem isA_int {d : D} {Q : Bool → Prop} (h : okB d = true) (q : Q (intB d)) : isAW [.ty "int"] d Q := by
  cases d with
  | dict kvs => cases kvs with
    | nil => exact ⟨_, rfl, q⟩
    | cons a b => cases h
  | _ => exact ⟨_, rfl, q⟩
theorem isA_bool {d : D} {Q : Bool → Prop} (h : okB d = true) (q : Q (boolB d)) : isAW [.ty "bool"] d Q := by
  cases d with
  | dict kvs => cases kvs with
    | nil => exact ⟨_, rfl, q⟩
    | cons a b => cases h
  | _ => exact ⟨_, rfl, q⟩
theorem isA_tup {d : D} {Q : Bool → Prop} (h : okB d = true) (q : Q (tupB d)) : isAW [.ty "tuple"] d Q := by
  cases d with
  | dict kvs => cases kvs with
    | nil => exact ⟨_, rfl, q⟩
    | cons a b => cases h
  | _ => exact ⟨_, rfl, q⟩
def frB (v : D) (lo hi : Int) : Bool := match v with
  | .int i => decide (lo ≤ i) && decide (i ≤ hi)
  | _ => false
end Ma

/-! MaU: the pits of a table's ground, one by one -/
namespace Ma
open PySem Pv Tv
section
variable {cs : List Int} {rs : Rl}
theorem pits_head {c : Cv} : (pitsL c).head? = some [] := by
  cases e : pitsL c with
  | nil => exact absurd e (pitsL_ne c)
  | cons a l =>
    have so : (pitsL c).Pairwise fun a b => ltS b a = false := by
      rw [pitsL_eq]; exact srtS_sorted _
    have hn := mem_pitsL.mpr (pit_nil c)
    rw [e] at so hn
    rcases List.mem_cons.mp hn with z | z
    · rw [← z]; rfl
    · have := ltS_len ((List.pairwise_cons.mp so).1 _ z)
      have : a = [] := List.length_eq_zero_iff.mp (by simpa using this)
      rw [this]; rfl
end
end Ma

/-! Mf2: joins of two grounds: names, needs, the least order. -/
namespace Ma
open PySem Pv Tv
structure Shr (m n : Nat) (sh : List (Int × Int)) : Prop where
  asc : sh.Pairwise fun p q => p.1 < q.1
  nd : (sh.map (·.2)).Nodup
  rg : ∀ p ∈ sh, (0 ≤ p.1 ∧ p.1 < m) ∧ (0 ≤ p.2 ∧ p.2 < n)
section
variable {m n : Nat} {sh : List (Int × Int)}
theorem Shr.fst (h : Shr m n sh) {p q : Int × Int} (hp : p ∈ sh) (hq : q ∈ sh) (e : p.1 = q.1) : p = q := by
  have : ∀ l : List (Int × Int), (l.Pairwise fun p q => p.1 < q.1) → p ∈ l → q ∈ l → p = q := fun l => by
    induction l with
    | nil => intro _ h; cases h
    | cons x l ih =>
      intro hl h1 h2
      rw [List.pairwise_cons] at hl
      rcases List.mem_cons.mp h1 with z1 | z1 <;> rcases List.mem_cons.mp h2 with z2 | z2
      · rw [z1, z2]
      · have := hl.1 q z2; rw [z1] at e; omega
      · have := hl.1 p z1; rw [z2] at e; omega
      · exact ih hl.2 z1 z2
  exact this sh h.asc hp hq
theorem Shr.snd (h : Shr m n sh) {p q : Int × Int} (hp : p ∈ sh) (hq : q ∈ sh) (e : p.2 = q.2) : p = q := by
  have : ∀ l : List (Int × Int), (l.map (·.2)).Nodup → p ∈ l → q ∈ l → p = q := fun l => by
    induction l with
    | nil => intro _ h; cases h
    | cons x l ih =>
      intro hl h1 h2
      rw [List.map_cons, List.nodup_cons] at hl
      rcases List.mem_cons.mp h1 with z1 | z1 <;> rcases List.mem_cons.mp h2 with z2 | z2
      · rw [z1, z2]
      · exact absurd (List.mem_map.mpr ⟨q, z2, by rw [← e, z1]⟩) hl.1
      · exact absurd (List.mem_map.mpr ⟨p, z1, by rw [e, z2]⟩) hl.1
      · exact ih hl.2 z1 z2
  exact this sh h.nd hp hq
theorem Shr.len (h : Shr m n sh) : sh.length ≤ m := by
  have : Lot m (sh.map (·.1)) := ⟨by rw [List.pairwise_map]; exact h.asc, fun x hx => by obtain ⟨p, hp, rfl⟩ := List.mem_map.mp hx; exact (h.rg p hp).1⟩
  have := asc_len this
  rwa [List.length_map] at this
def kn (sh : List (Int × Int)) (b : Int) : Option Int := (sh.find? fun q => decide (q.2 = b)).map (·.1)
theorem kn_some (h : Shr m n sh) {a b : Int} : kn sh b = some a ↔ (a, b) ∈ sh := by
  unfold kn
  rw [Option.map_eq_some_iff]
  constructor
  · rintro ⟨q, hq, rfl⟩
    have h1 := List.mem_of_find?_eq_some hq
    have h2 := List.find?_some hq
    have : q.2 = b := by simpa using h2
    rw [← this]; exact h1
  · intro hm
    cases e : sh.find? fun q => decide (q.2 = b) with
    | none =>
      have := List.find?_eq_none.mp e _ hm
      simp at this
    | some q =>
      have h1 := List.mem_of_find?_eq_some e
      have h2 := List.find?_some e
      have : q.2 = b := by simpa using h2
      exact ⟨q, rfl, by rw [h.snd h1 hm this]⟩
def nm (β : Int) (sh : List (Int × Int)) (b : Int) : Int := (kn sh b).getD (β + b)
theorem nm_some {β a b : Int} (e : kn sh b = some a) : nm β sh b = a := by unfold nm; rw [e]; rfl
theorem nm_none {β b : Int} (e : kn sh b = none) : nm β sh b = β + b := by unfold nm; rw [e]; rfl
theorem nm_inj (h : Shr m n sh) {β b b' : Int} (hβ : (m : Int) ≤ β) (h0 : 0 ≤ b) (h0' : 0 ≤ b') (e : nm β sh b = nm β sh b') : b = b' := by
  cases k : kn sh b with
  | some a =>
    have r := (h.rg _ ((kn_some h).mp k)).1
    rw [nm_some k] at e
    cases k' : kn sh b' with
    | some a' =>
      rw [nm_some k'] at e
      have := h.fst ((kn_some h).mp k) ((kn_some h).mp k') e
      exact congrArg (·.2) this
    | none => rw [nm_none k'] at e; omega
  | none =>
    rw [nm_none k] at e
    cases k' : kn sh b' with
    | some a' =>
      have r := (h.rg _ ((kn_some h).mp k')).1
      rw [nm_some k'] at e; omega
    | none => rw [nm_none k'] at e; omega
end
def KJ (m : Nat) (β : Int) (sh : List (Int × Int)) (j : Nat) : List Int := rangeL 0 m ++ ((rangeL 0 j).filter fun b => (kn sh b).isNone).map fun b => β + b
def ndJ (c d : Cv) (β : Int) (sh : List (Int × Int)) (j : Nat) (x : Int) : List Int := (if 0 ≤ x ∧ x < c.length then atC c x else []) ++ ((rangeL 0 j).filter fun b => decide (nm β sh b = x)).flatMap fun b => (atC d b).map (nm β sh)
structure NdI (c d : Cv) (β : Int) (sh : List (Int × Int)) (j : Nat) (s : List (Int × List Int)) : Prop where
  keys : keysM s = KJ c.length β sh j
  get : ∀ x, getM s x = if x ∈ KJ c.length β sh j then some (ndJ c d β sh j x) else none
theorem KJ_len (m : Nat) (β : Int) (sh : List (Int × Int)) (j : Nat) : (KJ m β sh j).length ≤ m + j := by
  unfold KJ
  rw [List.length_append, rangeL_len, List.length_map]
  have := List.length_filter_le (fun b => (kn sh b).isNone) (rangeL 0 j)
  rw [rangeL_len] at this
  omega
theorem mem_KJ {m : Nat} {β : Int} {sh : List (Int × Int)} {j : Nat} {x : Int} : x ∈ KJ m β sh j ↔ (0 ≤ x ∧ x < m) ∨ ∃ b : Int, (0 ≤ b ∧ b < j) ∧ kn sh b = none ∧ x = β + b := by
  unfold KJ
  rw [List.mem_append, mem_rangeL, List.mem_map]
  refine or_congr (by omega) ⟨?_, ?_⟩
  · rintro ⟨b, hb, rfl⟩
    obtain ⟨h1, h2⟩ := List.mem_filter.mp hb
    have := mem_rangeL.mp h1
    exact ⟨b, by omega, Option.isNone_iff_eq_none.mp h2, rfl⟩
  · rintro ⟨b, hb, h2, rfl⟩
    exact ⟨b, List.mem_filter.mpr ⟨mem_rangeL.mpr (by omega), by rw [h2]; rfl⟩, rfl⟩
theorem KJ_asc {m : Nat} {β : Int} {sh : List (Int × Int)} {j : Nat} (hβ : (m : Int) ≤ β) : (KJ m β sh j).Pairwise (· < ·) := by
  unfold KJ
  rw [List.pairwise_append]
  refine ⟨rangeL_lt, ?_, fun a ha b hb => ?_⟩
  · rw [List.pairwise_map]
    exact (rangeL_lt.sublist List.filter_sublist).imp fun h => by omega
  · have := mem_rangeL.mp ha
    obtain ⟨b', hb', rfl⟩ := List.mem_map.mp hb
    have := mem_rangeL.mp (List.mem_filter.mp hb').1
    omega
section
variable {c d : Cv} {β : Int} {sh : List (Int × Int)}
theorem NdI.len {j : Nat} {s : List (Int × List Int)} (h : NdI c d β sh j s) : s.length ≤ c.length + j := by
  have := congrArg List.length h.keys
  have e : (keysM s).length = s.length := by unfold keysM; rw [List.length_map]
  have := KJ_len c.length β sh j
  omega
theorem nm_mem (hs : Shr c.length d.length sh) {b : Int} {j : Nat} (h0 : 0 ≤ b) (h1 : b < j) : nm β sh b ∈ KJ c.length β sh j := by
  rw [mem_KJ]
  cases k : kn sh b with
  | some a => rw [nm_some k]; exact .inl (hs.rg _ ((kn_some hs).mp k)).1
  | none => rw [nm_none k]; exact .inr ⟨b, ⟨h0, h1⟩, k, rfl⟩
theorem NdI.step (hs : Shr c.length d.length sh) (hβ : (c.length : Int) ≤ β) {j : Nat} {s : List (Int × List Int)} (h : NdI c d β sh j s) :
    NdI c d β sh (j + 1) (putM s (nm β sh j) ((getM s (nm β sh j)).getD [] ++ (atC d j).map (nm β sh))) := by
  have fl : ((rangeL 0 (j + 1)).filter fun b => (kn sh b).isNone) = ((rangeL 0 j).filter fun b => (kn sh b).isNone) ++ if (kn sh j).isNone = true then [(j : Int)] else [] := by
    rw [rangeL_succ, List.filter_append, List.filter_cons, show (0 : Int) + (j : Int) = j by omega]
    split <;> simp_all
  have kj : KJ c.length β sh (j + 1) = KJ c.length β sh j ++ if (kn sh j).isNone = true then [β + j] else [] := by
    unfold KJ
    rw [fl, List.map_append, List.append_assoc]
    congr 2
    split <;> rfl
  have hm : hasM s (nm β sh j) = decide (nm β sh j ∈ KJ c.length β sh j) := by
    rw [← hasM_get, h.get]
    split <;> rename_i z
    · rw [decide_eq_true z]; rfl
    · rw [decide_eq_false z]; rfl
  have ins : nm β sh j ∈ KJ c.length β sh j ↔ (kn sh j).isNone = false := by
    cases k : kn sh j with
    | some a => rw [nm_some k]; exact ⟨fun _ => rfl, fun _ => mem_KJ.mpr (.inl (hs.rg _ ((kn_some hs).mp k)).1)⟩
    | none =>
      rw [nm_none k]
      refine ⟨fun z => ?_, fun z => by cases z⟩
      rcases mem_KJ.mp z with z | ⟨b, h1, _, h3⟩ <;> omega
  have nds : ∀ x, ndJ c d β sh (j + 1) x = ndJ c d β sh j x ++ if nm β sh j = x then (atC d j).map (nm β sh) else [] := fun x => by
    unfold ndJ
    rw [rangeL_succ, List.filter_append, List.filter_cons, show (0 : Int) + (j : Int) = j by omega, List.flatMap_append, List.append_assoc]
    congr 2
    by_cases z : nm β sh j = x
    · rw [if_pos (decide_eq_true z), if_pos z]; simp
    · rw [if_neg (by simpa using z), if_neg z]; simp
  have nd0 : nm β sh j ∉ KJ c.length β sh j → ndJ c d β sh j (nm β sh j) = [] := fun z => by
    unfold ndJ
    rw [if_neg (fun r => z (mem_KJ.mpr (.inl r))), List.nil_append]
    have : ((rangeL 0 j).filter fun b => decide (nm β sh b = nm β sh j)) = [] := by
      rw [List.filter_eq_nil_iff]
      intro b hb e
      have hb := mem_rangeL.mp hb
      have := nm_inj hs hβ (by omega) (by omega) (of_decide_eq_true e)
      omega
    rw [this]; rfl
  refine ⟨?_, fun x => ?_⟩
  · rw [keys_put, hm, h.keys, kj]
    by_cases z : nm β sh j ∈ KJ c.length β sh j
    · rw [if_pos (decide_eq_true z), ins.mp z]; simp
    · have : (kn sh j).isNone = true := by
        cases e : (kn sh j).isNone with
        | true => rfl
        | false => exact absurd (ins.mpr e) z
      rw [if_neg (by simpa using z), if_pos this, nm_none (Option.isNone_iff_eq_none.mp this)]
  · rw [getM_put, nds]
    by_cases e : x = nm β sh j
    · subst e
      rw [if_pos rfl, if_pos (nm_mem hs (by omega) (by omega)), if_pos rfl, h.get]
      by_cases z : nm β sh j ∈ KJ c.length β sh j
      · rw [if_pos z]; rfl
      · rw [if_neg z, nd0 z]; rfl
    · have e0 : (if nm β sh j = x then (atC d j).map (nm β sh) else []) = [] := if_neg fun z => e z.symm
      rw [if_neg e, e0, List.append_nil, h.get]
      have : x ∈ KJ c.length β sh (j + 1) ↔ x ∈ KJ c.length β sh j := by
        rw [kj, List.mem_append]
        refine ⟨fun z => z.elim id fun z => ?_, .inl⟩
        split at z <;> rename_i k
        · rw [List.mem_singleton.mp z, nm_none (Option.isNone_iff_eq_none.mp k)] at e
          exact absurd rfl e
        · cases z
      by_cases z : x ∈ KJ c.length β sh j
      · rw [if_pos z, if_pos (this.mpr z)]
      · rw [if_neg z, if_neg (fun y => z (this.mp y))]
theorem NdI.start {s : List (Int × List Int)} (hk : keysM s = rangeL 0 c.length) (hg : ∀ x : Int, 0 ≤ x → x < c.length → getM s x = some (atC c x)) (hn : ∀ x, x ∉ rangeL 0 c.length → getM s x = none) : NdI c d β sh 0 s := by
  have e0 : KJ c.length β sh 0 = rangeL 0 c.length := by unfold KJ; simp [rangeL_zero]
  refine ⟨by rw [hk, e0], fun x => ?_⟩
  rw [e0]
  by_cases z : x ∈ rangeL 0 c.length
  · have := mem_rangeL.mp z
    rw [if_pos z, hg x (by omega) (by omega)]
    unfold ndJ
    rw [if_pos ⟨by omega, by omega⟩]
    simp [rangeL_zero]
  · rw [if_neg z, hn x z]
end
/-! the least order -/
def ableL (K : List Int) (nd : Int → List Int) (f : List Int) : List Int := K.filter fun x => !decide (x ∈ f) && (nd x).all fun y => decide (y ∈ f)
def ordL (K : List Int) (nd : Int → List Int) : Nat → List Int → Option (List Int)
  | 0, f => some f
  | t + 1, f => if K.length ≤ f.length then some f else match ableL K nd f with
    | [] => none
    | x :: _ => ordL K nd t (f ++ [x])
structure LayI (K : List Int) (nd : Int → List Int) (f : List Int) : Prop where
  nodup : f.Nodup
  sub : ∀ x ∈ f, x ∈ K
  pre : ∀ (i : Nat) (x : Int), f[i]? = some x → ∀ y ∈ nd x, y ∈ f.take i
theorem LayI.step {K : List Int} {nd : Int → List Int} {f : List Int} (h : LayI K nd f) {x : Int} (hx : x ∈ ableL K nd f) : LayI K nd (f ++ [x]) := by
  obtain ⟨h1, h2⟩ := List.mem_filter.mp hx
  rw [Bool.and_eq_true, Bool.not_eq_true', decide_eq_false_iff_not, List.all_eq_true] at h2
  refine ⟨?_, fun y hy => ?_, fun i y hy z hz => ?_⟩
  · rw [List.nodup_append]
    exact ⟨h.nodup, by simp, fun a ha b hb e => h2.1 (by rw [List.mem_singleton.mp hb] at e; exact e ▸ ha)⟩
  · rcases List.mem_append.mp hy with hy | hy
    · exact h.sub y hy
    · rw [List.mem_singleton.mp hy]; exact h1
  · by_cases c : i < f.length
    · rw [List.getElem?_append_left c] at hy
      have := h.pre i y hy z hz
      rw [List.take_append_of_le_length (by omega)]; exact this
    · rw [List.getElem?_append_right (by omega)] at hy
      have l := (List.getElem?_eq_some_iff.mp hy).1
      have e : i = f.length := by simp at l; omega
      subst e
      simp at hy
      subst hy
      rw [List.take_left]
      exact of_decide_eq_true (h2.2 z hz)
theorem LayI.nil (K : List Int) (nd : Int → List Int) : LayI K nd [] := ⟨List.nodup_nil, by simp, fun i x h => by simp at h⟩
theorem srtZ_lt {l : List Int} (h : l.Nodup) : (srtZ l).Pairwise (· < ·) := by
  have h2 : (srtZ l).Nodup := (srtZ_perm l).nodup_iff.mpr h
  rw [List.nodup_iff_pairwise_ne] at h2
  exact ((srtZ_asc l).and h2).imp fun {a b} z => by have := z.1; have := z.2; omega
theorem LayI.perm {K : List Int} {nd : Int → List Int} {r : List Int} (hK : K.Pairwise (· < ·)) (h : LayI K nd r) (hl : K.length ≤ r.length) : r.Perm K := by
  have e : srtZ r = K := asc_sub_eq (srtZ_lt h.nodup) hK (fun x hx => h.sub x ((srtZ_perm r).mem_iff.mp hx)) (by rw [(srtZ_perm r).length_eq]; exact hl)
  rw [← e]; exact (srtZ_perm r).symm
end Ma

/-! Mf3: joins of two grounds: the join's covers, its pits. -/
namespace Ma
open PySem Pv Tv
def ixO (r : List Int) (x : Int) : Int := ((idxF x r).getD 0 : Nat)
theorem idxF_nd {x : Int} : ∀ {r : List Int} {j : Nat}, r.Nodup → r[j]? = some x → idxF x r = some j
  | [], j, _, h => by simp at h
  | a :: r, 0, _, h => by
    simp at h; subst h
    unfold idxF; rw [if_pos rfl]
  | a :: r, j + 1, nd, h => by
    rw [List.nodup_cons] at nd
    have h : r[j]? = some x := by simpa using h
    have ne : a ≠ x := fun e => nd.1 (e ▸ List.mem_of_getElem? h)
    unfold idxF
    rw [if_neg ne, idxF_nd nd.2 h]; rfl
theorem ixO_at {r : List Int} (nd : r.Nodup) {x : Int} {j : Nat} (h : r[j]? = some x) : ixO r x = j := by unfold ixO; rw [idxF_nd nd h]; rfl
theorem ixO_get {r : List Int} (nd : r.Nodup) {x : Int} (h : x ∈ r) : ∃ j : Nat, r[j]? = some x ∧ ixO r x = j ∧ idxF x r = some j ∧ j < r.length := by
  obtain ⟨j, hj⟩ := List.getElem?_of_mem h
  exact ⟨j, hj, ixO_at nd hj, idxF_nd nd hj, (List.getElem?_eq_some_iff.mp hj).1⟩
structure JoN (c d : Cv) (sh : List (Int × Int)) (r : List Int) : Prop where
  hs : Shr c.length d.length sh
  vc : Vcv c
  vd : Vcv d
  li : LayI (KJ c.length c.length sh d.length) (ndJ c d c.length sh d.length) r
  full : (KJ c.length c.length sh d.length).length ≤ r.length
abbrev nmI (c : Cv) (sh : List (Int × Int)) (b : Int) : Int := nm c.length sh b
def joinC (c d : Cv) (sh : List (Int × Int)) (r : List Int) : Cv := r.map fun x => ssrt ((ndJ c d c.length sh d.length x).map (ixO r))
section
variable {c d : Cv} {sh : List (Int × Int)} {r : List Int}
theorem JoN.perm (h : JoN c d sh r) : r.Perm (KJ c.length c.length sh d.length) := h.li.perm (KJ_asc (Int.le_refl _)) h.full
theorem JoN.mem (h : JoN c d sh r) {x : Int} : x ∈ r ↔ (0 ≤ x ∧ x < c.length) ∨ ∃ b : Int, (0 ≤ b ∧ b < d.length) ∧ x = nmI c sh b := by
  rw [h.perm.mem_iff, mem_KJ]
  constructor
  · rintro (z | ⟨b, h1, h2, rfl⟩)
    · exact .inl z
    · exact .inr ⟨b, h1, (nm_none h2).symm⟩
  · rintro (z | ⟨b, h1, rfl⟩)
    · exact .inl z
    · exact mem_KJ.mp (nm_mem h.hs h1.1 h1.2)
theorem JoN.one (h : JoN c d sh r) {a : Int} (h0 : 0 ≤ a) (h1 : a < c.length) : a ∈ r := h.mem.mpr (.inl ⟨h0, h1⟩)
theorem JoN.two (h : JoN c d sh r) {b : Int} (h0 : 0 ≤ b) (h1 : b < d.length) : nmI c sh b ∈ r := h.mem.mpr (.inr ⟨b, ⟨h0, h1⟩, rfl⟩)
theorem JoN.len (h : JoN c d sh r) : r.length ≤ c.length + d.length := by rw [h.perm.length_eq]; exact KJ_len ..
theorem JoN.pos (h : JoN c d sh r) (h1 : 1 ≤ c.length) : 1 ≤ r.length := List.length_pos_of_mem (h.one (a := 0) (by omega) (by omega))
theorem joinC_len : (joinC c d sh r).length = r.length := by unfold joinC; rw [List.length_map]
theorem JoN.at_ (h : JoN c d sh r) {x : Int} (hx : x ∈ r) : atC (joinC c d sh r) (ixO r x) = ssrt ((ndJ c d c.length sh d.length x).map (ixO r)) := by
  obtain ⟨j, h1, h2, _⟩ := ixO_get h.li.nodup hx
  rw [h2]
  refine atC_of ?_
  unfold joinC
  rw [List.getElem?_map, h1]; rfl
def p1 (r : List Int) (a : Int) : Int := ixO r a
def p2 (c : Cv) (sh : List (Int × Int)) (r : List Int) (b : Int) : Int := ixO r (nmI c sh b)
theorem JoN.rg (h : JoN c d sh r) {x : Int} (hx : x ∈ r) : 0 ≤ ixO r x ∧ ixO r x < r.length := by
  obtain ⟨j, _, h2, _, h4⟩ := ixO_get h.li.nodup hx
  omega
theorem JoN.cover (h : JoN c d sh r) {i : Int} (h0 : 0 ≤ i) (h1 : i < r.length) : (∃ a : Int, (0 ≤ a ∧ a < c.length) ∧ p1 r a = i) ∨ ∃ b : Int, (0 ≤ b ∧ b < d.length) ∧ p2 c sh r b = i := by
  have hi : r[i.toNat]? = some r[i.toNat] := List.getElem?_eq_getElem (by omega)
  have e := ixO_at h.li.nodup hi
  rcases h.mem.mp (List.mem_of_getElem? hi) with z | ⟨b, hb, z⟩
  · exact .inl ⟨_, z, by unfold p1; omega⟩
  · refine .inr ⟨b, hb, ?_⟩
    unfold p2; rw [← z]; omega
def half1 (c : Cv) (r : List Int) (p : Lt) : Lt := (rangeL 0 c.length).filter fun a => decide (p1 r a ∈ p)
def half2 (c d : Cv) (sh : List (Int × Int)) (r : List Int) (p : Lt) : Lt := (rangeL 0 d.length).filter fun b => decide (p2 c sh r b ∈ p)
def lotJ (c : Cv) (sh : List (Int × Int)) (r : List Int) (l l' : Lt) : Lt := ssrt (l.map (p1 r) ++ l'.map (p2 c sh r))
theorem mem_half1 {p : Lt} {a : Int} : a ∈ half1 c r p ↔ (0 ≤ a ∧ a < c.length) ∧ p1 r a ∈ p := by unfold half1; rw [List.mem_filter, mem_rangeL, decide_eq_true_eq]; exact ⟨fun z => ⟨by have := z.1; omega, z.2⟩, fun z => ⟨by have := z.1; omega, z.2⟩⟩
theorem mem_half2 {p : Lt} {b : Int} : b ∈ half2 c d sh r p ↔ (0 ≤ b ∧ b < d.length) ∧ p2 c sh r b ∈ p := by unfold half2; rw [List.mem_filter, mem_rangeL, decide_eq_true_eq]; exact ⟨fun z => ⟨by have := z.1; omega, z.2⟩, fun z => ⟨by have := z.1; omega, z.2⟩⟩
theorem mem_lotJ {l l' : Lt} {i : Int} : i ∈ lotJ c sh r l l' ↔ (∃ a ∈ l, p1 r a = i) ∨ ∃ b ∈ l', p2 c sh r b = i := by unfold lotJ; rw [ssrt_mem, List.mem_append, List.mem_map, List.mem_map]
theorem JoN.back (h : JoN c d sh r) {p : Lt} (hp : Lot r.length p) : lotJ c sh r (half1 c r p) (half2 c d sh r p) = p := by
  refine asc_ext (ssrt_lt _) hp.1 fun i => ?_
  rw [mem_lotJ]
  constructor
  · rintro (⟨a, ha, rfl⟩ | ⟨b, hb, rfl⟩)
    · exact (mem_half1.mp ha).2
    · exact (mem_half2.mp hb).2
  · intro hi
    have := hp.2 i hi
    rcases h.cover this.1 this.2 with ⟨a, h1, rfl⟩ | ⟨b, h1, rfl⟩
    · exact .inl ⟨a, mem_half1.mpr ⟨h1, hi⟩, rfl⟩
    · exact .inr ⟨b, mem_half2.mpr ⟨h1, hi⟩, rfl⟩
end
/-! worths -/
end Ma

/-! Ma9: common divisors, prices -/
namespace Ma
open PySem Pv Tv
def low (a b : Int) : Int × Int := (a / (a.gcd b : Int), b / (a.gcd b : Int))
theorem gcd_bd {a b : Int} (hb : 0 < b) : 0 < (a.gcd b : Int) ∧ (a.gcd b : Int) ≤ b := by
  have h1 := Int.gcd_pos_of_ne_zero_right a (show b ≠ 0 by omega)
  exact ⟨by omega, Int.le_of_dvd hb (Int.gcd_dvd_right a b)⟩
structure Prc (p : Int × Int) : Prop where
  a0 : 0 ≤ p.1
  a1 : p.1 ≤ 1000000
  b0 : 1 ≤ p.2
  b1 : p.2 ≤ 1000000
  co : p.1.gcd p.2 = 1
theorem low_prc {a b : Int} (h0 : 0 ≤ a) (h1 : a ≤ 1000000) (h2 : 0 < b) (h3 : b ≤ 1000000) : Prc (low a b) := by
  obtain ⟨g1, g2⟩ := gcd_bd (a := a) h2
  refine ⟨Int.ediv_nonneg h0 (by omega), Int.le_trans (Int.ediv_le_self _ h0) h1, ?_, Int.le_trans (Int.ediv_le_self _ (by omega)) h3, Int.gcd_ediv_gcd_ediv_gcd (by omega)⟩
  obtain ⟨c, hc⟩ := Int.gcd_dvd_right a b
  show 1 ≤ b / (a.gcd b : Int)
  have : b / (a.gcd b : Int) = c := Int.ediv_eq_of_eq_mul_right (by omega) hc
  rw [this]
  apply Int.pos_of_mul_pos_right (a := (a.gcd b : Int)) <;> omega
end Ma

/-! MaH: refills of nothing, of costs, of what was paid. -/
namespace Ma
open PySem Pv Tv
section
variable {c : Cv} {w r : List Int} {a z : Lt}
end
end Ma

/-! MaJ: fractions side by side; ladders. -/
namespace Ma
open PySem Pv Tv
section
variable {a b a' b' a'' b'' : Int}
end
/-! the next pit of a ladder -/
def kD (k : List Int) (h p : Lt) : Int := sumW k p - sumW k h
structure PkF (c : Cv) (g k : List Int) (h : Lt) (F : Lt → Prop) (r : Int × Int) (p : Lt) : Prop where
  pit : Pit c p
  sub : ∀ x ∈ h, x ∈ p
  up : 0 < kD g h p
  rate : r = low (kD k h p) (kD g h p)
  opt : ∀ q, F q → (∀ x ∈ h, x ∈ q) → 0 < kD g h q → kD k h p * kD g h q ≤ kD k h q * kD g h p ∧ (kD k h p * kD g h q = kD k h q * kD g h p → kD g h q ≤ kD g h p)
  fst : ∀ q, F q → (∀ x ∈ h, x ∈ q) → kD g h q = kD g h p → kD k h q = kD k h p → p.length ≤ q.length
  mem : F p
abbrev Pk (c : Cv) (g k : List Int) (h : Lt) := PkF c g k h (Pit c)
/-! sums -/
theorem sumW_bd {w : List Int} {m : Int} : ∀ {l : Lt}, (∀ x ∈ l, 0 ≤ wAt w x ∧ wAt w x ≤ m) → 0 ≤ sumW w l ∧ sumW w l ≤ m * l.length
  | [], _ => by simp [sumW]
  | x :: l, h => by
    have ih := sumW_bd (l := l) fun y hy => h y (.tail _ hy)
    have := h x (.head _)
    rw [List.length_cons, show ((l.length + 1 : Nat) : Int) = (l.length : Int) + 1 by omega, Int.mul_add]
    simp only [sumW, List.map_cons, List.sum_cons] at *
    omega
theorem sumW_nn {w : List Int} : ∀ {l : Lt}, (∀ x ∈ l, 0 ≤ wAt w x) → 0 ≤ sumW w l
  | [], _ => Int.le_refl _
  | x :: l, h => by
    have ih := sumW_nn (l := l) fun y hy => h y (.tail _ hy)
    have := h x (.head _)
    simp only [sumW, List.map_cons, List.sum_cons] at *
    omega
theorem sumW_mem {w : List Int} {y : Int} : ∀ {l : Lt}, (∀ x ∈ l, 0 ≤ wAt w x) → y ∈ l → wAt w y ≤ sumW w l
  | x :: l, h, hy => by
    have h0 : 0 ≤ sumW w l := sumW_nn fun q hq => h q (.tail _ hq)
    have hx := h x (.head _)
    rcases List.mem_cons.mp hy with rfl | hy
    · simp only [sumW, List.map_cons, List.sum_cons] at *; omega
    · have := sumW_mem (fun q hq => h q (.tail _ hq)) hy
      simp only [sumW, List.map_cons, List.sum_cons] at *; omega
theorem sumW_full (w : List Int) : sumW w (rangeL 0 w.length) = w.sum := by
  have e : (rangeL 0 w.length).map (wAt w) = w := by
    apply List.ext_getElem?
    intro i
    rw [List.getElem?_map]
    by_cases h : i < w.length
    · rw [rangeL_get h]
      simp [wAt, h]
    · rw [List.getElem?_eq_none (by rw [rangeL_len]; omega), List.getElem?_eq_none (by omega)]; rfl
  rw [sumW, e]
end Ma

/-! MaK: ladders, layers. -/
namespace Ma
open PySem Pv Tv
structure Mkt (c : Cv) (g k : List Int) : Prop where
  gl : g.length = c.length
  kl : k.length = c.length
  gb : ∀ x ∈ g, 0 ≤ x ∧ x ≤ 9
  kb : ∀ x ∈ k, 0 ≤ x ∧ x ≤ 50
theorem wAt_in {w : List Int} {n : Nat} {lo hi : Int} (hl : w.length = n) (hb : ∀ x ∈ w, lo ≤ x ∧ x ≤ hi) {l : Lt} (h : Lot n l) : ∀ x ∈ l, lo ≤ wAt w x ∧ wAt w x ≤ hi := fun x hx =>
  hb _ (List.mem_of_getElem? (wAt_get (h.2 x hx).1 (by have := h.2 x hx; omega)))
section
variable {c : Cv} {g k : List Int}
theorem Mkt.kd (m : Mkt c g k) {h p : Lt} (h2 : c.length ≤ 10) (hh : Lot c.length h) (hp : Lot c.length p) (hs : ∀ x ∈ h, x ∈ p) : 0 ≤ kD k h p ∧ kD k h p ≤ 500 := by
  rw [kD, ← sum_minus hp hh hs]
  have := sumW_bd (wAt_in m.kl m.kb (hp.minus (m := h)))
  have l := asc_len (hp.minus (m := h))
  omega
theorem Mkt.gs (m : Mkt c g k) {p : Lt} (h2 : c.length ≤ 10) (hp : Lot c.length p) : 0 ≤ sumW g p ∧ sumW g p ≤ 90 := by
  have := sumW_bd (wAt_in m.gl m.gb hp)
  have l := asc_len hp
  omega
theorem Mkt.gd (m : Mkt c g k) {h p : Lt} (h2 : c.length ≤ 10) (hh : Lot c.length h) (hp : Lot c.length p) : kD g h p ≤ 90 := by
  have := m.gs h2 hh
  have := m.gs h2 hp
  rw [kD]; omega
theorem Mkt.prc (m : Mkt c g k) {h p : Lt} (h2 : c.length ≤ 10) (hh : Lot c.length h) (hp : Lot c.length p) (hs : ∀ x ∈ h, x ∈ p) (up : 0 < kD g h p) : Prc (low (kD k h p) (kD g h p)) := by
  have a := m.kd h2 hh hp hs
  have b := m.gd h2 hh hp
  exact low_prc a.1 (by omega) up (by omega)
inductive Lad (c : Cv) (g k : List Int) : Lt → List ((Int × Int) × Lt) → Prop
  | done {h} : g.sum ≤ sumW g h → Lad c g k h []
  | step {h r p t} : Pk c g k h r p → Lad c g k p t → Lad c g k h ((r, p) :: t)
theorem Pk.len {h p : Lt} {r : Int × Int} (hp : Pk c g k h r p) (hh : Pit c h) : h.length < p.length := by
  have l := sub_len hh.lot.1 hp.pit.lot.1 hp.sub
  refine Nat.lt_of_le_of_ne l fun e => ?_
  have : h = p := asc_sub_eq hh.lot.1 hp.pit.lot.1 hp.sub (by omega)
  have u := hp.up
  rw [this, kD] at u
  omega
theorem Lad.len : ∀ {L : List ((Int × Int) × Lt)} {h : Lt}, Lad c g k h L → Pit c h → L.length + h.length ≤ c.length
  | [], h, _, hh => by have := asc_len hh.lot; simpa using this
  | (r, p) :: t, h, .step hp ht, hh => by
    have := hp.len hh
    have := Lad.len ht hp.pit
    rw [List.length_cons]; omega
theorem Lad.lots : ∀ {L : List ((Int × Int) × Lt)} {h : Lt}, Lad c g k h L → ∀ x ∈ L, Pit c x.2
  | (r, p) :: t, h, .step hp ht, x, hx => by
    rcases List.mem_cons.mp hx with rfl | hx
    · exact hp.pit
    · exact Lad.lots ht x hx
theorem Lad.all (m : Mkt c g k) {h : Lt} (hh : Pit c h) (hd : g.sum ≤ sumW g h) {b : Int} (b0 : 0 ≤ b) (b1 : b < c.length) (hb : 0 < wAt g b) : b ∈ h := by
  refine Classical.byContradiction fun n => ?_
  have f : sumW g (rangeL 0 c.length) = g.sum := by rw [← m.gl]; exact sumW_full g
  have fl : Lot c.length (rangeL 0 c.length) := Lot.range
  have s := sum_minus (w := g) fl hh.lot fun x hx => mem_rangeL.mpr (by have := hh.lot.2 x hx; omega)
  have := sumW_mem (w := g) (fun x hx => (wAt_in m.gl m.gb (fl.minus (m := h)) x hx).1) (mem_minus.mpr ⟨mem_rangeL.mpr (by omega), n⟩ : b ∈ minus (rangeL 0 c.length) h)
  omega
end
/-! layers -/
end Ma

/-! MaT: owners, parties, gains -/
namespace Ma
open PySem Pv Tv
structure Own4 (n : Nat) (ow : List Int) : Prop where
  len : ow.length = n
  bd : ∀ x ∈ ow, 0 ≤ x ∧ x < 4
theorem Own4.at {n : Nat} {ow : List Int} (h : Own4 n ow) {b : Int} (h0 : 0 ≤ b) (h1 : b < n) : ow[b.toNat]? = some (wAt ow b) ∧ 0 ≤ wAt ow b ∧ wAt ow b < 4 := by
  have e := wAt_get (w := ow) h0 (by have := h.len; omega)
  exact ⟨e, h.bd _ (List.mem_of_getElem? e)⟩
def byB (ow : List Int) (A p : Lt) : Bool := p.all fun b => decide (wAt ow b ∈ A)
def pitsBy (c : Cv) (ow : List Int) (A : Lt) : List Lt := (pitsL c).filter (byB ow A)
def gain (c : Cv) (w ow : List Int) (A : Lt) : Int := maxL ((pitsBy c ow A).map (sumW w))
section
variable {c : Cv} {w ow : List Int} {A B : Lt}
end
end Ma

/-! MaL: rates tell the least best pit at each price; cheaper costs. -/
namespace Ma
open PySem Pv Tv
def Vx (g k : List Int) (x y : Int) (q : Lt) : Int := sumW g q * x - sumW k q * y
section
variable {c : Cv} {g k : List Int} {x y : Int}
theorem vx_mj {n : Nat} {l m : Lt} (h : Lot n l) (h' : Lot n m) : Vx g k x y (meet l m) + Vx g k x y (join l m) = Vx g k x y l + Vx g k x y m := by
  have e1 := congrArg (· * x) (sum_meet_join (w := g) h h')
  have e2 := congrArg (· * y) (sum_meet_join (w := k) h h')
  simp only [Int.add_mul] at e1 e2
  unfold Vx; omega
theorem Mkt.k0 (m : Mkt c g k) {h p : Lt} (hh : Lot c.length h) (hp : Lot c.length p) (hs : ∀ x ∈ h, x ∈ p) : 0 ≤ kD k h p := by
  rw [kD, ← sum_minus hp hh hs]
  exact sumW_nn fun z hz => (wAt_in m.kl m.kb (hp.minus (m := h)) z hz).1
structure Least (c : Cv) (g k : List Int) (x y : Int) (q : Lt) : Prop where
  pit : Pit c q
  top : ∀ s, Pit c s → Vx g k x y s ≤ Vx g k x y q
  sub : ∀ s, Pit c s → Vx g k x y s = Vx g k x y q → ∀ z ∈ q, z ∈ s
/-! rates of blocks -/
theorem Pk.pos {h p : Lt} {r : Int × Int} (m : Mkt c g k) (h2 : c.length ≤ 10) (hh : Pit c h) (pk : Pk c g k h r p) : Prc r := by
  rw [pk.rate]; exact m.prc h2 hh.lot pk.pit.lot pk.sub pk.up
theorem cheaper {k' : List Int} (hy : 0 < y) (hc : ∀ b : Int, 0 ≤ b → b < c.length → wAt k' b ≤ wAt k b) {q q' : Lt} (hq : Least c g k x y q) (hq' : Least c g k' x y q') : ∀ z ∈ q, z ∈ q' := by
  have pm := hq.pit.meet hq'.pit
  have pj := hq.pit.join hq'.pit
  have mj := vx_mj (g := g) (k := k) (x := x) (y := y) hq.pit.lot hq'.pit.lot
  have t1 := hq.top _ pm
  have t2 := hq'.top _ pj
  have sub : ∀ z ∈ q', z ∈ join q q' := fun z hz => mem_join.mpr (.inr hz)
  have d1 := sum_minus (w := k) pj.lot hq'.pit.lot sub
  have d2 := sum_minus (w := k') pj.lot hq'.pit.lot sub
  have mo := sum_mono (f := wAt k') (g := wAt k) (l := minus (join q q') q') fun z hz => by
    have := pj.lot.2 z (mem_minus.mp hz).1
    exact hc z this.1 this.2
  have mo : (sumW k' (join q q') - sumW k' q') * y ≤ (sumW k (join q q') - sumW k q') * y := by
    rw [← d1, ← d2]; exact Int.mul_le_mul_of_nonneg_right mo (Int.le_of_lt hy)
  simp only [Int.sub_mul] at mo
  have e : Vx g k x y (meet q q') = Vx g k x y q := by
    unfold Vx at *; omega
  exact fun z hz => (mem_meet.mp (hq.sub _ pm e z hz)).2
end
end Ma

/-! MaM: one cost changed. -/
namespace Ma
open PySem Pv Tv
end Ma

/-! MaV: gains told in a dict; what each owner brings in, by an order -/
namespace Ma
open PySem Pv Tv
theorem keys_map {κ β : Type} (g : κ → β) (L : List κ) : keysM (L.map fun A => (A, g A)) = L := by
  unfold keysM
  rw [List.map_map]
  exact (List.map_congr_left fun _ _ => rfl).trans (List.map_id _)
section
variable {c : Cv} {w ow : List Int}
structure Turned (c : Cv) (w ow : List Int) (t : Lt) (x : Int → Int) : Prop where
  at_ : ∀ k o, t[k]? = some o → x o = gain c w ow (t.take (k + 1)) - gain c w ow (t.take k)
end
end Ma

/-! Mf4: joins, as they are made. -/
namespace Ma
open PySem Pv Tv
/-! the law's names -/
end Ma

/-! Mc4: from frozen data to purses, and back -/
namespace Pv
open PySem PySem.Spec PySem.SeqAt L2 Tv
def tripD (t : Int × Int × Int) : D := .tuple [.int t.1, .int t.2.1, .int t.2.2]
def frzOn (F H H' : Hp) : Hp := fun a => match H a with
  | some _ => F a
  | none => match H' a with
    | some (.tup xs) => some (.tup xs)
    | _ => none
theorem frzOn_new {F H H' : Hp} {a : Addr} {xs : List V} (n : H a = none) (h : H' a = some (.tup xs)) : frzOn F H H' a = some (.tup xs) := by
  unfold frzOn; rw [n, h]
def TrR (H0 H : Hp) (q : Int × Int × Int) (v : V) : Prop := ∃ t : Addr, v = .ref t ∧ H0 t = none ∧ H t = some (.tup [.int q.1, .int q.2.1, .int q.2.2])
theorem TrR.to {H0 H H' : Hp} (s : ∀ b xs, H b = some (.tup xs) → H' b = some (.tup xs)) : ∀ {l : List (Int × Int × Int)} {zs : List V}, Paired (TrR H0 H) l zs → Paired (TrR H0 H') l zs
  | _, _, .nil => .nil
  | _, _, .cons ⟨t, e, n, h⟩ b => .cons ⟨t, e, n, s _ _ h⟩ (TrR.to s b)
theorem TrR.rep {k : Kx} {F H0 H : Hp} : ∀ {l : List (Int × Int × Int)} {zs : List V}, Paired (TrR H0 H) l zs → RepL k (frzOn F H0 H) zs (l.map tripD)
  | _, _, .nil => .nil
  | _, _, .cons ⟨t, e, n, h⟩ b => by
    subst e
    exact .cons (.tup (frzOn_new n h) (.cons (.int _) (.cons (.int _) (.cons (.int _) .nil)))) (TrR.rep b)
theorem TrR.step {H0 H : Hp} {l : List (Int × Int × Int)} {rs zs : List V} {D u : Addr} {x : Int × Int × Int} (hD : H D = some (.lst rs)) (nu : H u = none) (n0 : H0 u = none) (hp : Paired (TrR H0 H) l rs) :
    Paired (TrR H0 (upd (upd H u (.tup [.int x.1, .int x.2.1, .int x.2.2])) D (.lst zs))) (l ++ [x]) (rs ++ [.ref u]) := by
  have nDu := ne_of_none hD nu
  refine paired_app ⟨u, rfl, n0, by rw [upd_ne nDu.symm, upd_same]⟩ (TrR.to (fun b xs e => ?_) hp)
  have n1 : b ≠ D := fun z => by rw [z, hD] at e; cases e
  rw [upd_ne n1, upd_ne (ne_of_none e nu)]; exact e
theorem exK_at {cs : ClsT} {K : PySem.W.Frag} (h : exK cs K = true) (i : Nat) {q : ClE} (e : cs[i]? = some q) : Cls K (He.ga K q.1) ∧ ∀ f ∈ q.2, NoAttr K (He.ga K q.1) f := by
  have h3 := exCl_ok (List.all_eq_true.mp (He.ba h).1 q (List.mem_of_getElem? e))
  exact ⟨h3.1, h3.2.2.2.2.2.2.2.1⟩
theorem PCl.of {cs : ClsT} {K : PySem.W.Frag} (h : exK cs K = true) (i : Nat) {q : ClE} (e : cs[i]? = some q) (m1 : ("told" : Str) ∈ q.2) (m2 : ("left" : Str) ∈ q.2) (m3 : ("first" : Str) ∈ q.2) (m4 : ("given" : Str) ∈ q.2) : PCl K (He.ga K q.1) := by
  obtain ⟨a, b⟩ := exK_at h i e
  exact ⟨a, b _ m1, b _ m2, b _ m3, b _ m4⟩
end Pv

/-! Mc5: payments show what is best -/
namespace Ma
open Tv
abbrev Tr3 := Int × Int × Int
abbrev amtT (t : Tr3) : Int := t.2.2
def poV (V : List Tr3) (x : Int) : Int := ((V.filter fun t => decide (t.1 = x)).map amtT).sum
def piV (V : List Tr3) (x : Int) : Int := ((V.filter fun t => decide (t.2.1 = x)).map amtT).sum
structure Pays (told : Cv) (w : List Int) (V : List Tr3) : Prop where
  tri : ∀ t ∈ V, (0 ≤ t.1 ∧ t.1 < w.length) ∧ (0 ≤ t.2.1 ∧ t.2.1 < w.length) ∧ 0 < wAt w t.1 ∧ wAt w t.2.1 < 0 ∧ t.2.1 ∈ atC told t.1 ∧ 1 ≤ t.2.2
  srt : V.Pairwise fun s t => ltPI (s.1, s.2.1) (t.1, t.2.1) = true
  out : ∀ x : Int, 0 ≤ x → x < w.length → poV V x ≤ max 0 (wAt w x)
  inn : ∀ x : Int, 0 ≤ x → x < w.length → piV V x ≤ max 0 (-wAt w x)
section
variable {c told : Cv} {w : List Int} {V : List Tr3} {p : Lt}
theorem Pays.rg (h : Pays told w V) : ∀ t ∈ V, (0 ≤ t.1 ∧ t.1 < w.length) ∧ (0 ≤ t.2.1 ∧ t.2.1 < w.length) := fun t ht => ⟨(h.tri t ht).1, (h.tri t ht).2.1⟩
end
end Ma

/-! Mc6: the payments of the program are right, and show the best -/
namespace Ma
open Tv
section
variable {c told : Cv} {w : List Int} {g : Gv}
end
end Ma

/-! Mc7: small things of payments, for the typed defs -/
namespace Ma
open Tv
section
variable {c told : Cv} {w : List Int} {V : List Tr3} {p : Lt}
end
end Ma

/-! Me1: any triples: whether they are payments, and what they show -/
namespace Ma
open PySem Pv Tv
section
variable {c told : Cv} {w : List Int} {V : List Tr3}
structure RgV (n : Nat) (V : List Tr3) : Prop where
  few : V.length < 64
  rg : ∀ t ∈ V, (0 ≤ t.1 ∧ t.1 < n) ∧ (0 ≤ t.2.1 ∧ t.2.1 < n)
theorem eqv {x b : Bool} {P : Prop} (hx : x = true ↔ P) (hb : b = true ↔ P) : x = b := Bool.eq_iff_iff.mpr (hx.trans hb.symm)
end
end Ma

/-! Mf5: joins: the pairs in order, the best of them. -/
namespace Ma
open PySem Pv Tv
section
variable {c d : Cv} {sh : List (Int × Int)} {r : List Int}
structure Low (n : Nat) (w : List Int) : Prop where
  len : w.length = n
  bd : ∀ x ∈ w, -25 ≤ x ∧ x ≤ 25
theorem Low.at {n : Nat} {w : List Int} (h : Low n w) (b : Int) : -25 ≤ wAt w b ∧ wAt w b ≤ 25 := by
  unfold wAt
  rw [List.getD_eq_getElem?_getD]
  cases e : w[b.toNat]? with
  | none => simp
  | some x => exact h.bd x (List.mem_of_getElem? e)
end
theorem dd_nd : ∀ {l : List Int}, l.Nodup → (dd l).length = l.length
  | l, h => ((List.perm_ext_iff_of_nodup (dd_nodup l) h).mpr fun x => dd_mem).length_eq
structure ShI (m n k : Nat) (s : List (Int × Int) × List Int) : Prop where
  asc : s.1.Pairwise fun p q => p.1 < q.1
  fst : ∀ p ∈ s.1, 0 ≤ p.1 ∧ p.1 < k
  nd : (s.1.map (·.2) ++ s.2).Nodup
  rg : ∀ x ∈ s.1.map (·.2) ++ s.2, 0 ≤ x ∧ x < n
  l1 : s.1.length ≤ k
  l2 : s.2.length ≤ n
theorem ShI.start (m n : Nat) : ShI m n 0 ([], rangeL 0 n) := ⟨List.Pairwise.nil, by simp, by
    rw [List.map_nil, List.nil_append, List.nodup_iff_pairwise_ne]
    exact rangeL_lt.imp fun h => by omega, by
    intro x hx
    have := mem_rangeL.mp hx
    omega, by simp, by simp [rangeL_len]⟩
theorem ShI.skip {m n k : Nat} {s : List (Int × Int) × List Int} (h : ShI m n k s) : ShI m n (k + 1) s := ⟨h.asc, fun p hp => by have := h.fst p hp; omega, h.nd, h.rg, by have := h.l1; omega, h.l2⟩
theorem erase_perm {α : Type} {x : α} : ∀ {l : List α} {i : Nat}, l[i]? = some x → (x :: l.eraseIdx i).Perm l
  | [], i, h => by simp at h
  | a :: l, 0, h => by
    simp at h; subst h
    rw [List.eraseIdx_zero]; exact List.Perm.refl _
  | a :: l, i + 1, h => by
    rw [List.eraseIdx_cons_succ]
    exact (List.Perm.swap a x _).trans ((erase_perm (by simpa using h)).cons a)
theorem ShI.step {m n k : Nat} {f : List (Int × Int)} {l : List Int} (h : ShI m n k (f, l)) {i : Nat} {x : Int} (hx : l[i]? = some x) : ShI m n (k + 1) (f ++ [((k : Int), x)], l.eraseIdx i) := by
  obtain ⟨hi, e⟩ := List.getElem?_eq_some_iff.mp hx
  have pm : ((f ++ [((k : Int), x)]).map (·.2) ++ l.eraseIdx i).Perm (f.map (·.2) ++ l) := by
    rw [List.map_append, List.append_assoc]
    refine List.Perm.append_left _ ?_
    exact erase_perm hx
  refine ⟨?_, fun p hp => ?_, pm.nodup_iff.mpr h.nd, fun y hy => h.rg y (pm.mem_iff.mp hy), ?_, ?_⟩
  · rw [List.pairwise_append]
    refine ⟨h.asc, by simp, fun a ha b hb => ?_⟩
    rw [List.mem_singleton.mp hb]
    exact (h.fst a ha).2
  · rcases List.mem_append.mp hp with hp | hp
    · have := h.fst p hp; omega
    · rw [List.mem_singleton.mp hp]; simp only; omega
  · have := h.l1
    rw [List.length_append, List.length_singleton]; simp only at this; omega
  · have := h.l2
    have := List.length_eraseIdx_le l i
    simp only at *
    omega
structure JS (c d : Cv) (sh : List (Int × Int)) (r : List Int) : Prop where
  j : JoN c d sh r
  c1 : 1 ≤ c.length
  d1 : 1 ≤ d.length
  lc : c.length ≤ 5
  ld : d.length ≤ 5
  ho : ordL (KJ c.length c.length sh d.length) (ndJ c d c.length sh d.length) (KJ c.length c.length sh d.length).length [] = some r
theorem JS.lot {c d : Cv} {sh : List (Int × Int)} {r : List Int} {p : Lt} (hp : Pit (joinC c d sh r) p) : Lot r.length p := by rw [← joinC_len (c := c) (d := d) (sh := sh)]; exact hp.lot
end Ma

namespace Ma
open PySem Pv Tv
/-! logs of digs: entries, digs that fit them, the count by pits -/
inductive En where
  | lost : En
  | dug (b : Int) : En
  | inn (b : Int) : En
  | out (b : Int) : En
deriving DecidableEq
def En.ob : En → Bool
  | .inn _ => true
  | .out _ => true
  | _ => false
def En.ok (n : Nat) : En → Prop
  | .lost => True
  | .dug b => 0 ≤ b ∧ b < n
  | .inn b => 0 ≤ b ∧ b < n
  | .out b => 0 ≤ b ∧ b < n
def canB (c : Cv) (r : Lt) (b : Int) : Bool := !decide (b ∈ r) && (atC c b).all fun o => decide (o ∈ r)
def byE (c : Cv) (r : Lt) : En → Lt
  | .lost => (rangeL 0 c.length).filter (canB c r)
  | .dug b => if canB c r b = true then [b] else []
  | _ => []
def stayE (r : Lt) : En → Bool
  | .inn b => decide (b ∈ r)
  | .out b => !decide (b ∈ r)
  | _ => true
def stepJ (c : Cv) (R : List Lt) (e : En) : List Lt := if e.ob = true then R.filter (stayE · e) else R.flatMap fun r => (byE c r e).map fun b => r ++ [b]
abbrev srtI (r : Lt) : Lt := sortB ltI r
theorem canB_iff {c : Cv} {r : Lt} {b : Int} : canB c r b = true ↔ b ∉ r ∧ ∀ o ∈ atC c b, o ∈ r := by simp [canB]
theorem canB_same {c : Cv} {r s : Lt} (h : ∀ x, x ∈ r ↔ x ∈ s) (b : Int) : canB c r b = canB c s b := by
  rw [Bool.eq_iff_iff, canB_iff, canB_iff, h]
  exact ⟨fun z => ⟨z.1, fun o ho => (h o).mp (z.2 o ho)⟩, fun z => ⟨z.1, fun o ho => (h o).mpr (z.2 o ho)⟩⟩
theorem byE_same {c : Cv} {r s : Lt} (h : ∀ x, x ∈ r ↔ x ∈ s) (e : En) : byE c r e = byE c s e := by
  cases e with
  | lost => exact List.filter_congr fun b _ => canB_same h b
  | dug b => show (if canB c r b = true then [b] else []) = if canB c s b = true then [b] else []; rw [canB_same h b]
  | inn b => rfl
  | out b => rfl
theorem stayE_same {r s : Lt} (h : ∀ x, x ∈ r ↔ x ∈ s) (e : En) : stayE r e = stayE s e := by
  cases e with
  | inn b => show decide (b ∈ r) = decide (b ∈ s); rw [decide_eq_decide]; exact h b
  | out b => show (!decide (b ∈ r)) = !decide (b ∈ s); rw [decide_eq_decide.mpr (h b)]
  | lost => rfl
  | dug b => rfl
theorem srtI_perm (r : Lt) : (srtI r).Perm r := sortB_perm r
theorem srtI_mem {r : Lt} {x : Int} : x ∈ srtI r ↔ x ∈ r := (srtI_perm r).mem_iff
theorem srtI_of {r s : Lt} (h : r.Perm s) : srtI r = srtI s := sortB_eq ltI_tot ((srtI_perm s).trans h.symm) (sortB_sorted ltI_tot s)
theorem srtI_snoc (r : Lt) (b : Int) : srtI (srtI r ++ [b]) = srtI (r ++ [b]) := srtI_of ((srtI_perm r).append_right _)
theorem srtI_asc {r : Lt} (h : r.Nodup) : (srtI r).Pairwise (· < ·) := by
  have h1 := sortB_sorted ltI_tot r
  have h2 : (srtI r).Nodup := (srtI_perm r).nodup_iff.mpr h
  rw [List.nodup_iff_pairwise_ne] at h2
  exact (h1.and h2).imp fun {a b} h => by have := h.1; simp at this; have := h.2; omega
theorem srtI_self {l : Lt} (h : l.Pairwise (· < ·)) : srtI l = l := sortB_eq ltI_tot (List.Perm.refl _) (h.imp fun {a b} h => by simp; omega)
/-! digs -/
inductive Dgs (c : Cv) : Lt → Prop where
  | nil : Dgs c []
  | snoc {r : Lt} {b : Int} : Dgs c r → 0 ≤ b → b < c.length → canB c r b = true → Dgs c (r ++ [b])
theorem Dgs.nd {c : Cv} {r : Lt} (h : Dgs c r) : r.Nodup := by
  induction h with
  | nil => exact List.nodup_nil
  | snoc _ _ _ h4 ih => exact List.nodup_append.mpr ⟨ih, by simp, fun x hx y hy e => by rw [List.mem_singleton.mp hy] at e; exact (canB_iff.mp h4).1 (e ▸ hx)⟩
theorem Dgs.rg {c : Cv} {r : Lt} (h : Dgs c r) : ∀ x ∈ r, 0 ≤ x ∧ x < c.length := by
  induction h with
  | nil => simp
  | snoc _ h2 h3 _ ih =>
    intro x hx
    rcases List.mem_append.mp hx with hx | hx
    · exact ih x hx
    · rw [List.mem_singleton.mp hx]; exact ⟨h2, h3⟩
theorem Dgs.full {c : Cv} {r : Lt} (h : Dgs c r) : ∀ b ∈ r, ∀ o ∈ atC c b, o ∈ r := by
  induction h with
  | nil => simp
  | snoc _ _ _ h4 ih =>
    intro x hx o ho
    rcases List.mem_append.mp hx with hx | hx
    · exact List.mem_append_left _ (ih x hx o ho)
    · rw [List.mem_singleton.mp hx] at ho
      exact List.mem_append_left _ ((canB_iff.mp h4).2 o ho)
theorem Dgs.len {c : Cv} {r : Lt} (h : Dgs c r) : r.length ≤ c.length := by
  have := asc_len (n := c.length) ⟨srtI_asc h.nd, fun x hx => h.rg x (srtI_mem.mp hx)⟩
  rwa [(srtI_perm r).length_eq] at this
theorem Dgs.pit {c : Cv} {r : Lt} (h : Dgs c r) : Pit c (srtI r) := ⟨⟨srtI_asc h.nd, fun x hx => h.rg x (srtI_mem.mp hx)⟩, fun b hb o ho => srtI_mem.mpr (h.full b (srtI_mem.mp hb) o ho)⟩
/-! the count by pits -/
abbrev Mpi := List (Lt × Int)
def addM (s : Mpi) (q : Lt × Int) : Mpi := putM s q.1 ((getM s q.1).getD 0 + q.2)
def sumFJ (f : Lt → Int) (m : Mpi) : Int := (m.map fun p => p.2 * f p.1).sum
theorem sumF_app (f : Lt → Int) (a b : Mpi) : sumFJ f (a ++ b) = sumFJ f a + sumFJ f b := by simp [sumFJ]
theorem sumF_cons (f : Lt → Int) (p : Lt × Int) (b : Mpi) : sumFJ f (p :: b) = p.2 * f p.1 + sumFJ f b := by simp [sumFJ]
theorem map_fresh {m : Mpi} {k : Lt} {v : Int} (h : k ∉ keysM m) : (m.map fun q => if q.1 = k then (q.1, v) else q) = m := by
  conv => rhs; rw [← List.map_id m]
  refine List.map_congr_left fun q hq => ?_
  rw [if_neg fun e => h (List.mem_map.mpr ⟨q, hq, e⟩)]; rfl
theorem sumF_put (f : Lt → Int) (k : Lt) (w : Int) : ∀ {m : Mpi}, (keysM m).Nodup → sumFJ f (putM m k w) = sumFJ f m + (w - (getM m k).getD 0) * f k := by
  intro m h
  unfold putM
  split
  · next hk =>
    induction m with
    | nil => simp [hasM] at hk
    | cons p m ih =>
      rw [show keysM (p :: m) = p.1 :: keysM m from rfl, List.nodup_cons] at h
      by_cases e : p.1 = k
      · subst e
        rw [List.map_cons, if_pos rfl, map_fresh h.1, sumF_cons, sumF_cons]
        have : getM (p :: m) p.1 = some p.2 := by simp [getM]
        rw [this]
        simp only [Option.getD_some, Int.sub_mul]
        omega
      · have hk' : hasM m k = true := by simpa [hasM, e] using hk
        have : getM (p :: m) k = getM m k := by simp [getM, e]
        rw [List.map_cons, if_neg e, sumF_cons, sumF_cons, ih h.2 hk', this]
        omega
  · next hk =>
    have hk : k ∉ keysM m := fun z => hk (mem_keysM.mp z)
    have : getM m k = none := by
      cases g : getM m k with
      | none => rfl
      | some v => exact absurd (hasM_of.mp ⟨v, g⟩) hk
    rw [sumF_app, this]
    simp [sumFJ]
theorem addM_keys {s : Mpi} {q : Lt × Int} {k : Lt} : k ∈ keysM (addM s q) ↔ k ∈ keysM s ∨ k = q.1 := by
  unfold addM
  rw [mem_keysM, mem_keysM, has_put, Bool.or_eq_true, decide_eq_true_iff]
  exact ⟨fun h => h.elim .inl fun e => .inr e.symm, fun h => h.elim .inl fun e => .inr e.symm⟩
theorem addM_nd {s : Mpi} (h : (keysM s).Nodup) (q : Lt × Int) : (keysM (addM s q)).Nodup := keys_nd h _ _
theorem addM_sum (f : Lt → Int) {s : Mpi} (h : (keysM s).Nodup) (q : Lt × Int) : sumFJ f (addM s q) = sumFJ f s + q.2 * f q.1 := by
  unfold addM
  rw [sumF_put f _ _ h]
  congr 2; omega
theorem adds_all (f : Lt → Int) : ∀ (l : Mpi) {s : Mpi}, (keysM s).Nodup → (keysM (l.foldl addM s)).Nodup ∧ (∀ k, k ∈ keysM (l.foldl addM s) ↔ k ∈ keysM s ∨ k ∈ keysM l) ∧ sumFJ f (l.foldl addM s) = sumFJ f s + sumFJ f l
  | [], s, h => ⟨h, fun k => by simp [keysM], by simp [sumFJ]⟩
  | q :: l, s, h => by
    obtain ⟨h1, h2, h3⟩ := adds_all f l (addM_nd h q)
    refine ⟨h1, fun k => ?_, ?_⟩
    · rw [List.foldl_cons, h2, addM_keys, show keysM (q :: l) = q.1 :: keysM l from rfl, List.mem_cons, or_assoc]
    · rw [List.foldl_cons, h3, addM_sum f h, sumF_cons]; omega
def newsM (c : Cv) (e : En) (p : Lt × Int) : Mpi := (byE c p.1 e).map fun b => (srtI (p.1 ++ [b]), p.2)
def stepM (c : Cv) (m : Mpi) (e : En) : Mpi := if e.ob = true then m.filter fun p => stayE p.1 e else (m.flatMap (newsM c e)).foldl addM []
structure GM (m : Mpi) (R : List Lt) : Prop where
  nd : (keysM m).Nodup
  mem : ∀ k, k ∈ keysM m ↔ ∃ r ∈ R, srtI r = k
  sum : ∀ f, sumFJ f m = (R.map fun r => f (srtI r)).sum
theorem srtI_nil : srtI [] = [] := srtI_self (by simp)
theorem GM.one : GM [([], 1)] [[]] := ⟨by simp [keysM], fun k => by
  rw [show keysM [(([] : Lt), (1 : Int))] = [[]] from rfl, List.mem_singleton]
  exact ⟨fun e => ⟨[], by simp, by rw [e]; exact srtI_nil⟩, fun ⟨r, hr, e⟩ => by rw [List.mem_singleton.mp hr, srtI_nil] at e; exact e.symm⟩, fun f => by simp [sumFJ, srtI_nil]⟩
theorem flt_keys {f : Lt → Bool} {m : Mpi} : keysM (m.filter fun p => f p.1) = (keysM m).filter f := by unfold keysM; rw [List.filter_map]; rfl
theorem sum_flt (g : Lt → Bool) (f : Lt → Int) : ∀ m : Mpi, sumFJ f (m.filter fun p => g p.1) = sumFJ (fun r => if g r = true then f r else 0) m
  | [] => rfl
  | p :: m => by
    rw [List.filter_cons, sumF_cons]
    split
    · next h => rw [sumF_cons, sum_flt g f m]
    · next h => rw [sum_flt g f m]; simp
theorem sumR_flt {g : Lt → Bool} {f : Lt → Int} : ∀ R : List Lt, ((R.filter g).map f).sum = (R.map fun r => if g r = true then f r else 0).sum
  | [] => rfl
  | r :: R => by
    rw [List.filter_cons, List.map_cons, List.sum_cons]
    split
    · next h => rw [List.map_cons, List.sum_cons, sumR_flt R]
    · next h => rw [sumR_flt R]; omega
theorem sumF_flat (f : Lt → Int) (h : Lt × Int → Mpi) : ∀ m : Mpi, sumFJ f (m.flatMap h) = (m.map fun p => sumFJ f (h p)).sum
  | [] => rfl
  | p :: m => by rw [List.flatMap_cons, sumF_app, sumF_flat f h m]; rfl
theorem sumR_flat (f : Lt → Int) (h : Lt → List Lt) : ∀ R : List Lt, ((R.flatMap h).map f).sum = (R.map fun r => ((h r).map f).sum).sum
  | [] => rfl
  | r :: R => by rw [List.flatMap_cons, List.map_append, List.sum_append, sumR_flat f h R]; rfl
theorem sumF_news (c : Cv) (e : En) (f : Lt → Int) (p : Lt × Int) : sumFJ f (newsM c e p) = p.2 * ((byE c p.1 e).map fun b => f (srtI (p.1 ++ [b]))).sum := by
  unfold newsM
  generalize byE c p.1 e = l
  induction l with
  | nil => simp [sumFJ]
  | cons b l ih => rw [List.map_cons, sumF_cons, ih, List.map_cons, List.sum_cons, Int.mul_add]
theorem GM.step {c : Cv} {m : Mpi} {R : List Lt} (h : GM m R) (e : En) : GM (stepM c m e) (stepJ c R e) := by
  have sm : ∀ (r : Lt), ∀ x, x ∈ r ↔ x ∈ srtI r := fun r x => srtI_mem.symm
  unfold stepM stepJ
  cases e.ob with
  | true =>
    rw [if_pos rfl, if_pos rfl]
    refine ⟨by rw [flt_keys (f := fun r => stayE r e)]; exact h.nd.filter _, fun k => ?_, fun f => ?_⟩
    · rw [flt_keys (f := fun r => stayE r e), List.mem_filter, h.mem]
      constructor
      · rintro ⟨⟨r, hr, rfl⟩, hs⟩
        exact ⟨r, List.mem_filter.mpr ⟨hr, by rw [stayE_same (sm r) e]; exact hs⟩, rfl⟩
      · rintro ⟨r, hr, rfl⟩
        obtain ⟨h1, h2⟩ := List.mem_filter.mp hr
        exact ⟨⟨r, h1, rfl⟩, by rw [← stayE_same (sm r) e]; exact h2⟩
    · rw [sum_flt (fun r => stayE r e), h.sum, sumR_flt]
      congr 1
      refine List.map_congr_left fun r _ => ?_
      rw [stayE_same (sm r) e]
  | false =>
    rw [if_neg (by decide), if_neg (by decide)]
    refine ⟨(adds_all (fun _ => 0) _ (by simp [keysM])).1, fun k => ?_, fun f => ?_⟩
    · rw [(adds_all (fun _ => 0) _ (by simp [keysM])).2.1]
      constructor
      · rintro (z | z)
        · simp [keysM] at z
        · obtain ⟨q, hq, rfl⟩ := List.mem_map.mp z
          obtain ⟨p, hp, hq⟩ := List.mem_flatMap.mp hq
          obtain ⟨b, hb, rfl⟩ := List.mem_map.mp hq
          obtain ⟨r, hr, e1⟩ := (h.mem p.1).mp (List.mem_map.mpr ⟨p, hp, rfl⟩)
          refine ⟨r ++ [b], List.mem_flatMap.mpr ⟨r, hr, List.mem_map.mpr ⟨b, ?_, rfl⟩⟩, ?_⟩
          · rw [byE_same (sm r) e, e1]; exact hb
          · show srtI (r ++ [b]) = srtI (p.1 ++ [b])
            rw [← e1, srtI_snoc]
      · rintro ⟨x, hx, rfl⟩
        obtain ⟨r, hr, hx⟩ := List.mem_flatMap.mp hx
        obtain ⟨b, hb, rfl⟩ := List.mem_map.mp hx
        obtain ⟨p, hp, e1⟩ := List.mem_map.mp ((h.mem (srtI r)).mpr ⟨r, hr, rfl⟩)
        refine .inr (List.mem_map.mpr ⟨(srtI (p.1 ++ [b]), p.2), List.mem_flatMap.mpr ⟨p, hp, List.mem_map.mpr ⟨b, ?_, rfl⟩⟩, ?_⟩)
        · rw [e1, ← byE_same (sm r) e]; exact hb
        · show srtI (p.1 ++ [b]) = srtI (r ++ [b])
          rw [e1, srtI_snoc]
    · rw [(adds_all f _ (by simp [keysM])).2.2, sumF_flat, sumR_flat]
      have e1 : (m.map fun p => sumFJ f (newsM c e p)).sum = sumFJ (fun k => ((byE c k e).map fun b => f (srtI (k ++ [b]))).sum) m := by
        unfold sumFJ
        congr 1
        refine List.map_congr_left fun p _ => ?_
        exact sumF_news c e f p
      rw [e1, h.sum]
      have e2 : sumFJ f [] = 0 := rfl
      rw [e2, Int.zero_add]
      congr 1
      refine List.map_congr_left fun r _ => ?_
      rw [← byE_same (sm r) e, List.map_map]
      congr 1
      refine List.map_congr_left fun b _ => ?_
      show f (srtI (srtI r ++ [b])) = f (srtI (r ++ [b]))
      rw [srtI_snoc]
end Ma

namespace Ma
open PySem Pv Tv
theorem nd_subL {α : Type} [DecidableEq α] : ∀ {l m : List α}, l.Nodup → (∀ x ∈ l, x ∈ m) → l.length ≤ m.length
  | [], m, _, _ => Nat.zero_le _
  | a :: l, m, h, hs => by
    rw [List.nodup_cons] at h
    have ha := hs a (by simp)
    have := nd_subL (l := l) (m := m.erase a) h.2 fun x hx => (List.mem_erase_of_ne (fun (e : x = a) => h.1 (e ▸ hx))).mpr (hs x (by simp [hx]))
    rw [List.length_erase_of_mem ha] at this
    have := List.length_pos_of_mem ha
    rw [List.length_cons]; omega
theorem GM.len {c : Cv} {m : Mpi} {R : List Lt} (h : GM m R) (h2 : c.length ≤ 10) (hr : ∀ r ∈ R, Dgs c r) : m.length ≤ 1024 := by
  have h1 : (keysM m).length ≤ (lotsL c.length).length := nd_subL h.nd fun k hk => by
    obtain ⟨r, hr', rfl⟩ := (h.mem k).mp hk
    exact mem_lotsL.mpr (hr r hr').pit.lot
  have h3 := lotsL_small h2
  have : (keysM m).length = m.length := List.length_map ..
  omega
/-! rows in their order -/
end Ma

/-! Me2: values of any kind that are of a known one -/
namespace Ma
open PySem Pv Tv
end Ma

namespace Ma
open PySem Pv Tv
def En.v : En → List D
  | .lost => [eS ("lost" : Str)]
  | .dug b => [eS ("dug" : Str), eI b]
  | .inn b => [eS ("is" : Str), eI b]
  | .out b => [eS ("not" : Str), eI b]
structure LogOk (n : Nat) (es : List En) : Prop where
  len : es.length ≤ 20
  ok : ∀ e ∈ es, e.ok n
  few : (es.filter fun e => decide (e = .lost)).length ≤ 5
def En.w : En → Str
  | .lost => "lost"
  | .dug _ => "dug"
  | .inn _ => "is"
  | .out _ => "not"
def En.at : En → Int
  | .lost => 0
  | .dug b => b
  | .inn b => b
  | .out b => b
theorem cut_from1 {α : Type} {l : List α} : cutL l (some 1) none = l.drop 1 := by
  cases l with
  | nil => rfl
  | cons x l =>
    have e : HT.sIx (x :: l).length 0 (some 1) = 1 := by
      simp only [HT.sIx, List.length_cons]
      split <;> omega
    have e2 : HT.sIx (x :: l).length (x :: l).length none = (x :: l).length := rfl
    rw [cutL, e, e2, List.take_of_length_le (by simp)]
end Ma

/-! Mk1: numbers told by words (k83). -/
namespace Ma
open PySem Pv Tv
theorem mem_rangeK {a n : Int} {k : Nat} : n ∈ rangeL a k ↔ a ≤ n ∧ n < a + k := by
  unfold rangeL
  simp only [List.mem_map, List.mem_range]
  constructor
  · rintro ⟨i, hi, rfl⟩; omega
  · intro h; exact ⟨(n - a).toNat, by omega, by omega⟩
end Ma

/-! Mk2: loops that are left with an answer; which word of a line cannot stand (k83). -/
namespace Ma
open PySem Pv Tv
end Ma

/-! Mk3: how great the parts of a text are (k83). -/
namespace Ma
open PySem Pv Tv
end Ma

/-! Mk4: the loops of _law_due (k83). -/
namespace Ma
open PySem Pv Tv
end Ma

/-! Mk5: what checked answers for a line (k83). -/
namespace Ma
open PySem Pv Tv
end Ma

/-! Mk6: texts of good lines; how long joined words are (k83). -/
namespace Ma
open PySem Pv Tv
theorem sum_leK {α : Type} (f : α → Nat) (b : Nat) : ∀ {l : List α}, (∀ w ∈ l, f w ≤ b) → (l.map f).sum ≤ b * l.length
  | [], _ => by simp
  | x :: r, h => by
    have h1 := h x (List.mem_cons_self ..)
    have h2 := sum_leK f b fun w hw => h w (List.mem_cons_of_mem _ hw)
    rw [List.map_cons, List.sum_cons, List.length_cons, Nat.mul_add, Nat.mul_one]
    omega
theorem join_lenK (y : Str) (ls : List Str) : (Txt.join y ls).length ≤ (ls.map (·.length)).sum + ls.length * y.length := by
  rw [TL.join_eq]
  exact StrLaws.join_length_le y ls
def LnK (m : Nat) (l : List Str) : Prop := l.length ≤ m ∧ ∀ w ∈ l, w.length ≤ 8
def TxK (m k : Nat) (ls : List (List Str)) : Prop := 1 ≤ ls.length ∧ ls.length ≤ k ∧ ∀ l ∈ ls, LnK m l
theorem LnK.cut {m : Nat} {l : List Str} (h : LnK m l) (lo hi : Option Int) : LnK m (cutL l lo hi) := ⟨by
  unfold cutL
  rw [List.length_take, List.length_drop]
  have := h.1; omega, fun w hw => h.2 w (List.mem_of_mem_drop (List.mem_of_mem_take hw))⟩
theorem LnK.mono {m n : Nat} {l : List Str} (h : LnK m l) (hm : m ≤ n) : LnK n l := ⟨Nat.le_trans h.1 hm, h.2⟩
theorem TxK.set {m n k : Nat} {ls : List (List Str)} (h : TxK m k ls) (i : Nat) {l : List Str} (hl : LnK n l) (hm : m ≤ n) : TxK n (k + 1) (ls.set i l) := ⟨by rw [List.length_set]; exact h.1, by rw [List.length_set]; have := h.2.1; omega, fun x hx => (List.mem_or_eq_of_mem_set hx).elim (fun z => (h.2.2 x z).mono hm) fun z => by subst z; exact hl⟩
theorem TxK.ins {m n k : Nat} {ls : List (List Str)} (h : TxK m k ls) (i : Nat) {l : List Str} (hl : LnK n l) (hm : m ≤ n) : TxK n (k + 1) (ls.take i ++ l :: ls.drop i) := ⟨by rw [List.length_append, List.length_cons]; omega, by
    rw [List.length_append, List.length_cons, List.length_take, List.length_drop]
    have := h.2.1; omega, fun x hx => by
  rcases List.mem_append.mp hx with z | z
  · exact (h.2.2 x (List.mem_of_mem_take z)).mono hm
  · rcases List.mem_cons.mp z with z | z
    · subst z; exact hl
    · exact (h.2.2 x (List.mem_of_mem_drop z)).mono hm⟩
theorem LnK.joins {m : Nat} {l : List Str} (h : LnK m l) : (l.map (·.length)).sum + l.length * (" " : Str).length ≤ 9 * m ∧ (Txt.join " " l).length ≤ 9 * m := by
  have h1 := sum_leK (fun w : Str => w.length) 8 h.2
  have h2 := join_lenK " " l
  have e : (" " : Str).length = 1 := by decide +kernel
  rw [e] at h2 ⊢
  have := h.1
  omega
theorem TxK.joins {m k : Nat} {ls : List (List Str)} (h : TxK m k ls) (hm : m ≤ 200) (hk : k ≤ 20) : (((ls.map (Txt.join " ")).map (·.length)).sum + (ls.map (Txt.join " ")).length * ("\n" : Str).length ≤ 16777216) ∧ (Txt.join "\n" (ls.map (Txt.join " "))).length ≤ 1000000 := by
  have h1 := sum_leK (fun w : Str => w.length) 1800 (l := ls.map (Txt.join " ")) (fun w hw => by
    obtain ⟨l, hl, rfl⟩ := List.mem_map.mp hw
    have := (h.2.2 l hl).joins.2
    omega)
  have h2 := join_lenK "\n" (ls.map (Txt.join " "))
  have e : ("\n" : Str).length = 1 := by decide +kernel
  rw [e] at h2 ⊢
  have := h.2.1
  rw [List.length_map] at h1 h2 ⊢
  omega
end Ma

/-! Mk8: texts that are written, with blanks put in, and read back (k82). -/
namespace Ma
open PySem Pv Tv
theorem flat_le8 {α β : Type} {f : α → List β} {k : Nat} : ∀ {l : List α}, (∀ x ∈ l, (f x).length ≤ k) → (l.flatMap f).length ≤ k * l.length
  | [], _ => by simp
  | x :: l, h => by
    have h1 := h x (List.mem_cons_self ..)
    have h2 := flat_le8 (l := l) fun y hy => h y (List.mem_cons_of_mem _ hy)
    rw [List.flatMap_cons, List.length_append, List.length_cons, Nat.mul_add, Nat.mul_one]
    omega
theorem enumF_len8 {α : Type} : ∀ (l : List α) (k : Nat), (enumFrom k l).length = l.length
  | [], _ => rfl
  | _ :: l, k => by show (enumFrom (k + 1) l).length + 1 = l.length + 1; rw [enumF_len8 l]
theorem enumL_len8 {α : Type} (l : List α) : (enumL l).length = l.length := enumF_len8 l 0
/-! parts that are not empty -/
/-! the words of a block's line -/
/-! such lines can stand -/
end Ma

/-! Mk9: grounds whose blocks are told in another order (k03). -/
namespace Ma
open PySem Pv Tv
structure BijO (n : Nat) (f g : Int → Int) : Prop where
  ff : ∀ i : Int, 0 ≤ i → i < n → 0 ≤ f i ∧ f i < n
  gg : ∀ i : Int, 0 ≤ i → i < n → 0 ≤ g i ∧ g i < n
  gf : ∀ i : Int, 0 ≤ i → i < n → g (f i) = i
  fg : ∀ i : Int, 0 ≤ i → i < n → f (g i) = i
theorem BijO.symm {n : Nat} {f g : Int → Int} (B : BijO n f g) : BijO n g f := ⟨B.gg, B.ff, B.fg, B.gf⟩
def pmO (f : Int → Int) (p : Lt) : Lt := srtI (p.map f)
theorem nd_map {n : Nat} {f g : Int → Int} (B : BijO n f g) {p : Lt} (hp : p.Nodup) (h : ∀ x ∈ p, 0 ≤ x ∧ x < n) : (p.map f).Nodup := by
  rw [List.nodup_iff_pairwise_ne, List.pairwise_map]
  refine (List.nodup_iff_pairwise_ne.mp hp).imp_of_mem fun {a b} ha hb hab e => hab ?_
  rw [← B.gf a (h a ha).1 (h a ha).2, e, B.gf b (h b hb).1 (h b hb).2]
theorem lot_nd {n : Nat} {p : Lt} (h : Lot n p) : p.Nodup := List.nodup_iff_pairwise_ne.mpr (h.1.imp fun h => by omega)
theorem pmO_lot {n : Nat} {f g : Int → Int} (B : BijO n f g) {p : Lt} (h : Lot n p) : Lot n (pmO f p) := ⟨srtI_asc (nd_map B (lot_nd h) h.2), fun x hx => by
  obtain ⟨y, hy, rfl⟩ := List.mem_map.mp (srtI_mem.mp hx)
  exact B.ff y (h.2 y hy).1 (h.2 y hy).2⟩
theorem pmO_mem {n : Nat} {f g : Int → Int} (B : BijO n f g) {p : Lt} (h : Lot n p) {x : Int} (x0 : 0 ≤ x) (x1 : x < n) : x ∈ pmO f p ↔ g x ∈ p := by
  unfold pmO
  rw [srtI_mem, List.mem_map]
  constructor
  · rintro ⟨y, hy, rfl⟩
    rw [B.gf y (h.2 y hy).1 (h.2 y hy).2]; exact hy
  · intro hx
    exact ⟨g x, hx, B.fg x x0 x1⟩
theorem pmO_inv {n : Nat} {f g : Int → Int} (B : BijO n f g) {p : Lt} (h : Lot n p) : pmO f (pmO g p) = p := by
  refine asc_ext (pmO_lot B (pmO_lot B.symm h)).1 h.1 fun x => ⟨fun hx => ?_, fun hx => ?_⟩
  · have hb := (pmO_lot B (pmO_lot B.symm h)).2 x hx
    have h1 := (pmO_mem B (pmO_lot B.symm h) hb.1 hb.2).mp hx
    have hg := B.gg x hb.1 hb.2
    have h2 := (pmO_mem B.symm h hg.1 hg.2).mp h1
    rwa [B.fg x hb.1 hb.2] at h2
  · have hb := h.2 x hx
    have hg := B.gg x hb.1 hb.2
    refine (pmO_mem B (pmO_lot B.symm h) hb.1 hb.2).mpr ((pmO_mem B.symm h hg.1 hg.2).mpr ?_)
    rw [B.fg x hb.1 hb.2]; exact hx
def renO (c : Cv) (f g : Int → Int) : Cv := (rangeL 0 c.length).map fun i => srtI ((atC c (f i)).map g)
def ordB (c : Cv) (f g : Int → Int) : Bool := (rangeL 0 c.length).all fun i => (atC c (f i)).all fun x => decide (g x < i)
theorem ordB_iff {c : Cv} {f g : Int → Int} : ordB c f g = true ↔ ∀ i : Int, 0 ≤ i → i < c.length → ∀ x ∈ atC c (f i), g x < i := by
  unfold ordB
  rw [List.all_eq_true]
  constructor
  · intro h i i0 i1 x hx
    exact of_decide_eq_true (List.all_eq_true.mp (h i (mem_rangeK.mpr ⟨i0, by omega⟩)) x hx)
  · intro h i hi
    have := mem_rangeK.mp hi
    rw [List.all_eq_true]
    intro x hx
    exact decide_eq_true (h i this.1 (by omega) x hx)
theorem renO_len (c : Cv) (f g : Int → Int) : (renO c f g).length = c.length := by unfold renO; rw [List.length_map, rangeL_len]
theorem renO_at {c : Cv} {f g : Int → Int} {i : Int} (h0 : 0 ≤ i) (h1 : i < c.length) : atC (renO c f g) i = srtI ((atC c (f i)).map g) := by
  have e : (renO c f g)[i.toNat]? = some (srtI ((atC c (f i)).map g)) := by
    unfold renO rangeL
    rw [List.map_map, List.getElem?_map, List.getElem?_range (by omega)]
    show some (srtI ((atC c (f ((0 : Int) + (i.toNat : Int)))).map g)) = _
    rw [show (0 : Int) + (i.toNat : Int) = i by omega]
  have := atC_of e
  rwa [show ((i.toNat : Nat) : Int) = i by omega] at this
theorem cov_lot {c : Cv} (hv : Vcv c) {b : Int} (h0 : 0 ≤ b) (h1 : b < c.length) : (∀ x ∈ atC c b, 0 ≤ x ∧ x < b) ∧ (atC c b).Pairwise (· < ·) := by
  have := hv b.toNat _ (atC_get h0 h1)
  rw [show ((b.toNat : Nat) : Int) = b by omega] at this
  exact this
theorem cov_n {c : Cv} (hv : Vcv c) {b : Int} (h0 : 0 ≤ b) (h1 : b < c.length) : Lot c.length (atC c b) := by
  obtain ⟨g1, g2⟩ := cov_lot hv h0 h1
  exact ⟨g2, fun x hx => by have := g1 x hx; omega⟩
theorem renO_V {c : Cv} {f g : Int → Int} (hv : Vcv c) (B : BijO c.length f g) (ho : ordB c f g = true) : Vcv (renO c f g) := by
  intro b l hl
  have hb : b < c.length := by
    have := (List.getElem?_eq_some_iff.mp hl).1
    rwa [renO_len] at this
  have e := renO_at (f := f) (g := g) (i := (b : Int)) (c := c) (by omega) (by omega)
  have e2 := atC_of hl
  rw [e2] at e
  subst e
  have fb := B.ff b (by omega) (by omega)
  have hc := cov_n hv fb.1 fb.2
  have lt := pmO_lot B.symm hc
  refine ⟨fun x hx => ⟨(lt.2 x hx).1, ?_⟩, lt.1⟩
  obtain ⟨y, hy, rfl⟩ := List.mem_map.mp (srtI_mem.mp hx)
  exact ordB_iff.mp ho b (by omega) (by omega) y hy
theorem pit_to {c : Cv} {f g : Int → Int} (hv : Vcv c) (B : BijO c.length f g) {p : Lt} (h : Pit (renO c f g) p) : Pit c (pmO f p) := by
  have hl : Lot c.length p := by have := h.lot; rwa [renO_len] at this
  refine ⟨pmO_lot B hl, fun b hb o ho => ?_⟩
  have bb := (pmO_lot B hl).2 b hb
  have gb := B.gg b bb.1 bb.2
  have oo := (cov_n hv bb.1 bb.2).2 o ho
  rw [pmO_mem B hl bb.1 bb.2] at hb
  rw [pmO_mem B hl oo.1 oo.2]
  refine h.full _ hb _ ?_
  rw [renO_at gb.1 gb.2, srtI_mem, B.fg b bb.1 bb.2]
  exact List.mem_map_of_mem ho
theorem pit_from {c : Cv} {f g : Int → Int} (hv : Vcv c) (B : BijO c.length f g) {q : Lt} (h : Pit c q) : Pit (renO c f g) (pmO g q) := by
  have hl := h.lot
  refine ⟨by rw [renO_len]; exact pmO_lot B.symm hl, fun i hi y hy => ?_⟩
  have ii := (pmO_lot B.symm hl).2 i hi
  rw [pmO_mem B.symm hl ii.1 ii.2] at hi
  rw [renO_at ii.1 ii.2, srtI_mem] at hy
  obtain ⟨x, hx, rfl⟩ := List.mem_map.mp hy
  have fi := B.ff i ii.1 ii.2
  have xx := (cov_n hv fi.1 fi.2).2 x hx
  have gx := B.gg x xx.1 xx.2
  rw [pmO_mem B.symm hl gx.1 gx.2, B.fg x xx.1 xx.2]
  exact h.full _ hi _ hx
/-! worths -/
def movO (n : Nat) (w : List Int) (f : Int → Int) : List Int := (rangeL 0 n).map fun i => wAt w (f i)
theorem movO_at {n : Nat} {w : List Int} {f : Int → Int} {i : Int} (h0 : 0 ≤ i) (h1 : i < n) : wAt (movO n w f) i = wAt w (f i) := by
  have hl : (movO n w f).length = n := by unfold movO; rw [List.length_map, rangeL_len]
  have e : (movO n w f)[i.toNat]? = some (wAt w (f i)) := by
    unfold movO rangeL
    rw [List.map_map, List.getElem?_map, List.getElem?_range (by omega)]
    show some (wAt w (f ((0 : Int) + (i.toNat : Int)))) = _
    rw [show (0 : Int) + (i.toNat : Int) = i by omega]
  have := wAt_get (w := movO n w f) (b := i) h0 (by omega)
  rw [e] at this
  exact (Option.some.inj this).symm
theorem movO_wor {n : Nat} {w : List Int} {f g : Int → Int} (B : BijO n f g) (hw : Wor n w) : Wor n (movO n w f) := ⟨by unfold movO; rw [List.length_map, rangeL_len], fun x hx => by
  unfold movO at hx
  obtain ⟨i, hi, rfl⟩ := List.mem_map.mp hx
  have hi := mem_rangeK.mp hi
  have fi := B.ff i hi.1 (by omega)
  exact hw.bd _ (List.mem_of_getElem? (wAt_get fi.1 (by rw [hw.len]; exact fi.2)))⟩
theorem sum_permO {l m : List Int} (h : l.Perm m) : l.sum = m.sum := by
  induction h with
  | nil => rfl
  | cons x _ ih => rw [List.sum_cons, List.sum_cons, ih]
  | swap x y l => simp only [List.sum_cons]; omega
  | trans _ _ h1 h2 => exact h1.trans h2
theorem sum_to {n : Nat} {w : List Int} {f g : Int → Int} (B : BijO n f g) {p : Lt} (h : Lot n p) : sumW w (pmO f p) = sumW (movO n w f) p := by
  unfold sumW pmO
  rw [sum_permO ((srtI_perm (p.map f)).map (wAt w)), List.map_map]
  congr 1
  apply List.map_congr_left
  intro i hi
  exact (movO_at (h.2 i hi).1 (h.2 i hi).2).symm
theorem most_same {c : Cv} {w : List Int} {f g : Int → Int} (hv : Vcv c) (B : BijO c.length f g) : most (renO c f g) (movO c.length w f) = most c w := by
  apply Int.le_antisymm
  · obtain ⟨p, hp, hs⟩ := most_at (renO c f g) (movO c.length w f)
    have hl : Lot c.length p := by have := hp.lot; rwa [renO_len] at this
    rw [← hs, ← sum_to B hl]
    exact most_ge (pit_to hv B hp)
  · obtain ⟨q, hq, hs⟩ := most_at c w
    have := most_ge (w := movO c.length w f) (pit_from hv B hq)
    rw [← sum_to B (pmO_lot B.symm hq.lot), pmO_inv B hq.lot, hs] at this
    exact this
theorem best_to {c : Cv} {w : List Int} {f g : Int → Int} (hv : Vcv c) (B : BijO c.length f g) {p : Lt} (h : p ∈ bestL (renO c f g) (movO c.length w f)) : pmO f p ∈ bestL c w := by
  obtain ⟨h1, h2⟩ := mem_bestL.mp h
  have hl : Lot c.length p := by have := h1.lot; rwa [renO_len] at this
  exact mem_bestL.mpr ⟨pit_to hv B h1, by rw [sum_to B hl, h2, most_same hv B]⟩
theorem best_from {c : Cv} {w : List Int} {f g : Int → Int} (hv : Vcv c) (B : BijO c.length f g) {q : Lt} (h : q ∈ bestL c w) : pmO g q ∈ bestL (renO c f g) (movO c.length w f) := by
  obtain ⟨h1, h2⟩ := mem_bestL.mp h
  refine mem_bestL.mpr ⟨pit_from hv B h1, ?_⟩
  rw [← sum_to B (pmO_lot B.symm h1.lot), pmO_inv B h1.lot, h2, most_same hv B]
theorem least_same {c : Cv} {w : List Int} {f g : Int → Int} (hv : Vcv c) (B : BijO c.length f g) {a b : Lt} (ha : (bestL (renO c f g) (movO c.length w f))[0]? = some a) (hb : (bestL c w)[0]? = some b) : pmO f a = b := by
  have ma := List.mem_of_getElem? ha
  have mb := List.mem_of_getElem? hb
  have pa := (mem_bestL.mp ma).1
  have pb := (mem_bestL.mp mb).1
  have la : Lot c.length a := by have := pa.lot; rwa [renO_len] at this
  have ta := best_to hv B ma
  have tb := best_from hv B mb
  refine asc_ext (pmO_lot B la).1 pb.lot.1 fun x => ⟨fun hx => ?_, fun hx => least_sub hb ta x hx⟩
  have xx := (pmO_lot B la).2 x hx
  have gx := B.gg x xx.1 xx.2
  have h1 := (pmO_mem B la xx.1 xx.2).mp hx
  have h2 := least_sub ha tb _ h1
  have h3 := (pmO_mem B.symm pb.lot gx.1 gx.2).mp h2
  rwa [B.fg x xx.1 xx.2] at h3
theorem pits_same {c : Cv} {f g : Int → Int} (hv : Vcv c) (B : BijO c.length f g) : sortB (ltLex ltI) ((pitsL (renO c f g)).map (pmO f)) = sortB (ltLex ltI) (pitsL c) := by
  have tot : TotB (ltLex ltI) := ltLex_tot ltI_tot
  have lot : ∀ p ∈ pitsL (renO c f g), Lot c.length p := fun p hp => by have := (mem_pitsL.mp hp).lot; rwa [renO_len] at this
  have pm : ((pitsL (renO c f g)).map (pmO f)).Perm (pitsL c) := by
    refine (List.perm_ext_iff_of_nodup ?_ (pitsL_nodup c)).mpr fun q => ⟨fun hq => ?_, fun hq => ?_⟩
    · rw [List.nodup_iff_pairwise_ne, List.pairwise_map]
      refine (List.nodup_iff_pairwise_ne.mp (pitsL_nodup _)).imp_of_mem fun {a b} ha hb hab e => hab ?_
      rw [← pmO_inv B.symm (lot a ha), e, pmO_inv B.symm (lot b hb)]
    · obtain ⟨p, hp, rfl⟩ := List.mem_map.mp hq
      exact mem_pitsL.mpr (pit_to hv B (mem_pitsL.mp hp))
    · have hq := mem_pitsL.mp hq
      exact List.mem_map.mpr ⟨pmO g q, mem_pitsL.mpr (pit_from hv B hq), pmO_inv B hq.lot⟩
  exact sortB_eq tot ((sortB_perm (pitsL c)).trans pm.symm) (sortB_sorted tot (pitsL c))
theorem ord_back {c : Cv} {f g : Int → Int} (hv : Vcv c) (B : BijO c.length f g) : ordB (renO c f g) g f = true := by
  refine ordB_iff.mpr fun (b : Int) b0 b1 y hy => ?_
  rw [renO_len] at b1
  have gb := B.gg b b0 b1
  rw [renO_at gb.1 gb.2, srtI_mem, B.fg b b0 b1] at hy
  obtain ⟨x, hx, rfl⟩ := List.mem_map.mp hy
  have xb := (cov_lot hv b0 b1).1 x hx
  rw [B.fg x xb.1 (by omega)]
  exact xb.2
theorem ren_back {c : Cv} {f g : Int → Int} (hv : Vcv c) (B : BijO c.length f g) : renO (renO c f g) g f = c := by
  apply List.ext_getElem?
  intro i
  by_cases h : i < c.length
  · have gb := B.gg i (by omega) (by omega)
    have hl := cov_n hv (b := (i : Int)) (by omega) (by omega)
    have e := renO_at (c := renO c f g) (f := g) (g := f) (i := (i : Int)) (by omega) (by rw [renO_len]; omega)
    rw [renO_at gb.1 gb.2, B.fg i (by omega) (by omega)] at e
    have e2 : srtI ((srtI ((atC c i).map g)).map f) = atC c i := pmO_inv B hl
    rw [e2] at e
    have e3 := atC_get (c := renO (renO c f g) g f) (b := (i : Int)) (by omega) (by rw [renO_len, renO_len]; omega)
    have e4 := atC_get (c := c) (b := (i : Int)) (by omega) (by omega)
    rw [Int.toNat_natCast] at e3 e4
    rw [e3, e4, e]
  · rw [List.getElem?_eq_none (by rw [renO_len, renO_len]; omega), List.getElem?_eq_none (by omega)]
/-! a list of all blocks as such an order -/
def posO (o : List Int) (x : Int) : Int := (((idxI x o).getD 0 : Nat) : Int)
def atO (o : List Int) (i : Int) : Int := o.getD i.toNat 0
theorem idxI_at : ∀ {l : List Int} {j : Nat} {k : Int}, l.Nodup → l[j]? = some k → idxI k l = some j
  | x :: r, 0, k, _, h => by
    cases h
    unfold idxI
    rw [if_pos rfl]
  | x :: r, j + 1, k, nd, h => by
    obtain ⟨n1, n2⟩ := List.nodup_cons.mp nd
    have hr : r[j]? = some k := by simpa using h
    unfold idxI
    rw [if_neg (fun e => n1 (by rw [e]; exact List.mem_of_getElem? hr)), idxI_at n2 hr]
    rfl
theorem all_in {n : Nat} {o : List Int} (nd : o.Nodup) (hl : o.length = n) (h : ∀ x ∈ o, 0 ≤ x ∧ x < n) {x : Int} (x0 : 0 ≤ x) (x1 : x < n) : x ∈ o := by
  refine Classical.byContradiction fun hx => ?_
  have lt : Lot n (srtI (x :: o)) := ⟨srtI_asc (List.nodup_cons.mpr ⟨hx, nd⟩), fun y hy => by
    rcases List.mem_cons.mp (srtI_mem.mp hy) with e | hy
    · subst e; exact ⟨x0, x1⟩
    · exact h y hy⟩
  have := asc_len lt
  rw [(srtI_perm _).length_eq, List.length_cons] at this
  omega
theorem bij_of {n : Nat} {o : List Int} (nd : o.Nodup) (hl : o.length = n) (h : ∀ x ∈ o, 0 ≤ x ∧ x < n) : BijO n (atO o) (posO o) ∧ o = (rangeL 0 n).map (atO o) := by
  have at_ : ∀ i : Int, 0 ≤ i → i < n → o[i.toNat]? = some (atO o i) := fun i i0 i1 => by
    have hi : i.toNat < o.length := by omega
    unfold atO
    rw [List.getD_eq_getElem?_getD, List.getElem?_eq_getElem hi]
    rfl
  refine ⟨⟨fun i i0 i1 => h _ (List.mem_of_getElem? (at_ i i0 i1)), fun x x0 x1 => ?_, fun i i0 i1 => ?_, fun x x0 x1 => ?_⟩, ?_⟩
  · obtain ⟨j, hj⟩ := List.getElem?_of_mem (all_in nd hl h x0 x1)
    have hjl := (List.getElem?_eq_some_iff.mp hj).1
    unfold posO
    rw [idxI_at nd hj]
    show 0 ≤ ((j : Nat) : Int) ∧ ((j : Nat) : Int) < n
    omega
  · unfold posO
    rw [idxI_at nd (at_ i i0 i1)]
    show ((i.toNat : Nat) : Int) = i
    omega
  · obtain ⟨j, hj⟩ := List.getElem?_of_mem (all_in nd hl h x0 x1)
    unfold posO
    rw [idxI_at nd hj]
    show atO o ((j : Nat) : Int) = x
    unfold atO
    rw [Int.toNat_natCast, List.getD_eq_getElem?_getD, hj]
    rfl
  · apply List.ext_getElem?
    intro i
    rw [List.getElem?_map]
    by_cases hi : i < n
    · have := at_ i (by omega) (by omega)
      rw [Int.toNat_natCast] at this
      rw [this]
      unfold rangeL
      rw [List.getElem?_map, List.getElem?_range hi]
      show some (atO o i) = some (atO o ((0 : Int) + (i : Int)))
      rw [show (0 : Int) + (i : Int) = i by omega]
    · rw [List.getElem?_eq_none (by omega), List.getElem?_eq_none (by rw [rangeL_len]; omega)]
      rfl
theorem tix_of {n : Nat} {o : List Int} {f g : Int → Int} (B : BijO n f g) (ho : o = (rangeL 0 n).map f) {x : Int} (x0 : 0 ≤ x) (x1 : x < n) {Q : Int → Prop} (q : Q (g x)) : tixW o x Q := by
  have gx := B.gg x x0 x1
  have nd : o.Nodup := by
    rw [ho]
    refine nd_map B ?_ fun y hy => by have := mem_rangeK.mp hy; omega
    rw [List.nodup_iff_pairwise_ne]
    unfold rangeL
    rw [List.pairwise_map]
    exact (List.nodup_iff_pairwise_ne.mp List.nodup_range).imp fun {a b} h => by omega
  refine ⟨(g x).toNat, idxI_at nd ?_, by rw [show (((g x).toNat : Nat) : Int) = g x by omega]; exact q⟩
  rw [ho]
  unfold rangeL
  rw [List.map_map, List.getElem?_map, List.getElem?_range (by omega)]
  show some (f ((0 : Int) + ((g x).toNat : Int))) = some x
  rw [show (0 : Int) + ((g x).toNat : Int) = g x by omega, B.fg x x0 x1]
end Ma

namespace Lw
open PySem PySem.Spec PySem.SeqAt L2 Pv
def top (i : Nat) : Stmt := PySem.Challenge.pw_pitlots_k03_whole_renamed.main.body.getD i (.Pass ⟨0, 0, 0, 0⟩)
def clsBd : Stmt → List Stmt
  | .ClassDef (body := b) .. => b
  | _ => []
def mth (i j : Nat) : Stmt := (clsBd (top i)).getD j (.Pass ⟨0, 0, 0, 0⟩)
def mkD (n : Str) (st : Stmt) : He.DefD := ⟨(n, none), n, n, defArgs st, defBody st, defScope st, [], []⟩
def mkM (c n q : Str) (st : Stmt) : He.DefD := ⟨(c, some n), n, q, defArgs st, defBody st, defScope st, [], []⟩
def fn : List He.DefD := [mkD "_law_taken" (top 30), mkD "_law_covers" (top 33), mkD "rises" (top 9), mkD "is_from" (top 8), mkD "is_cover" (top 10), mkM "Ground" "__init__" "Ground.__init__" (mth 11 0), mkD "_law_pick" (top 31), mkD "_law_order" (top 35), mkD "_law_alike" (top 32), mkD "need_ground" (top 12), mkM "Ground" "__len__" "Ground.__len__" (mth 11 2), mkD "is_block" (top 13), mkD "is_order" (top 14), mkD "need_order" (top 15), mkD "renamed" (top 16), mkD "_law_worths" (top 34), mkD "need_worths" (top 23), mkD "sized" (top 18), mkD "pits_of" (top 19), mkD "sum_of" (top 24), mkD "greatest_of" (top 25), mkD "best_pits" (top 26), mkD "least_best" (top 28), mkM "Ground" "__eq__" "Ground.__eq__" (mth 11 3), mkD "_law_told" (top 36), mkD "all_pits" (top 20), mkD "best_worth" (top 27), mkD "law" (top 37)]
def fa : List He.Fa := [.free "int", .free "len", .glo "_law_taken", .free "range", .free "list", .free "tuple", .free "all", .free "isinstance", .free "bool", .glo "is_from", .glo "rises", .int "MOST_BLOCKS" 10, .free "enumerate", .glo "is_cover", .glo "_law_pick", .glo "_law_alike", .free "str", .glo "Ground", .meth "Ground" "__len__", .glo "is_block", .free "set", .glo "need_ground", .glo "is_order", .exc "BadOrder", .glo "BadOrder", .glo "need_order", .free "sorted", .mkr "Ground", .int "MOST_WORTH" 50, .glo "sized", .free "sum", .glo "sum_of", .free "max", .glo "pits_of", .glo "greatest_of", .glo "need_worths", .glo "best_pits", .meth "Ground" "__eq__", .glo "renamed", .exm "BadOrder" "BadOrder" true, .glo "PitError", .glo "_law_covers", .glo "_law_order", .glo "_law_told", .glo "_law_worths", .glo "all_pits", .glo "best_worth", .glo "least_best", .glo "law"]
def cs : ClsT := [⟨"Ground", ["table"], [("covers", "table")], [], [("BadOrder", "PitError")], []⟩]
/-! _law_taken -/
abbrev N__law_taken : List Str := ["_law_row", "_law_many", "_law_found", "_law_cell"]
def m__law_taken : SM := (exSeq (exIf (tvB (evBin gGtD (evBin gIx (evVar 0) (evC (.int 3))) (evC (.int 0)))) (exSeq (exAsg [0] 2 (evBin gMod (evCall gInt (evCons (evBin gIx (evVar 0) (evC (.int 3))) evNil)) (evVar 1)))
  (exSeq (exSto 0 (evC (.int 3)) (evBin gFdiv (evBin gIx (evVar 0) (evC (.int 3))) (evVar 1)))
  (exRet (evVar 2)))) exPass)
  (exSeq (exSto 0 (evC (.int 1)) (evBin gAdd (evBin gIx (evVar 0) (evC (.int 1))) (evC (.int 1))))
  (exSeq (exIf (tvB (evBin gGtD (evBin gIx (evVar 0) (evC (.int 1))) (evCall gLen (evCons (evBin gIx (evVar 0) (evC (.int 0))) evNil)))) (exSeq (exSto 0 (evC (.int 2)) (evBin gMod (evCall gInt (evCons (evBin gAdd (evBin gMulA (evBin gIx (evVar 0) (evC (.int 2))) (evC (.int 48271))) (evC (.int 11))) evNil)) (evC (.int 2147483647))))
  (exRet (evBin gMod (evCall gInt (evCons (evBin gFdiv (evBin gIx (evVar 0) (evC (.int 2))) (evC (.int 7))) evNil)) (evVar 1)))) exPass)
  (exSeq (exAsg [0] 3 (evBin gIx (evBin gIx (evVar 0) (evC (.int 0))) (evBin Pv.gSub (evBin gIx (evVar 0) (evC (.int 1))) (evC (.int 1)))))
  (exSeq (exSto 0 (evC (.int 2)) (evBin gMod (evCall gInt (evCons (evBin gAdd (evBin gAdd (evBin gMulA (evBin gIx (evVar 0) (evC (.int 2))) (evC (.int 48271))) (evVar 3)) (evC (.int 11))) evNil)) (evC (.int 2147483647))))
  (exSeq (exIf (tvB (evBin gGeD (evVar 3) (evBin gPow (evC (.int 10)) (evC (.int 18))))) (exSto 0 (evC (.int 3)) (evBin gFdiv (evVar 3) (evVar 1))) exPass)
  (exRet (evBin gMod (evCall gInt (evCons (evVar 3) evNil)) (evVar 1)))))))))
def c__law_taken : CM := runB true 4 m__law_taken
/-! _law_covers -/
abbrev N__law_covers : List Str := ["_law_row", "_law_most", "_law_found", "_law_way", "_law_many", "_law_block", "_law_some", "_law_one"]
def m__law_covers : SM := (exSeq (exPar [0] [2, 3, 4] (evCons (evLst evNil) (evCons (evCallI 2 c__law_taken (evCons (evVar 0) (evCons (evC (.int 7)) evNil))) (evCons (evBin gAdd (evC (.int 1)) (evCallI 2 c__law_taken (evCons (evVar 0) (evCons (evVar 1) evNil)))) evNil))))
  (exSeq (exPre ([5, 6], []) (exFor (ivArgs rng1 (evCons (evVar 4) evNil)) (tgName [0] 5) (exKill [5, 6] (exSeq (exAsg [0] 6 (evComp (ivArgs rng1 (evCons (evVar 5) evNil)) (tgName [] 7) (tvB (evBin gEqD (evCallI 2 c__law_taken (evCons (evVar 0) (evCons (evC (.int 3)) evNil))) (evC (.int 0)))) (evVar 7) [7]))
  (exSeq (exIf (tvB (evBin gEqD (evVar 3) (evC (.int 0)))) (exAsg [0] 6 (evLst evNil)) exPass)
  (exSeq (exIf (tvB (evBin gEqD (evVar 3) (evC (.int 1)))) (exAsg [0] 6 (evSl (evUn gLRg1 (evVar 5)) (opSome (evUn gNeg (evC (.int 1)))) opNone)) exPass)
  (exSeq (exIf (tvB (evBin gEqD (evVar 3) (evC (.int 2)))) (exAsg [0] 6 (evComp (ivArgs rng1 (evCons (evVar 5) evNil)) (tgName [] 7) (tvB (evChain gLtD gLeD (evBin gMulA (evC (.int 2)) (evVar 7)) (evVar 4) (evBin gMulA (evC (.int 2)) (evVar 5)))) (evVar 7) [7])) exPass)
  (exSeq (exIf (tvB (evBin gEqD (evVar 3) (evC (.int 3)))) (exAsg [0] 6 (evComp (ivSeq (evVar 6)) (tgName [] 7) (tvB (evBin gLtD (evBin Pv.gSub (evVar 5) (evVar 7)) (evC (.int 3)))) (evVar 7) [7])) exPass)
  (exExpr (evMut fAppend 2 (evCons (evCall gTuple (evCons (evVar 6) evNil)) evNil)))))))))))
  (exRet (evCall gTuple (evCons (evVar 2) evNil)))))
def c__law_covers : CM := runB true 8 m__law_covers
/-! rises -/
abbrev N_rises : List Str := ["value", "at"]
def m_rises : SM := (exRet (evCall gAll (evCons (evComp (ivArgs rng2 (evCons (evC (.int 1)) (evCons (evCall gLen (evCons (evVar 0) evNil)) evNil))) (tgName [] 1) tvYes (evBin gLtD (evBin gIx (evVar 0) (evBin Pv.gSub (evVar 1) (evC (.int 1)))) (evBin gIx (evVar 0) (evVar 1))) [1]) evNil)))
def c_rises : CM := runB false 2 m_rises
/-! is_from -/
abbrev N_is_from : List Str := ["value", "low", "high"]
def m_is_from : SM := (exRet (evAnd (evIsi [.ty "int"] (evVar 0)) (evAnd (evNot (evIsi [.ty "bool"] (evVar 0))) (evChain gLeD gLeD (evVar 1) (evVar 0) (evVar 2)))))
def c_is_from : CM := runB false 3 m_is_from
/-! is_cover -/
abbrev N_is_cover : List Str := ["value", "block", "one"]
def m_is_cover : SM := (exRet (evAnd (evIsi [.ty "tuple"] (evVar 0)) (evAnd (evCall gAll (evCons (evComp (ivSeq (evVar 0)) (tgName [] 2) tvYes (evCallL 3 c_is_from (evCons (evVar 2) (evCons (evC (.int 0)) (evCons (evBin Pv.gSub (evVar 1) (evC (.int 1))) evNil)))) [2]) evNil)) (evCallL 1 c_rises (evCons (evVar 0) evNil)))))
def c_is_cover : CM := runB false 3 m_is_cover
/-! Ground.__init__ -/
abbrev N_Ground___init__ : List Str := ["self", "covers", "index", "value"]
def m_Ground___init__ : SM := (exSeq (exIf (tvOr (tvNot (tvB (evIsi [.ty "tuple"] (evVar 1)))) (tvNot (tvB (evChain gLeD gLeD (evC (.int 1)) (evCall gLen (evCons (evVar 1) evNil)) (evC (.int 10)))))) exBad exPass)
  (exSeq (exPre ([2, 3], []) (exFor (ivEnum (evVar 1)) (tgTup 2 (tgCons (tgName [0] 2) (tgCons (tgName [0] 3) tgNil))) (exKill [2, 3] (exIf (tvNot (tvB (evCallL 2 c_is_cover (evCons (evVar 3) (evCons (evVar 2) evNil))))) exBad exPass))))
  (exFld (fnsOf cs) 0 "table" (evVar 1))))
def c_Ground___init__ : CM := runB true 4 m_Ground___init__
/-! _law_pick -/
abbrev N__law_pick : List Str := ["_law_row", "_law_things"]
def m__law_pick : SM := (exRet (evBin gIx (evVar 1) (evCallI 2 c__law_taken (evCons (evVar 0) (evCons (evCall gLen (evCons (evVar 1) evNil)) evNil)))))
def c__law_pick : CM := runB true 2 m__law_pick
/-! _law_order -/
abbrev N__law_order : List Str := ["_law_row", "_law_covers_here", "_law_found", "_law_turn", "_law_left", "_law_able", "_law_k", "_law_one"]
def m__law_order : SM := (exSeq (exAsg [0] 2 (evTupX evNil))
  (exSeq (exPre ([3, 4, 5], []) (exFor (ivArgs rng1 (evCons (evCall gLen (evCons (evVar 1) evNil)) evNil)) (tgName [0] 3) (exKill [3, 4, 5] (exSeq (exAsg [0] 4 (evComp (ivArgs rng1 (evCons (evCall gLen (evCons (evVar 1) evNil)) evNil)) (tgName [] 6) (tvB (evBin (gInX true) (evVar 6) (evVar 2))) (evVar 6) [6]))
  (exSeq (exAsg [0] 5 (evComp (ivSeq (evVar 4)) (tgName [] 6) (tvB (evBin gEqD (evComp (ivSeq (evBin gIx (evVar 1) (evVar 6))) (tgName [] 7) (tvB (evBin (gInX true) (evVar 7) (evVar 2))) (evVar 7) [7]) (evLst evNil))) (evVar 6) [6]))
  (exAsg [0] 2 (evBin gAddX (evVar 2) (evTupX (evCons (evCallI 2 c__law_pick (evCons (evVar 0) (evCons (evVar 5) evNil))) evNil)))))))))
  (exRet (evVar 2))))
def c__law_order : CM := runB true 8 m__law_order
/-! _law_alike -/
abbrev N__law_alike : List Str := ["_law_found", "_law_due", "_law_k"]
def m__law_alike (self : CM) : SM := (exSeq (exIf (tvB (evIsi [.ty "tuple", .ty "list"] (evVar 1))) (exSeq (exIf (tvOr (tvNot (tvB (evIsi [.ty "tuple", .ty "list"] (evVar 0)))) (tvB (evBin gNeD (evIsi [.ty "list"] (evVar 0)) (evIsi [.ty "list"] (evVar 1))))) (exRet (evC (.bool false))) exPass)
  (exSeq (exIf (tvB (evBin gNeD (evCall gLen (evCons (evVar 0) evNil)) (evCall gLen (evCons (evVar 1) evNil)))) (exRet (evC (.bool false))) exPass)
  (exRet (evBin gEqD (evComp (ivArgs rng1 (evCons (evCall gLen (evCons (evVar 1) evNil)) evNil)) (tgName [] 2) (tvNot (tvB (evCallL 2 self (evCons (evBin gIx (evVar 0) (evVar 2)) (evCons (evBin gIx (evVar 1) (evVar 2)) evNil))))) (evVar 2) [2]) (evLst evNil))))) exPass)
  (exSeq (exIf (tvOr (tvB (evBin gIs (evVar 1) (evC .none))) (tvB (evIsi [.ty "str"] (evVar 1)))) (exRet (evAnd (evBin gEqD (evVar 0) (evVar 1)) (evBin gEqD (evIsi [.ty "str"] (evVar 0)) (evIsi [.ty "str"] (evVar 1))))) exPass)
  (exRet (evAnd (evIsi [.ty "int"] (evVar 0)) (evAnd (evBin gEqD (evIsi [.ty "bool"] (evVar 0)) (evIsi [.ty "bool"] (evVar 1))) (evBin gEqD (evVar 0) (evVar 1)))))))
def c__law_alike : Nat → CM
  | 0 => fun _ => none
  | t + 1 => runB false 3 (m__law_alike (c__law_alike t))
/-! need_ground -/
abbrev N_need_ground : List Str := ["ground"]
def m_need_ground : SM := (exIf (tvNot (tvB (evIsi [.cls 0] (evVar 0)))) exBad exPass)
def c_need_ground : CM := runB false 1 m_need_ground
/-! Ground.__len__ -/
abbrev N_Ground___len__ : List Str := ["self"]
def m_Ground___len__ : SM := (exRet (evCall gLen (evCons (evUn (fldD (fnsOf cs) "table") (evVar 0)) evNil)))
def c_Ground___len__ : CM := runB false 1 m_Ground___len__
/-! len of instances -/
def lmT : Int → Option (Nat × CM)
  | 0 => some (1, c_Ground___len__)
  | _ => none
/-! is_block -/
abbrev N_is_block : List Str := ["ground", "value"]
def m_is_block : SM := (exRet (evCallL 3 c_is_from (evCons (evVar 1) (evCons (evC (.int 0)) (evCons (evBin Pv.gSub (evLen lmT (evVar 0)) (evC (.int 1))) evNil)))))
def c_is_block : CM := runB false 2 m_is_block
/-! is_order -/
abbrev N_is_order : List Str := ["ground", "value", "one", "at", "block"]
def m_is_order : SM := (exSeq (exIf (tvOr (tvNot (tvB (evIsi [.ty "tuple"] (evVar 1)))) (tvOr (tvB (evBin gNeD (evCall gLen (evCons (evVar 1) evNil)) (evLen lmT (evVar 0)))) (tvNot (tvB (evCall gAll (evCons (evComp (ivSeq (evVar 1)) (tgName [] 2) tvYes (evCallL 2 c_is_block (evCons (evVar 0) (evCons (evVar 2) evNil))) [2]) evNil)))))) (exRet (evC (.bool false))) exPass)
  (exSeq (exIf (tvB (evBin gLtD (evUn gLenSetT (evVar 1)) (evCall gLen (evCons (evVar 1) evNil)))) (exRet (evC (.bool false))) exPass)
  (exRet (evCall gAll (evCons (evComp2 (ivEnum (evVar 1)) (tgTup 2 (tgCons (tgName [] 3) (tgCons (tgName [] 4) tgNil))) tvYes (ivSeq (evBin gIx (evUn (fldD (fnsOf cs) "table") (evVar 0)) (evVar 4))) (tgName [] 2) tvYes (evBin gLtD (evTIx (evVar 1) (evVar 2)) (evVar 3)) [2, 3, 4] [2]) evNil)))))
def c_is_order : CM := runB false 5 m_is_order
/-! need_order -/
abbrev N_need_order : List Str := ["ground", "order"]
def m_need_order : SM := (exSeq (exExpr (evCallL 1 c_need_ground (evCons (evVar 0) evNil)))
  (exIf (tvNot (tvB (evCallL 2 c_is_order (evCons (evVar 0) (evCons (evVar 1) evNil))))) (exRaise "BadOrder") exPass))
def c_need_order : CM := runB false 2 m_need_order
/-! renamed -/
abbrev N_renamed : List Str := ["ground", "order", "block", "one"]
def m_renamed : SM := (exSeq (exExprX (evCallL 2 c_need_order (evCons (evVar 0) (evCons (evVar 1) evNil))))
  (exRet (evMake 0 2 c_Ground___init__ (evCons (evCall gTuple (evCons (evComp (ivSeq (evVar 1)) (tgName [] 2) tvYes (evCall gTuple (evCons (evCall gSorted (evCons (evComp (ivSeq (evBin gIx (evUn (fldD (fnsOf cs) "table") (evVar 0)) (evVar 2))) (tgName [] 3) tvYes (evTIx (evVar 1) (evVar 3)) [3]) evNil)) evNil)) [2]) evNil)) evNil))))
def c_renamed : CM := runB false 4 m_renamed
/-! _law_worths -/
abbrev N__law_worths : List Str := ["_law_row", "_law_many", "_law_found", "_law_style", "_law_block", "_law_less", "_law_more"]
def m__law_worths : SM := (exSeq (exPar [0] [2, 3] (evCons (evLst evNil) (evCons (evCallI 2 c__law_taken (evCons (evVar 0) (evCons (evC (.int 6)) evNil))) evNil)))
  (exSeq (exPre ([4, 5, 6], []) (exFor (ivArgs rng1 (evCons (evVar 1) evNil)) (tgName [0] 4) (exKill [4, 5, 6] (exSeq (exPar [0] [5, 6] (evCons (evCallI 2 c__law_taken (evCons (evVar 0) (evCons (evBin gIx (evLst (evCons (evC (.int 3)) (evCons (evC (.int 5)) (evCons (evC (.int 9)) (evCons (evC (.int 51)) (evCons (evC (.int 51)) (evCons (evC (.int 2)) evNil))))))) (evVar 3)) evNil))) (evCons (evCallI 2 c__law_taken (evCons (evVar 0) (evCons (evBin gIx (evLst (evCons (evC (.int 3)) (evCons (evC (.int 5)) (evCons (evC (.int 9)) (evCons (evC (.int 51)) (evCons (evC (.int 4)) (evCons (evC (.int 2)) evNil))))))) (evVar 3)) evNil))) evNil)))
  (exExpr (evMut fAppend 2 (evCons (evBin Pv.gSub (evVar 6) (evVar 5)) evNil)))))))
  (exRet (evCall gTuple (evCons (evVar 2) evNil)))))
def c__law_worths : CM := runB true 7 m__law_worths
/-! need_worths -/
abbrev N_need_worths : List Str := ["ground", "worths", "worth"]
def m_need_worths : SM := (exSeq (exExpr (evCallL 1 c_need_ground (evCons (evVar 0) evNil)))
  (exSeq (exIf (tvOr (tvNot (tvB (evIsi [.ty "tuple"] (evVar 1)))) (tvB (evBin gNeD (evCall gLen (evCons (evVar 1) evNil)) (evLen lmT (evVar 0))))) exBad exPass)
  (exIf (tvNot (tvB (evCall gAll (evCons (evComp (ivSeq (evVar 1)) (tgName [] 2) tvYes (evCallL 3 c_is_from (evCons (evVar 2) (evCons (evUn gNeg (evC (.int 50))) (evCons (evC (.int 50)) evNil)))) [2]) evNil)))) exBad exPass)))
def c_need_worths : CM := runB false 3 m_need_worths
/-! sized -/
abbrev N_sized : List Str := ["lot"]
def m_sized : SM := (exRet (evTup (evCons (evCall gLen (evCons (evVar 0) evNil)) (evCons (evVar 0) evNil))))
def c_sized : CM := runB false 1 m_sized
/-! pits_of -/
abbrev N_pits_of : List Str := ["ground", "found", "block", "firsts", "lot", "one"]
def m_pits_of : SM := (exSeq (exAsg [] 1 (evLst (evCons (evTup evNil) evNil)))
  (exSeq (exPre ([2, 3], []) (exFor (ivArgs rng1 (evCons (evLen lmT (evVar 0)) evNil)) (tgName [] 2) (exKill [2, 3] (exSeq (exAsg [] 3 (evBin gIx (evUn (fldD (fnsOf cs) "table") (evVar 0)) (evVar 2)))
  (exAsg [] 1 (evBin gAdd (evVar 1) (evComp (ivSeq (evVar 1)) (tgName [] 4) (tvB (evCall gAll (evCons (evComp (ivSeq (evVar 3)) (tgName [] 5) tvYes (evBin gInD (evVar 5) (evVar 4)) [5]) evNil))) (evTup (evStar (evVar 4) (evCons (evVar 2) evNil))) [4])))))))
  (exRet (evCall (gSortK c_sized) (evCons (evVar 1) evNil)))))
def c_pits_of : CM := runB false 6 m_pits_of
/-! sum_of -/
abbrev N_sum_of : List Str := ["worths", "lot", "block"]
def m_sum_of : SM := (exRet (evCall gSum (evCons (evComp (ivSeq (evVar 1)) (tgName [] 2) tvYes (evBin gIx (evVar 0) (evVar 2)) [2]) evNil)))
def c_sum_of : CM := runB false 3 m_sum_of
/-! greatest_of -/
abbrev N_greatest_of : List Str := ["worths", "some", "pit"]
def m_greatest_of : SM := (exRet (evCall (gMM PySem.W.maxD) (evCons (evComp (ivSeq (evVar 1)) (tgName [] 2) tvYes (evCallL 2 c_sum_of (evCons (evVar 0) (evCons (evVar 2) evNil))) [2]) evNil)))
def c_greatest_of : CM := runB false 3 m_greatest_of
/-! best_pits -/
abbrev N_best_pits : List Str := ["ground", "worths", "some", "most", "pit"]
def m_best_pits : SM := (exSeq (exAsg [] 2 (evCallL 1 c_pits_of (evCons (evVar 0) evNil)))
  (exSeq (exAsg [] 3 (evCallL 2 c_greatest_of (evCons (evVar 1) (evCons (evVar 2) evNil))))
  (exRet (evComp (ivSeq (evVar 2)) (tgName [] 4) (tvB (evBin gEqD (evCallL 2 c_sum_of (evCons (evVar 1) (evCons (evVar 4) evNil))) (evVar 3))) (evVar 4) [4]))))
def c_best_pits : CM := runB false 5 m_best_pits
/-! least_best -/
abbrev N_least_best : List Str := ["ground", "worths"]
def m_least_best : SM := (exSeq (exExpr (evCallL 2 c_need_worths (evCons (evVar 0) (evCons (evVar 1) evNil))))
  (exRet (evBin gIx (evCallL 2 c_best_pits (evCons (evVar 0) (evCons (evVar 1) evNil))) (evC (.int 0)))))
def c_least_best : CM := runB false 2 m_least_best
/-! Ground.__eq__ -/
abbrev N_Ground___eq__ : List Str := ["self", "other"]
def m_Ground___eq__ : SM := (exRet (evAnd (evIsi [.cls 0] (evVar 1)) (evBin gEqD (evUn (fldD (fnsOf cs) "table") (evVar 0)) (evUn (fldD (fnsOf cs) "table") (evVar 1)))))
def c_Ground___eq__ : CM := runB false 2 m_Ground___eq__
/-! == of instances -/
def eqT : Int → Option (Nat × CM)
  | 0 => some (2, c_Ground___eq__)
  | _ => none
/-! _law_told -/
abbrev N__law_told : List Str := ["_law_ground", "_law_order_here", "_law_found", "error"]
def m__law_told : SM := (exSeq (exAsg [] 2 (evC (.str "order")))
  (exSeq (exTry false ["BadOrder"] (exNoF (exAsgX [] 2 (evX (fun m => evUn (propD (fnsOf cs) 0 "table") m) (evCallL 2 c_renamed (evCons (evVar 0) (evCons (evVar 1) evNil)))))) [(["BadOrder"], exAs [] 3 2 "order")])
  (exRet (evVar 2))))
def c__law_told : CM := runB false 4 m__law_told
/-! all_pits -/
abbrev N_all_pits : List Str := ["ground"]
def m_all_pits : SM := (exSeq (exExpr (evCallL 1 c_need_ground (evCons (evVar 0) evNil)))
  (exRet (evCallL 1 c_pits_of (evCons (evVar 0) evNil))))
def c_all_pits : CM := runB false 1 m_all_pits
/-! best_worth -/
abbrev N_best_worth : List Str := ["ground", "worths"]
def m_best_worth : SM := (exSeq (exExpr (evCallL 2 c_need_worths (evCons (evVar 0) (evCons (evVar 1) evNil))))
  (exRet (evCallL 2 c_greatest_of (evCons (evVar 1) (evCons (evCallL 1 c_pits_of (evCons (evVar 0) evNil)) evNil)))))
def c_best_worth : CM := runB false 2 m_best_worth
/-! law -/
abbrev N_law : List Str := ["_law_script", "_law_row", "_law_covers_here", "_law_ground", "_law_many", "_law_order_here", "_law_due", "_law_other", "_law_worths_here", "_law_moved", "_law_pits", "_law_back", "_law_left", "_law_mixed", "_law_turn", "_law_wrong", "_law_odd", "_law_block", "_law_one", "_law_pit", "_law_k", "_law_value"]
def m_law : SM := (exSeq (exAsg [] 1 (evLst (evCons (evVar 0) (evCons (evC (.int 0)) (evCons (evC (.int 1503)) (evCons (evC (.int 0)) evNil))))))
  (exSeq (exAsg [] 2 (evCallI 2 c__law_covers (evCons (evVar 1) (evCons (evC (.int 8)) evNil))))
  (exSeq (exPar [] [3, 4, 5] (evCons (evMake 0 2 c_Ground___init__ (evCons (evVar 2) evNil)) (evCons (evCall gLen (evCons (evVar 2) evNil)) (evCons (evCallI 2 c__law_order (evCons (evVar 1) (evCons (evVar 2) evNil))) evNil))))
  (exSeq (exAsg [] 6 (evCall gTuple (evCons (evComp (ivSeq (evVar 5)) (tgName [] 17) tvYes (evCall gTuple (evCons (evCall gSorted (evCons (evComp (ivSeq (evBin gIx (evVar 2) (evVar 17))) (tgName [] 18) tvYes (evTIx (evVar 5) (evVar 18)) [18]) evNil)) evNil)) [17]) evNil)))
  (exSeq (exIf (tvNot (tvB (evCallL 2 (c__law_alike 8) (evCons (evCallL 2 c__law_told (evCons (evVar 3) (evCons (evVar 5) evNil))) (evCons (evVar 6) evNil))))) (exRet (evC (.bool false))) exPass)
  (exSeq (exPar [] [7, 8] (evCons (evNoX (evCallL 2 c_renamed (evCons (evVar 3) (evCons (evVar 5) evNil)))) (evCons (evCallI 2 c__law_worths (evCons (evVar 1) (evCons (evVar 4) evNil))) evNil)))
  (exSeq (exAsg [] 9 (evCall gTuple (evCons (evComp (ivSeq (evVar 5)) (tgName [] 17) tvYes (evBin gIx (evVar 8) (evVar 17)) [17]) evNil)))
  (exSeq (exAsg [] 10 (evComp (ivSeq (evCallL 1 c_all_pits (evCons (evVar 7) evNil))) (tgName [] 19) tvYes (evCall gTuple (evCons (evCall gSorted (evCons (evComp (ivSeq (evVar 19)) (tgName [] 17) tvYes (evBin gIx (evVar 5) (evVar 17)) [17]) evNil)) evNil)) [19]))
  (exSeq (exIf (tvOr (tvB (evBin gNeD (evCall gSortedU (evCons (evVar 10) evNil)) (evCall gSortedU (evCons (evCallL 1 c_all_pits (evCons (evVar 3) evNil)) evNil)))) (tvB (evBin gNeD (evCallL 2 c_best_worth (evCons (evVar 7) (evCons (evVar 9) evNil))) (evCallL 2 c_best_worth (evCons (evVar 3) (evCons (evVar 8) evNil)))))) (exRet (evC (.bool false))) exPass)
  (exSeq (exIf (tvB (evBin gNeD (evCall gTuple (evCons (evCall gSorted (evCons (evComp (ivSeq (evCallL 2 c_least_best (evCons (evVar 7) (evCons (evVar 9) evNil)))) (tgName [] 17) tvYes (evBin gIx (evVar 5) (evVar 17)) [17]) evNil)) evNil)) (evCallL 2 c_least_best (evCons (evVar 3) (evCons (evVar 8) evNil))))) (exRet (evC (.bool false))) exPass)
  (exSeq (exAsg [] 11 (evCall gTupleX (evCons (evComp (ivArgs rng1 (evCons (evVar 4) evNil)) (tgName [] 17) tvYes (evTIx (evVar 5) (evVar 17)) [17]) evNil)))
  (exSeq (exIf (tvNot (tvB (evEqO eqT (evNoX (evCallL 2 c_renamed (evCons (evVar 7) (evCons (evVar 11) evNil)))) (evVar 3)))) (exRet (evC (.bool false))) exPass)
  (exSeq (exPar [] [12, 13] (evCons (evUn gLRg1 (evVar 4)) (evCons (evTupX evNil) evNil)))
  (exSeq (exPre ([14], []) (exFor (ivArgs rng1 (evCons (evVar 4) evNil)) (tgName [] 14) (exKill [14] (exAsg [] 13 (evBin gAddX (evVar 13) (evTupX (evCons (evMut fPopAt 12 (evCons (evCallI 2 c__law_taken (evCons (evVar 1) (evCons (evCall gLen (evCons (evVar 12) evNil)) evNil))) evNil)) evNil)))))))
  (exSeq (exAsg [] 15 (evComp (ivArgs rng1 (evCons (evVar 4) evNil)) (tgName [] 20) (tvB (evBin gNeD (evComp (ivSeq (evBin gIx (evVar 2) (evBin gIx (evVar 13) (evVar 20)))) (tgName [] 18) (tvB (evBin gNotInD (evVar 18) (evSlX (evVar 13) opNone (opSome (evVar 20))))) (evVar 18) [18]) (evLst evNil))) (evVar 20) [20]))
  (exSeq (exIf (tvB (evBin gNeD (evBin gEqD (evCallL 2 c__law_told (evCons (evVar 3) (evCons (evVar 13) evNil))) (evC (.str "order"))) (evBin gNeD (evVar 15) (evLst evNil)))) (exRet (evC (.bool false))) exPass)
  (exSeq (exAsg [] 16 (evLst (evCons (evC .none) (evCons (evCall gList (evCons (evVar 5) evNil)) (evCons (evSlX (evVar 5) (opSome (evC (.int 1))) opNone) (evCons (evBin gAddP (evVar 5) (evTup (evCons (evC (.int 0)) evNil))) (evCons (evIf (tvB (evBin gGtD (evVar 4) (evC (.int 1)))) (evBin gMulB (evTup (evCons (evC (.int 0)) evNil)) (evVar 4)) (evTup (evCons (evC (.int 1)) evNil))) (evCons (evBin gAdd (evSlX (evVar 5) opNone (opSome (evUn gNeg (evC (.int 1))))) (evTup (evCons (evVar 4) evNil))) (evCons (evC (.str "0")) (evCons (evC (.int 0)) evNil))))))))))
  (exSeq (exAsg [] 16 (evBin gAdd (evVar 16) (evLst (evCons (evBin gAdd (evSlX (evVar 5) opNone (opSome (evUn gNeg (evC (.int 1))))) (evTup (evCons (evC .none) evNil))) (evCons (evBin gMulB (evTup (evCons (evC (.bool true)) evNil)) (evVar 4)) (evCons (evBin gAdd (evSlX (evVar 5) opNone (opSome (evUn gNeg (evC (.int 1))))) (evTup (evCons (evLst evNil) evNil))) evNil))))))
  (exRet (evBin gEqD (evFz (evComp (ivSeq (evVar 16)) (tgName [] 21) (tvB (evBin gNeD (evCallL 2 c__law_told (evCons (evVar 3) (evCons (evVar 21) evNil))) (evC (.str "order")))) (evVar 21) [21])) (evFz (evLst evNil))))))))))))))))))))))
def c_law : CM := runB false 22 m_law
section
variable {P : Program} {w : World} {K : PySem.W.Frag} {mg : Str → Option Value} {base : Heap}
theorem sc__law_taken : FnScope N__law_taken ["_law_row", "_law_many"] (defScope (top 30)) := ⟨rfl, rfl, rfl, by decide +kernel, rfl, by decide +kernel, by decide +kernel⟩
theorem kp__law_taken (h : Fx fa fn cs K mg) : PySem.W.keepIn K (.ref (He.ga K "_law_taken")) = true := by
  obtain ⟨fd, F⟩ := h.def_ 0
  exact F.kp
theorem body__law_taken (h : Fx fa fn cs K mg) {fd : FuncData} (F : FunD K "_law_taken" "_law_taken" (defArgs (top 30)) (defBody (top 30)) (defScope (top 30)) [] [] (He.ga K "_law_taken") fd) : FnOk P w K mg base CX0 1 (He.ga K "_law_taken") fd ["_law_row", "_law_many"] (spF ⟨K, ctOf cs K⟩ true 2 c__law_taken) := by
  refine def_ok (n := 0) F sc__law_taken rfl rfl (by decide) fun cd A outer s H E hr => ?_
  exact (ssCons (sIf (qCmp (kGt hr) (nIx (nVar 0) nInt) nInt) (ssCons (sSet 2 sc__law_taken.nd (nMod (nTy uInt PyProof.Rows.boot_int (h.free 0) (aCons (nIx (nVar 0) nInt) aNil)) (nVar 1)))
  (ssCons (sSto 0 (pv 0) nInt (nFdiv (nIx (nVar 0) nInt) (nVar 1)))
  (ssOne (sRet (nVar 2))))) ssNil)
  (ssCons (sSto 0 (pv 0) nInt (nAdd (nIx (nVar 0) nInt) nInt))
  (ssCons (sIf (qCmp (kGt hr) (nIx (nVar 0) nInt) (nB uLen boot_len (h.free 1) (aCons (nIx (nVar 0) nInt) aNil))) (ssCons (sSto 0 (pv 0) nInt (nMod (nTy uInt PyProof.Rows.boot_int (h.free 0) (aCons (nAdd (nMulA (nIx (nVar 0) nInt) nInt) nInt) aNil)) nInt))
  (ssOne (sRet (nMod (nTy uInt PyProof.Rows.boot_int (h.free 0) (aCons (nFdiv (nIx (nVar 0) nInt) nInt) aNil)) (nVar 1))))) ssNil)
  (ssCons (sSet 3 sc__law_taken.nd (nIx (nIx (nVar 0) nInt) (nSub (nIx (nVar 0) nInt) nInt)))
  (ssCons (sSto 0 (pv 0) nInt (nMod (nTy uInt PyProof.Rows.boot_int (h.free 0) (aCons (nAdd (nAdd (nMulA (nIx (nVar 0) nInt) nInt) (nVar 3)) nInt) aNil)) nInt))
  (ssCons (sIf (qCmp (kGe hr) (nVar 3) (nPow nInt nInt)) (ssOne (sSto 0 (pv 0) nInt (nFdiv (nVar 3) (nVar 1)))) ssNil)
  (ssOne (sRet (nMod (nTy uInt PyProof.Rows.boot_int (h.free 0) (aCons (nVar 3) aNil)) (nVar 1))))))))))
theorem ok__law_taken (h : Fx fa fn cs K mg) : FunK P w K mg base (ctOf cs K) 1 (He.ga K "_law_taken") true 2 c__law_taken := by
  obtain ⟨fd, F⟩ := h.def_ 0
  exact ⟨fd, ["_law_row", "_law_many"], body__law_taken h F, F.bindsN fun _ _ _ _ _ _ us hl => match us, hl with | [_, _], _ => rfl⟩
theorem sc__law_covers : FnScope N__law_covers ["_law_row", "_law_most"] (defScope (top 33)) := ⟨rfl, rfl, rfl, by decide +kernel, rfl, by decide +kernel, by decide +kernel⟩
theorem kp__law_covers (h : Fx fa fn cs K mg) : PySem.W.keepIn K (.ref (He.ga K "_law_covers")) = true := by
  obtain ⟨fd, F⟩ := h.def_ 1
  exact F.kp
theorem body__law_covers (h : Fx fa fn cs K mg) {fd : FuncData} (F : FunD K "_law_covers" "_law_covers" (defArgs (top 33)) (defBody (top 33)) (defScope (top 33)) [] [] (He.ga K "_law_covers") fd) : FnOk P w K mg base CX0 2 (He.ga K "_law_covers") fd ["_law_row", "_law_most"] (spF ⟨K, ctOf cs K⟩ true 2 c__law_covers) := by
  refine def_ok (n := 1) F sc__law_covers rfl rfl (by decide) fun cd A outer s H E hr => ?_
  exact (ssCons (sParT [2, 3, 4] rfl (nnCons 2 sc__law_covers.nd (nnCons 3 sc__law_covers.nd (nnCons 4 sc__law_covers.nd nnNil))) (aCons (nLst aNil) (aCons (nCallI (ok__law_taken h) (hr.mono (by decide)) (h.glo 2) (kp__law_taken h) (aCons (nVar 0) (aCons nInt aNil))) (aCons (nAdd nInt (nCallI (ok__law_taken h) (hr.mono (by decide)) (h.glo 2) (kp__law_taken h) (aCons (nVar 0) (aCons (nVar 1) aNil)))) aNil))))
  (ssCons (sPre ([5, 6], []) (sFor [5, 6] PassesOwn.never rfl (iRng1N (h.free 3) (aCons (nVar 4) aNil)) (gNameN 5 sc__law_covers.nd) (ssCons (sSetLc 6 [("_law_one", 7)] rfl sc__law_covers.nd (blkOk_by (N := N__law_covers) (sc := defScope (top 33)) (by decide +kernel)) (iRng1N (h.free 3) (aCons (nVar 5) aNil)) (fun _ _ _ _ _ => (gNameN 7 sc__law_covers.nd)) (fun _ _ _ _ _ => (tsOne (qCmp (kEq hr) (nCallI (ok__law_taken h) (hr.mono (by decide)) (h.glo 2) (kp__law_taken h) (aCons (nVar 0) (aCons nInt aNil))) nInt))) (fun _ _ _ _ _ => (nVar 7)))
  (ssCons (sIf (qCmp (kEq hr) (nVar 3) nInt) (ssOne (sSet 6 sc__law_covers.nd (nLst aNil))) ssNil)
  (ssCons (sIf (qCmp (kEq hr) (nVar 3) nInt) (ssOne (sSet 6 sc__law_covers.nd (nSl (nLRg1 rfl (h.free 4) (h.free 3) (nVar 5)) (oSome (nNeg nInt)) oNone))) ssNil)
  (ssCons (sIf (qCmp (kEq hr) (nVar 3) nInt) (ssOne (sSetLc 6 [("_law_one", 7)] rfl sc__law_covers.nd (blkOk_by (N := N__law_covers) (sc := defScope (top 33)) (by decide +kernel)) (iRng1N (h.free 3) (aCons (nVar 5) aNil)) (fun _ _ _ _ _ => (gNameN 7 sc__law_covers.nd)) (fun _ _ _ _ _ => (tsOne (qChain (kLt hr) (kLe hr) (nMulA nInt (nVar 7)) (nVar 4) (nMulA nInt (nVar 5))))) (fun _ _ _ _ _ => (nVar 7)))) ssNil)
  (ssCons (sIf (qCmp (kEq hr) (nVar 3) nInt) (ssOne (sSetLc 6 [("_law_one", 7)] rfl sc__law_covers.nd (blkOk_by (N := N__law_covers) (sc := defScope (top 33)) (by decide +kernel)) (iSeqN (nVar 6)) (fun _ _ _ _ _ => (gNameN 7 sc__law_covers.nd)) (fun _ _ _ _ _ => (tsOne (qCmp (kLt hr) (nSub (nVar 5) (nVar 7)) nInt))) (fun _ _ _ _ _ => (nVar 7)))) ssNil)
  (ssOne (sExpr (nAppend 2 (pv 2) (aCons (nTy uTuple PyProof.Rows.boot_tuple (h.free 5) (aCons (nVar 6) aNil)) aNil)))))))))))
  (ssOne (sRet (nTy uTuple PyProof.Rows.boot_tuple (h.free 5) (aCons (nVar 2) aNil))))))
theorem ok__law_covers (h : Fx fa fn cs K mg) : FunK P w K mg base (ctOf cs K) 2 (He.ga K "_law_covers") true 2 c__law_covers := by
  obtain ⟨fd, F⟩ := h.def_ 1
  exact ⟨fd, ["_law_row", "_law_most"], body__law_covers h F, F.bindsN fun _ _ _ _ _ _ us hl => match us, hl with | [_, _], _ => rfl⟩
theorem sc_rises : FnScope N_rises ["value"] (defScope (top 9)) := ⟨rfl, rfl, rfl, by decide +kernel, rfl, by decide +kernel, by decide +kernel⟩
theorem kp_rises (h : Fx fa fn cs K mg) : PySem.W.keepIn K (.ref (He.ga K "rises")) = true := by
  obtain ⟨fd, F⟩ := h.def_ 2
  exact F.kp
theorem body_rises (h : Fx fa fn cs K mg) {fd : FuncData} (F : FunD K "rises" "rises" (defArgs (top 9)) (defBody (top 9)) (defScope (top 9)) [] [] (He.ga K "rises") fd) : FnOk P w K mg base CX0 1 (He.ga K "rises") fd ["value"] (spF ⟨K, ctOf cs K⟩ false 1 c_rises) := by
  refine def_ok (n := 0) F sc_rises rfl rfl (by decide) fun cd A outer s H E hr => ?_
  exact (ssOne (sRet (nB (uAll rfl) PyProof.Rows.boot_all (h.free 6) (aCons (nComp [("at", 1)] rfl sc_rises.nd (blkOk_by (N := N_rises) (sc := defScope (top 9)) (by decide +kernel)) (iRng2N (h.free 3) (aCons nInt (aCons (nB uLen boot_len (h.free 1) (aCons (nVar 0) aNil)) aNil))) (fun _ _ _ _ _ => (gNameN 1 sc_rises.nd)) (fun _ _ _ _ _ => tsNil) (fun _ _ _ _ _ => (nCmp (kLt hr) (nIx (nVar 0) (nSub (nVar 1) nInt)) (nIx (nVar 0) (nVar 1))))) aNil))))
theorem ok_rises (h : Fx fa fn cs K mg) : FunK P w K mg base (ctOf cs K) 1 (He.ga K "rises") false 1 c_rises := by
  obtain ⟨fd, F⟩ := h.def_ 2
  exact ⟨fd, ["value"], body_rises h F, F.bindsN fun _ _ _ _ _ _ us hl => match us, hl with | [_], _ => rfl⟩
theorem sc_is_from : FnScope N_is_from ["value", "low", "high"] (defScope (top 8)) := ⟨rfl, rfl, rfl, by decide +kernel, rfl, by decide +kernel, by decide +kernel⟩
theorem kp_is_from (h : Fx fa fn cs K mg) : PySem.W.keepIn K (.ref (He.ga K "is_from")) = true := by
  obtain ⟨fd, F⟩ := h.def_ 3
  exact F.kp
theorem body_is_from (h : Fx fa fn cs K mg) {fd : FuncData} (F : FunD K "is_from" "is_from" (defArgs (top 8)) (defBody (top 8)) (defScope (top 8)) [] [] (He.ga K "is_from") fd) : FnOk P w K mg base CX0 1 (He.ga K "is_from") fd ["value", "low", "high"] (spF ⟨K, ctOf cs K⟩ false 3 c_is_from) := by
  refine def_ok (n := 0) F sc_is_from rfl rfl (by decide) fun cd A outer s H E hr => ?_
  exact (ssOne (sRet (nAnd (nIsi h.isi (.ty "int") (pTy PyProof.Rows.boot_int (h.free 0)) (h.free 7) (nVar 0)) (nAnd (nNot (nIsi h.isi (.ty "bool") (pTy PyProof.Rows.boot_bool (h.free 8)) (h.free 7) (nVar 0))) (nOne (nChain (kLe hr) (kLe hr) (nVar 1) (nVar 0) (nVar 2)))))))
theorem ok_is_from (h : Fx fa fn cs K mg) : FunK P w K mg base (ctOf cs K) 1 (He.ga K "is_from") false 3 c_is_from := by
  obtain ⟨fd, F⟩ := h.def_ 3
  exact ⟨fd, ["value", "low", "high"], body_is_from h F, F.bindsN fun _ _ _ _ _ _ us hl => match us, hl with | [_, _, _], _ => rfl⟩
theorem sc_is_cover : FnScope N_is_cover ["value", "block"] (defScope (top 10)) := ⟨rfl, rfl, rfl, by decide +kernel, rfl, by decide +kernel, by decide +kernel⟩
theorem kp_is_cover (h : Fx fa fn cs K mg) : PySem.W.keepIn K (.ref (He.ga K "is_cover")) = true := by
  obtain ⟨fd, F⟩ := h.def_ 4
  exact F.kp
theorem body_is_cover (h : Fx fa fn cs K mg) {fd : FuncData} (F : FunD K "is_cover" "is_cover" (defArgs (top 10)) (defBody (top 10)) (defScope (top 10)) [] [] (He.ga K "is_cover") fd) : FnOk P w K mg base CX0 2 (He.ga K "is_cover") fd ["value", "block"] (spF ⟨K, ctOf cs K⟩ false 2 c_is_cover) := by
  refine def_ok (n := 1) F sc_is_cover rfl rfl (by decide) fun cd A outer s H E hr => ?_
  exact (ssOne (sRet (nAnd (nIsi h.isi (.ty "tuple") (pTy PyProof.Rows.boot_tuple (h.free 5)) (h.free 7) (nVar 0)) (nAnd (nB (uAll rfl) PyProof.Rows.boot_all (h.free 6) (aCons (nComp [("one", 2)] rfl sc_is_cover.nd (blkOk_by (N := N_is_cover) (sc := defScope (top 10)) (by decide +kernel)) (iSeqN (nVar 0)) (fun _ _ _ _ _ => (gNameN 2 sc_is_cover.nd)) (fun _ _ _ _ _ => tsNil) (fun _ _ _ _ _ => (nCall (ok_is_from h) (hr.mono (by decide)) (h.glo 9) (kp_is_from h) (aCons (nVar 2) (aCons nInt (aCons (nSub (nVar 1) nInt) aNil)))))) aNil)) (nOne (nCall (ok_rises h) (hr.mono (by decide)) (h.glo 10) (kp_rises h) (aCons (nVar 0) aNil)))))))
theorem ok_is_cover (h : Fx fa fn cs K mg) : FunK P w K mg base (ctOf cs K) 2 (He.ga K "is_cover") false 2 c_is_cover := by
  obtain ⟨fd, F⟩ := h.def_ 4
  exact ⟨fd, ["value", "block"], body_is_cover h F, F.bindsN fun _ _ _ _ _ _ us hl => match us, hl with | [_, _], _ => rfl⟩
theorem sc_Ground___init__ : FnScope N_Ground___init__ ["self", "covers"] (defScope (mth 11 0)) := ⟨rfl, rfl, rfl, by decide +kernel, rfl, by decide +kernel, by decide +kernel⟩
theorem body_Ground___init__ (h : Fx fa fn cs K mg) {fd : FuncData} (F : FunD K "__init__" "Ground.__init__" (defArgs (mth 11 0)) (defBody (mth 11 0)) (defScope (mth 11 0)) [] [] (He.ma K (He.ga K "Ground") "__init__") fd) : FnOk P w K mg base CX0 3 (He.ma K (He.ga K "Ground") "__init__") fd ["self", "covers"] (spF ⟨K, ctOf cs K⟩ true 2 c_Ground___init__) := by
  refine def_ok (n := 2) F sc_Ground___init__ rfl rfl (by decide) fun cd A outer s H E hr => ?_
  exact (ssCons (sIf (qW (wOr (qNot (qVal (nIsi h.isi (.ty "tuple") (pTy PyProof.Rows.boot_tuple (h.free 5)) (h.free 7) (nVar 1)))) (wOr1 (qNot (qChain (kLe hr) (kLe hr) nInt (nB uLen boot_len (h.free 1) (aCons (nVar 1) aNil)) (nGInt (h.int 11))))))) (ssOne sBad) ssNil)
  (ssCons (sPre ([2, 3], []) (sFor [2, 3] PassesOwn.never rfl (iEnumN (h.free 12) (nVar 1)) (gTupN rfl (gsConsN (gNameN 2 sc_Ground___init__.nd) (gsConsN (gNameN 3 sc_Ground___init__.nd) gsNilN))) (ssOne (sIf (qNot (qVal (nCall (ok_is_cover h) (hr.mono (by decide)) (h.glo 13) (kp_is_cover h) (aCons (nVar 3) (aCons (nVar 2) aNil))))) (ssOne sBad) ssNil))))
  (ssOne (sFldN 0 (exK_fld h.ex rfl) (pv 0) (nVar 1)))))
theorem ok_Ground___init__ (h : Fx fa fn cs K mg) : FunK P w K mg base (ctOf cs K) 3 (He.ma K (He.ga K "Ground") "__init__") true 2 c_Ground___init__ := by
  obtain ⟨fd, F⟩ := h.def_ 5
  exact ⟨fd, ["self", "covers"], body_Ground___init__ h F, F.bindsN fun _ _ _ _ _ _ us hl => match us, hl with | [_, _], _ => rfl⟩
theorem sc__law_pick : FnScope N__law_pick ["_law_row", "_law_things"] (defScope (top 31)) := ⟨rfl, rfl, rfl, by decide +kernel, rfl, by decide +kernel, by decide +kernel⟩
theorem kp__law_pick (h : Fx fa fn cs K mg) : PySem.W.keepIn K (.ref (He.ga K "_law_pick")) = true := by
  obtain ⟨fd, F⟩ := h.def_ 6
  exact F.kp
theorem body__law_pick (h : Fx fa fn cs K mg) {fd : FuncData} (F : FunD K "_law_pick" "_law_pick" (defArgs (top 31)) (defBody (top 31)) (defScope (top 31)) [] [] (He.ga K "_law_pick") fd) : FnOk P w K mg base CX0 2 (He.ga K "_law_pick") fd ["_law_row", "_law_things"] (spF ⟨K, ctOf cs K⟩ true 2 c__law_pick) := by
  refine def_ok (n := 1) F sc__law_pick rfl rfl (by decide) fun cd A outer s H E hr => ?_
  exact (ssOne (sRet (nIx (nVar 1) (nCallI (ok__law_taken h) (hr.mono (by decide)) (h.glo 2) (kp__law_taken h) (aCons (nVar 0) (aCons (nB uLen boot_len (h.free 1) (aCons (nVar 1) aNil)) aNil))))))
theorem ok__law_pick (h : Fx fa fn cs K mg) : FunK P w K mg base (ctOf cs K) 2 (He.ga K "_law_pick") true 2 c__law_pick := by
  obtain ⟨fd, F⟩ := h.def_ 6
  exact ⟨fd, ["_law_row", "_law_things"], body__law_pick h F, F.bindsN fun _ _ _ _ _ _ us hl => match us, hl with | [_, _], _ => rfl⟩
theorem sc__law_order : FnScope N__law_order ["_law_row", "_law_covers_here"] (defScope (top 35)) := ⟨rfl, rfl, rfl, by decide +kernel, rfl, by decide +kernel, by decide +kernel⟩
theorem kp__law_order (h : Fx fa fn cs K mg) : PySem.W.keepIn K (.ref (He.ga K "_law_order")) = true := by
  obtain ⟨fd, F⟩ := h.def_ 7
  exact F.kp
theorem body__law_order (h : Fx fa fn cs K mg) {fd : FuncData} (F : FunD K "_law_order" "_law_order" (defArgs (top 35)) (defBody (top 35)) (defScope (top 35)) [] [] (He.ga K "_law_order") fd) : FnOk P w K mg base CX0 3 (He.ga K "_law_order") fd ["_law_row", "_law_covers_here"] (spF ⟨K, ctOf cs K⟩ true 2 c__law_order) := by
  refine def_ok (n := 2) F sc__law_order rfl rfl (by decide) fun cd A outer s H E hr => ?_
  exact (ssCons (sSet 2 sc__law_order.nd (nTupX aNil))
  (ssCons (sPre ([3, 4, 5], []) (sFor [3, 4, 5] PassesOwn.never rfl (iRng1N (h.free 3) (aCons (nB uLen boot_len (h.free 1) (aCons (nVar 1) aNil)) aNil)) (gNameN 3 sc__law_order.nd) (ssCons (sSetLc 4 [("_law_k", 6)] rfl sc__law_order.nd (blkOk_by (N := N__law_order) (sc := defScope (top 35)) (by decide +kernel)) (iRng1N (h.free 3) (aCons (nB uLen boot_len (h.free 1) (aCons (nVar 1) aNil)) aNil)) (fun _ _ _ _ _ => (gNameN 6 sc__law_order.nd)) (fun _ _ _ _ _ => (tsOne (qCmp (kNotInX hr) (nVar 6) (nVar 2)))) (fun _ _ _ _ _ => (nVar 6)))
  (ssCons (sSetLc 5 [("_law_k", 6)] rfl sc__law_order.nd (blkOk_by (N := N__law_order) (sc := defScope (top 35)) (by decide +kernel)) (iSeqN (nVar 4)) (fun _ _ _ _ _ => (gNameN 6 sc__law_order.nd)) (fun _ _ _ _ _ => (tsOne (qCmp (kEq hr) (nComp [("_law_one", 7)] rfl sc__law_order.nd (blkOk_by (by kernel_rfl)) (iSeqN (nIx (nVar 1) (nVar 6))) (fun _ _ _ _ _ => (gNameN 7 sc__law_order.nd)) (fun _ _ _ _ _ => (tsOne (qCmp (kNotInX hr) (nVar 7) (nVar 2)))) (fun _ _ _ _ _ => (nVar 7))) (nLst aNil)))) (fun _ _ _ _ _ => (nVar 6)))
  (ssOne (sSet 2 sc__law_order.nd (nAddXX (nVar 2) (nTupX (aCons (nCallI (ok__law_pick h) (hr.mono (by decide)) (h.glo 14) (kp__law_pick h) (aCons (nVar 0) (aCons (nVar 5) aNil))) aNil)))))))))
  (ssOne (sRet (nVar 2)))))
theorem ok__law_order (h : Fx fa fn cs K mg) : FunK P w K mg base (ctOf cs K) 3 (He.ga K "_law_order") true 2 c__law_order := by
  obtain ⟨fd, F⟩ := h.def_ 7
  exact ⟨fd, ["_law_row", "_law_covers_here"], body__law_order h F, F.bindsN fun _ _ _ _ _ _ us hl => match us, hl with | [_, _], _ => rfl⟩
theorem sc__law_alike : FnScope N__law_alike ["_law_found", "_law_due"] (defScope (top 32)) := ⟨rfl, rfl, rfl, by decide +kernel, rfl, by decide +kernel, by decide +kernel⟩
theorem kp__law_alike (h : Fx fa fn cs K mg) : PySem.W.keepIn K (.ref (He.ga K "_law_alike")) = true := by
  obtain ⟨fd, F⟩ := h.def_ 8
  exact F.kp
theorem ok__law_alike (h : Fx fa fn cs K mg) : ∀ t : Nat, FunK P w K mg base (ctOf cs K) (1 + t) (He.ga K "_law_alike") false 2 (c__law_alike t)
  | 0 => by
    obtain ⟨fd, F⟩ := h.def_ 8
    exact ⟨fd, ["_law_found", "_law_due"], bot_ok rfl, F.bindsN fun _ _ _ _ _ _ us hl => match us, hl with | [_, _], _ => rfl⟩
  | t + 1 => by
    have self := ok__law_alike h t
    obtain ⟨fd, F⟩ := h.def_ 8
    refine ⟨fd, ["_law_found", "_law_due"], def_ok (n := 1 + t) F sc__law_alike rfl rfl (by decide) fun cd A outer s H E hr => ?_, F.bindsN fun _ _ _ _ _ _ us hl => match us, hl with | [_, _], _ => rfl⟩
    exact (ssCons (sIf (qVal (nIsiT h.isi (ncCons (.ty "tuple") (pTy PyProof.Rows.boot_tuple (h.free 5)) (ncCons (.ty "list") (pTy PyProof.Rows.boot_list (h.free 4)) ncNil)) (h.free 7) (nVar 1))) (ssCons (sIf (qW (wOr (qNot (qVal (nIsiT h.isi (ncCons (.ty "tuple") (pTy PyProof.Rows.boot_tuple (h.free 5)) (ncCons (.ty "list") (pTy PyProof.Rows.boot_list (h.free 4)) ncNil)) (h.free 7) (nVar 0)))) (wOr1 (qCmp (kNe hr) (nIsi h.isi (.ty "list") (pTy PyProof.Rows.boot_list (h.free 4)) (h.free 7) (nVar 0)) (nIsi h.isi (.ty "list") (pTy PyProof.Rows.boot_list (h.free 4)) (h.free 7) (nVar 1)))))) (ssOne (sRet nBl)) ssNil)
  (ssCons (sIf (qCmp (kNe hr) (nB uLen boot_len (h.free 1) (aCons (nVar 0) aNil)) (nB uLen boot_len (h.free 1) (aCons (nVar 1) aNil))) (ssOne (sRet nBl)) ssNil)
  (ssOne (sRet (nCmp (kEq hr) (nComp [("_law_k", 2)] rfl sc__law_alike.nd (blkOk_by (N := N__law_alike) (sc := defScope (top 32)) (by decide +kernel)) (iRng1N (h.free 3) (aCons (nB uLen boot_len (h.free 1) (aCons (nVar 1) aNil)) aNil)) (fun _ _ _ _ _ => (gNameN 2 sc__law_alike.nd)) (fun _ _ _ _ _ => (tsOne (qNot (qVal (nCall self (hr.mono (by omega)) (h.glo 15) (kp__law_alike h) (aCons (nIx (nVar 0) (nVar 2)) (aCons (nIx (nVar 1) (nVar 2)) aNil))))))) (fun _ _ _ _ _ => (nVar 2))) (nLst aNil)))))) ssNil)
  (ssCons (sIf (qW (wOr (qCmp (kIs hr) (nVar 1) nNon) (wOr1 (qVal (nIsi h.isi (.ty "str") (pTy PyProof.Rows.boot_str (h.free 16)) (h.free 7) (nVar 1)))))) (ssOne (sRet (nAnd (nCmp (kEq hr) (nVar 0) (nVar 1)) (nOne (nCmp (kEq hr) (nIsi h.isi (.ty "str") (pTy PyProof.Rows.boot_str (h.free 16)) (h.free 7) (nVar 0)) (nIsi h.isi (.ty "str") (pTy PyProof.Rows.boot_str (h.free 16)) (h.free 7) (nVar 1))))))) ssNil)
  (ssOne (sRet (nAnd (nIsi h.isi (.ty "int") (pTy PyProof.Rows.boot_int (h.free 0)) (h.free 7) (nVar 0)) (nAnd (nCmp (kEq hr) (nIsi h.isi (.ty "bool") (pTy PyProof.Rows.boot_bool (h.free 8)) (h.free 7) (nVar 0)) (nIsi h.isi (.ty "bool") (pTy PyProof.Rows.boot_bool (h.free 8)) (h.free 7) (nVar 1))) (nOne (nCmp (kEq hr) (nVar 0) (nVar 1)))))))))
theorem sc_need_ground : FnScope N_need_ground ["ground"] (defScope (top 12)) := ⟨rfl, rfl, rfl, by decide +kernel, rfl, by decide +kernel, by decide +kernel⟩
theorem kp_need_ground (h : Fx fa fn cs K mg) : PySem.W.keepIn K (.ref (He.ga K "need_ground")) = true := by
  obtain ⟨fd, F⟩ := h.def_ 9
  exact F.kp
theorem body_need_ground (h : Fx fa fn cs K mg) {fd : FuncData} (F : FunD K "need_ground" "need_ground" (defArgs (top 12)) (defBody (top 12)) (defScope (top 12)) [] [] (He.ga K "need_ground") fd) : FnOk P w K mg base CX0 1 (He.ga K "need_ground") fd ["ground"] (spF ⟨K, ctOf cs K⟩ false 1 c_need_ground) := by
  refine def_ok (n := 0) F sc_need_ground rfl rfl (by decide) fun cd A outer s H E hr => ?_
  exact (ssOne (sIf (qNot (qVal (nIsi h.isi (.cls (c := 0) rfl) (pCl (h.glo 17)) (h.free 7) (nVar 0)))) (ssOne sBad) ssNil))
theorem ok_need_ground (h : Fx fa fn cs K mg) : FunK P w K mg base (ctOf cs K) 1 (He.ga K "need_ground") false 1 c_need_ground := by
  obtain ⟨fd, F⟩ := h.def_ 9
  exact ⟨fd, ["ground"], body_need_ground h F, F.bindsN fun _ _ _ _ _ _ us hl => match us, hl with | [_], _ => rfl⟩
theorem sc_Ground___len__ : FnScope N_Ground___len__ ["self"] (defScope (mth 11 2)) := ⟨rfl, rfl, rfl, by decide +kernel, rfl, by decide +kernel, by decide +kernel⟩
theorem body_Ground___len__ (h : Fx fa fn cs K mg) {fd : FuncData} (F : FunD K "__len__" "Ground.__len__" (defArgs (mth 11 2)) (defBody (mth 11 2)) (defScope (mth 11 2)) [] [] (He.ma K (He.ga K "Ground") "__len__") fd) : FnOk P w K mg base CX0 1 (He.ma K (He.ga K "Ground") "__len__") fd ["self"] (spF ⟨K, ctOf cs K⟩ false 1 c_Ground___len__) := by
  refine def_ok (n := 0) F sc_Ground___len__ rfl rfl (by decide) fun cd A outer s H E hr => ?_
  exact (ssOne (sRet (nB uLen boot_len (h.free 1) (aCons (nFld (exK_fld h.ex rfl) (nVar 0)) aNil))))
theorem ok_Ground___len__ (h : Fx fa fn cs K mg) : FunK P w K mg base (ctOf cs K) 1 (He.ma K (He.ga K "Ground") "__len__") false 1 c_Ground___len__ := by
  obtain ⟨fd, F⟩ := h.def_ 10
  exact ⟨fd, ["self"], body_Ground___len__ h F, F.bindsN fun _ _ _ _ _ _ us hl => match us, hl with | [_], _ => rfl⟩
theorem len_ok (h : Fx fa fn cs K mg) {X : Cx} (e1 : X.prog = P := by rfl) (e2 : X.w = w := by rfl) (e3 : X.K = K := by rfl) (e4 : X.mg = mg := by rfl) (e5 : X.base = base := by rfl) : LenOk (kx X (ctOf cs K)) X 1 lmT := by
  subst e1 e2 e3 e4 e5
  intro c np cm C ns e1 e2
  unfold lmT at e1
  split at e1
  · cases e1
    cases (show some (He.ga X.K "Ground", _) = some (C, ns) from e2)
    obtain ⟨fd, ps, F, hb⟩ := ok_Ground___len__ (P := X.prog) (w := X.w) (base := X.base) h
    exact ⟨_, fd, ps, _, (h.meth 18).at_, (h.meth 18).fn, hb, F⟩
  · cases e1
theorem sc_is_block : FnScope N_is_block ["ground", "value"] (defScope (top 13)) := ⟨rfl, rfl, rfl, by decide +kernel, rfl, by decide +kernel, by decide +kernel⟩
theorem kp_is_block (h : Fx fa fn cs K mg) : PySem.W.keepIn K (.ref (He.ga K "is_block")) = true := by
  obtain ⟨fd, F⟩ := h.def_ 11
  exact F.kp
theorem body_is_block (h : Fx fa fn cs K mg) {fd : FuncData} (F : FunD K "is_block" "is_block" (defArgs (top 13)) (defBody (top 13)) (defScope (top 13)) [] [] (He.ga K "is_block") fd) : FnOk P w K mg base CX0 3 (He.ga K "is_block") fd ["ground", "value"] (spF ⟨K, ctOf cs K⟩ false 2 c_is_block) := by
  refine def_ok (n := 2) F sc_is_block rfl rfl (by decide) fun cd A outer s H E hr => ?_
  exact (ssOne (sRet (nCall (ok_is_from h) (hr.mono (by decide)) (h.glo 9) (kp_is_from h) (aCons (nVar 1) (aCons nInt (aCons (nSub (nLenA (len_ok h) (hr.mono (by decide)) (h.free 1) (nVar 0)) nInt) aNil))))))
theorem ok_is_block (h : Fx fa fn cs K mg) : FunK P w K mg base (ctOf cs K) 3 (He.ga K "is_block") false 2 c_is_block := by
  obtain ⟨fd, F⟩ := h.def_ 11
  exact ⟨fd, ["ground", "value"], body_is_block h F, F.bindsN fun _ _ _ _ _ _ us hl => match us, hl with | [_, _], _ => rfl⟩
theorem sc_is_order : FnScope N_is_order ["ground", "value"] (defScope (top 14)) := ⟨rfl, rfl, rfl, by decide +kernel, rfl, by decide +kernel, by decide +kernel⟩
theorem kp_is_order (h : Fx fa fn cs K mg) : PySem.W.keepIn K (.ref (He.ga K "is_order")) = true := by
  obtain ⟨fd, F⟩ := h.def_ 12
  exact F.kp
theorem body_is_order (h : Fx fa fn cs K mg) {fd : FuncData} (F : FunD K "is_order" "is_order" (defArgs (top 14)) (defBody (top 14)) (defScope (top 14)) [] [] (He.ga K "is_order") fd) : FnOk P w K mg base CX0 4 (He.ga K "is_order") fd ["ground", "value"] (spF ⟨K, ctOf cs K⟩ false 2 c_is_order) := by
  refine def_ok (n := 3) F sc_is_order rfl rfl (by decide) fun cd A outer s H E hr => ?_
  exact (ssCons (sIf (qW (wOr (qNot (qVal (nIsi h.isi (.ty "tuple") (pTy PyProof.Rows.boot_tuple (h.free 5)) (h.free 7) (nVar 1)))) (wOr (qCmp (kNe hr) (nB uLen boot_len (h.free 1) (aCons (nVar 1) aNil)) (nLenA (len_ok h) (hr.mono (by decide)) (h.free 1) (nVar 0))) (wOr1 (qNot (qVal (nB (uAll rfl) PyProof.Rows.boot_all (h.free 6) (aCons (nComp [("one", 2)] rfl sc_is_order.nd (blkOk_by (N := N_is_order) (sc := defScope (top 14)) (by decide +kernel)) (iSeqN (nVar 1)) (fun _ _ _ _ _ => (gNameN 2 sc_is_order.nd)) (fun _ _ _ _ _ => tsNil) (fun _ _ _ _ _ => (nCall (ok_is_block h) (hr.mono (by decide)) (h.glo 19) (kp_is_block h) (aCons (nVar 0) (aCons (nVar 2) aNil))))) aNil)))))))) (ssOne (sRet nBl)) ssNil)
  (ssCons (sIf (qCmp (kLt hr) (nLenSetT rfl (h.free 1) (h.free 20) (nVar 1)) (nB uLen boot_len (h.free 1) (aCons (nVar 1) aNil))) (ssOne (sRet nBl)) ssNil)
  (ssOne (sRet (nB (uAll rfl) PyProof.Rows.boot_all (h.free 6) (aCons (nComp2 [("one", 2), ("at", 3), ("block", 4)] rfl sc_is_order.nd (blkOk_by (N := N_is_order) (sc := defScope (top 14)) (by decide +kernel)) (iEnumN (h.free 12) (nVar 1)) (fun _ _ _ _ _ => (gTupN rfl (gsConsN (gNameN 3 sc_is_order.nd) (gsConsN (gNameN 4 sc_is_order.nd) gsNilN)))) (fun _ _ _ _ _ => tsNil) (fun _ _ _ _ _ => (iSeqN (nIx (nFld (exK_fld h.ex rfl) (nVar 0)) (nVar 4)))) (fun _ _ _ _ _ => (gNameN 2 sc_is_order.nd)) (fun _ _ _ _ _ => tsNil) (fun _ _ _ _ _ => (nCmp (kLt hr) (nTIx (nVar 1) (nVar 2)) (nVar 3)))) aNil))))))
theorem ok_is_order (h : Fx fa fn cs K mg) : FunK P w K mg base (ctOf cs K) 4 (He.ga K "is_order") false 2 c_is_order := by
  obtain ⟨fd, F⟩ := h.def_ 12
  exact ⟨fd, ["ground", "value"], body_is_order h F, F.bindsN fun _ _ _ _ _ _ us hl => match us, hl with | [_, _], _ => rfl⟩
theorem sc_need_order : FnScope N_need_order ["ground", "order"] (defScope (top 15)) := ⟨rfl, rfl, rfl, by decide +kernel, rfl, by decide +kernel, by decide +kernel⟩
theorem kp_need_order (h : Fx fa fn cs K mg) : PySem.W.keepIn K (.ref (He.ga K "need_order")) = true := by
  obtain ⟨fd, F⟩ := h.def_ 13
  exact F.kp
theorem body_need_order (h : Fx fa fn cs K mg) {fd : FuncData} (F : FunD K "need_order" "need_order" (defArgs (top 15)) (defBody (top 15)) (defScope (top 15)) [] [] (He.ga K "need_order") fd) : FnOk P w K mg base (L2.CX P w) 5 (He.ga K "need_order") fd ["ground", "order"] (spX ⟨K, ctOf cs K⟩ false 2 c_need_order) := by
  refine def_okX (n := 4) F sc_need_order rfl rfl (by decide) fun cd A outer s H E hr => ?_
  exact (ssCons (sExpr (nCall (ok_need_ground h) (hr.mono (by decide)) (h.glo 21) (kp_need_ground h) (aCons (nVar 0) aNil)))
  (ssOne (sIf (qNot (qVal (nCall (ok_is_order h) (hr.mono (by decide)) (h.glo 22) (kp_is_order h) (aCons (nVar 0) (aCons (nVar 1) aNil))))) (ssOne (nRaise0 cxX_takes (h.exc 23) (h.glo 24))) ssNil)))
theorem ok_need_order (h : Fx fa fn cs K mg) : FunKX P w K mg base (ctOf cs K) 5 (He.ga K "need_order") false 2 c_need_order := by
  obtain ⟨fd, F⟩ := h.def_ 13
  exact ⟨fd, ["ground", "order"], body_need_order h F, F.bindsN fun _ _ _ _ _ _ us hl => match us, hl with | [_, _], _ => rfl⟩
theorem sc_renamed : FnScope N_renamed ["ground", "order"] (defScope (top 16)) := ⟨rfl, rfl, rfl, by decide +kernel, rfl, by decide +kernel, by decide +kernel⟩
theorem kp_renamed (h : Fx fa fn cs K mg) : PySem.W.keepIn K (.ref (He.ga K "renamed")) = true := by
  obtain ⟨fd, F⟩ := h.def_ 14
  exact F.kp
theorem body_renamed (h : Fx fa fn cs K mg) {fd : FuncData} (F : FunD K "renamed" "renamed" (defArgs (top 16)) (defBody (top 16)) (defScope (top 16)) [] [] (He.ga K "renamed") fd) : FnOk P w K mg base (L2.CX P w) 6 (He.ga K "renamed") fd ["ground", "order"] (spX ⟨K, ctOf cs K⟩ false 2 c_renamed) := by
  refine def_okX (n := 5) F sc_renamed rfl rfl (by decide) fun cd A outer s H E hr => ?_
  exact (ssCons (sExprX (nCallX cxX_takes (ok_need_order h) (hr.mono (by decide)) (h.glo 25) (kp_need_order h) (aCons (nVar 0) (aCons (nVar 1) aNil))))
  (ssOne (sRet (nMake (ci := 0) rfl (h.mkr 27) (ok_Ground___init__ h) (hr.mono (by decide)) (h.glo 17) (aCons (nTy uTuple PyProof.Rows.boot_tuple (h.free 5) (aCons (nComp [("block", 2)] rfl sc_renamed.nd (blkOk_by (N := N_renamed) (sc := defScope (top 16)) (by decide +kernel)) (iSeqN (nVar 1)) (fun _ _ _ _ _ => (gNameN 2 sc_renamed.nd)) (fun _ _ _ _ _ => tsNil) (fun _ _ _ _ _ => (nTy uTuple PyProof.Rows.boot_tuple (h.free 5) (aCons (nB (uSorted hr) PyProof.Rows.boot_sorted (h.free 26) (aCons (nComp [("one", 3)] rfl sc_renamed.nd (blkOk_by (by kernel_rfl)) (iSeqN (nIx (nFld (exK_fld h.ex rfl) (nVar 0)) (nVar 2))) (fun _ _ _ _ _ => (gNameN 3 sc_renamed.nd)) (fun _ _ _ _ _ => tsNil) (fun _ _ _ _ _ => (nTIx (nVar 1) (nVar 3)))) aNil)) aNil)))) aNil)) aNil)))))
theorem ok_renamed (h : Fx fa fn cs K mg) : FunKX P w K mg base (ctOf cs K) 6 (He.ga K "renamed") false 2 c_renamed := by
  obtain ⟨fd, F⟩ := h.def_ 14
  exact ⟨fd, ["ground", "order"], body_renamed h F, F.bindsN fun _ _ _ _ _ _ us hl => match us, hl with | [_, _], _ => rfl⟩
theorem sc__law_worths : FnScope N__law_worths ["_law_row", "_law_many"] (defScope (top 34)) := ⟨rfl, rfl, rfl, by decide +kernel, rfl, by decide +kernel, by decide +kernel⟩
theorem kp__law_worths (h : Fx fa fn cs K mg) : PySem.W.keepIn K (.ref (He.ga K "_law_worths")) = true := by
  obtain ⟨fd, F⟩ := h.def_ 15
  exact F.kp
theorem body__law_worths (h : Fx fa fn cs K mg) {fd : FuncData} (F : FunD K "_law_worths" "_law_worths" (defArgs (top 34)) (defBody (top 34)) (defScope (top 34)) [] [] (He.ga K "_law_worths") fd) : FnOk P w K mg base CX0 2 (He.ga K "_law_worths") fd ["_law_row", "_law_many"] (spF ⟨K, ctOf cs K⟩ true 2 c__law_worths) := by
  refine def_ok (n := 1) F sc__law_worths rfl rfl (by decide) fun cd A outer s H E hr => ?_
  exact (ssCons (sPar2 2 3 rfl sc__law_worths.nd (aCons (nLst aNil) (aCons (nCallI (ok__law_taken h) (hr.mono (by decide)) (h.glo 2) (kp__law_taken h) (aCons (nVar 0) (aCons nInt aNil))) aNil)))
  (ssCons (sPre ([4, 5, 6], []) (sFor [4, 5, 6] PassesOwn.never rfl (iRng1N (h.free 3) (aCons (nVar 1) aNil)) (gNameN 4 sc__law_worths.nd) (ssCons (sPar2 5 6 rfl sc__law_worths.nd (aCons (nCallI (ok__law_taken h) (hr.mono (by decide)) (h.glo 2) (kp__law_taken h) (aCons (nVar 0) (aCons (nIx (nLst (aCons nInt (aCons nInt (aCons nInt (aCons nInt (aCons nInt (aCons nInt aNil))))))) (nVar 3)) aNil))) (aCons (nCallI (ok__law_taken h) (hr.mono (by decide)) (h.glo 2) (kp__law_taken h) (aCons (nVar 0) (aCons (nIx (nLst (aCons nInt (aCons nInt (aCons nInt (aCons nInt (aCons nInt (aCons nInt aNil))))))) (nVar 3)) aNil))) aNil)))
  (ssOne (sExpr (nAppend 2 (pv 2) (aCons (nSub (nVar 6) (nVar 5)) aNil)))))))
  (ssOne (sRet (nTy uTuple PyProof.Rows.boot_tuple (h.free 5) (aCons (nVar 2) aNil))))))
theorem ok__law_worths (h : Fx fa fn cs K mg) : FunK P w K mg base (ctOf cs K) 2 (He.ga K "_law_worths") true 2 c__law_worths := by
  obtain ⟨fd, F⟩ := h.def_ 15
  exact ⟨fd, ["_law_row", "_law_many"], body__law_worths h F, F.bindsN fun _ _ _ _ _ _ us hl => match us, hl with | [_, _], _ => rfl⟩
theorem sc_need_worths : FnScope N_need_worths ["ground", "worths"] (defScope (top 23)) := ⟨rfl, rfl, rfl, by decide +kernel, rfl, by decide +kernel, by decide +kernel⟩
theorem kp_need_worths (h : Fx fa fn cs K mg) : PySem.W.keepIn K (.ref (He.ga K "need_worths")) = true := by
  obtain ⟨fd, F⟩ := h.def_ 16
  exact F.kp
theorem body_need_worths (h : Fx fa fn cs K mg) {fd : FuncData} (F : FunD K "need_worths" "need_worths" (defArgs (top 23)) (defBody (top 23)) (defScope (top 23)) [] [] (He.ga K "need_worths") fd) : FnOk P w K mg base CX0 3 (He.ga K "need_worths") fd ["ground", "worths"] (spF ⟨K, ctOf cs K⟩ false 2 c_need_worths) := by
  refine def_ok (n := 2) F sc_need_worths rfl rfl (by decide) fun cd A outer s H E hr => ?_
  exact (ssCons (sExpr (nCall (ok_need_ground h) (hr.mono (by decide)) (h.glo 21) (kp_need_ground h) (aCons (nVar 0) aNil)))
  (ssCons (sIf (qW (wOr (qNot (qVal (nIsi h.isi (.ty "tuple") (pTy PyProof.Rows.boot_tuple (h.free 5)) (h.free 7) (nVar 1)))) (wOr1 (qCmp (kNe hr) (nB uLen boot_len (h.free 1) (aCons (nVar 1) aNil)) (nLenA (len_ok h) (hr.mono (by decide)) (h.free 1) (nVar 0)))))) (ssOne sBad) ssNil)
  (ssOne (sIf (qNot (qVal (nB (uAll rfl) PyProof.Rows.boot_all (h.free 6) (aCons (nComp [("worth", 2)] rfl sc_need_worths.nd (blkOk_by (N := N_need_worths) (sc := defScope (top 23)) (by decide +kernel)) (iSeqN (nVar 1)) (fun _ _ _ _ _ => (gNameN 2 sc_need_worths.nd)) (fun _ _ _ _ _ => tsNil) (fun _ _ _ _ _ => (nCall (ok_is_from h) (hr.mono (by decide)) (h.glo 9) (kp_is_from h) (aCons (nVar 2) (aCons (nNeg (nGInt (h.int 28))) (aCons (nGInt (h.int 28)) aNil)))))) aNil)))) (ssOne sBad) ssNil))))
theorem ok_need_worths (h : Fx fa fn cs K mg) : FunK P w K mg base (ctOf cs K) 3 (He.ga K "need_worths") false 2 c_need_worths := by
  obtain ⟨fd, F⟩ := h.def_ 16
  exact ⟨fd, ["ground", "worths"], body_need_worths h F, F.bindsN fun _ _ _ _ _ _ us hl => match us, hl with | [_, _], _ => rfl⟩
theorem sc_sized : FnScope N_sized ["lot"] (defScope (top 18)) := ⟨rfl, rfl, rfl, by decide +kernel, rfl, by decide +kernel, by decide +kernel⟩
theorem kp_sized (h : Fx fa fn cs K mg) : PySem.W.keepIn K (.ref (He.ga K "sized")) = true := by
  obtain ⟨fd, F⟩ := h.def_ 17
  exact F.kp
theorem body_sized (h : Fx fa fn cs K mg) {fd : FuncData} (F : FunD K "sized" "sized" (defArgs (top 18)) (defBody (top 18)) (defScope (top 18)) [] [] (He.ga K "sized") fd) : FnOk P w K mg base CX0 1 (He.ga K "sized") fd ["lot"] (spF ⟨K, ctOf cs K⟩ false 1 c_sized) := by
  refine def_ok (n := 0) F sc_sized rfl rfl (by decide) fun cd A outer s H E hr => ?_
  exact (ssOne (sRet (nTup (aCons (nB uLen boot_len (h.free 1) (aCons (nVar 0) aNil)) (aCons (nVar 0) aNil)))))
theorem ok_sized (h : Fx fa fn cs K mg) : FunK P w K mg base (ctOf cs K) 1 (He.ga K "sized") false 1 c_sized := by
  obtain ⟨fd, F⟩ := h.def_ 17
  exact ⟨fd, ["lot"], body_sized h F, F.bindsN fun _ _ _ _ _ _ us hl => match us, hl with | [_], _ => rfl⟩
theorem sc_pits_of : FnScope N_pits_of ["ground"] (defScope (top 19)) := ⟨rfl, rfl, rfl, by decide +kernel, rfl, by decide +kernel, by decide +kernel⟩
theorem kp_pits_of (h : Fx fa fn cs K mg) : PySem.W.keepIn K (.ref (He.ga K "pits_of")) = true := by
  obtain ⟨fd, F⟩ := h.def_ 18
  exact F.kp
theorem body_pits_of (h : Fx fa fn cs K mg) {fd : FuncData} (F : FunD K "pits_of" "pits_of" (defArgs (top 19)) (defBody (top 19)) (defScope (top 19)) [] [] (He.ga K "pits_of") fd) : FnOk P w K mg base CX0 4 (He.ga K "pits_of") fd ["ground"] (spF ⟨K, ctOf cs K⟩ false 1 c_pits_of) := by
  refine def_ok (n := 3) F sc_pits_of rfl rfl (by decide) fun cd A outer s H E hr => ?_
  exact (ssCons (sSet 1 sc_pits_of.nd (nLst (aCons (nTup aNil) aNil)))
  (ssCons (sPre ([2, 3], []) (sFor [2, 3] PassesOwn.never rfl (iRng1N (h.free 3) (aCons (nLenA (len_ok h) (hr.mono (by decide)) (h.free 1) (nVar 0)) aNil)) (gNameN 2 sc_pits_of.nd) (ssCons (sSet 3 sc_pits_of.nd (nIx (nFld (exK_fld h.ex rfl) (nVar 0)) (nVar 2)))
  (ssOne (sSet 1 sc_pits_of.nd (nAdd (nVar 1) (nComp [("lot", 4)] rfl sc_pits_of.nd (blkOk_by (N := N_pits_of) (sc := defScope (top 19)) (by decide +kernel)) (iSeqN (nVar 1)) (fun _ _ _ _ _ => (gNameN 4 sc_pits_of.nd)) (fun _ _ _ _ _ => (tsOne (qVal (nB (uAll rfl) PyProof.Rows.boot_all (h.free 6) (aCons (nComp [("one", 5)] rfl sc_pits_of.nd (blkOk_by (by kernel_rfl)) (iSeqN (nVar 3)) (fun _ _ _ _ _ => (gNameN 5 sc_pits_of.nd)) (fun _ _ _ _ _ => tsNil) (fun _ _ _ _ _ => (nCmp (kIn hr) (nVar 5) (nVar 4)))) aNil))))) (fun _ _ _ _ _ => (nTup (aStar (nVar 4) (aCons (nVar 2) aNil)))))))))))
  (ssOne (sRet (nSortK (ok_sized h) (hr.mono (by decide)) (h.free 26) (h.glo 29) (kp_sized h) (nVar 1))))))
theorem ok_pits_of (h : Fx fa fn cs K mg) : FunK P w K mg base (ctOf cs K) 4 (He.ga K "pits_of") false 1 c_pits_of := by
  obtain ⟨fd, F⟩ := h.def_ 18
  exact ⟨fd, ["ground"], body_pits_of h F, F.bindsN fun _ _ _ _ _ _ us hl => match us, hl with | [_], _ => rfl⟩
theorem sc_sum_of : FnScope N_sum_of ["worths", "lot"] (defScope (top 24)) := ⟨rfl, rfl, rfl, by decide +kernel, rfl, by decide +kernel, by decide +kernel⟩
theorem kp_sum_of (h : Fx fa fn cs K mg) : PySem.W.keepIn K (.ref (He.ga K "sum_of")) = true := by
  obtain ⟨fd, F⟩ := h.def_ 19
  exact F.kp
theorem body_sum_of (h : Fx fa fn cs K mg) {fd : FuncData} (F : FunD K "sum_of" "sum_of" (defArgs (top 24)) (defBody (top 24)) (defScope (top 24)) [] [] (He.ga K "sum_of") fd) : FnOk P w K mg base CX0 1 (He.ga K "sum_of") fd ["worths", "lot"] (spF ⟨K, ctOf cs K⟩ false 2 c_sum_of) := by
  refine def_ok (n := 0) F sc_sum_of rfl rfl (by decide) fun cd A outer s H E hr => ?_
  exact (ssOne (sRet (nB (uSum rfl) PyProof.Rows.boot_sum (h.free 30) (aCons (nComp [("block", 2)] rfl sc_sum_of.nd (blkOk_by (N := N_sum_of) (sc := defScope (top 24)) (by decide +kernel)) (iSeqN (nVar 1)) (fun _ _ _ _ _ => (gNameN 2 sc_sum_of.nd)) (fun _ _ _ _ _ => tsNil) (fun _ _ _ _ _ => (nIx (nVar 0) (nVar 2)))) aNil))))
theorem ok_sum_of (h : Fx fa fn cs K mg) : FunK P w K mg base (ctOf cs K) 1 (He.ga K "sum_of") false 2 c_sum_of := by
  obtain ⟨fd, F⟩ := h.def_ 19
  exact ⟨fd, ["worths", "lot"], body_sum_of h F, F.bindsN fun _ _ _ _ _ _ us hl => match us, hl with | [_, _], _ => rfl⟩
theorem sc_greatest_of : FnScope N_greatest_of ["worths", "some"] (defScope (top 25)) := ⟨rfl, rfl, rfl, by decide +kernel, rfl, by decide +kernel, by decide +kernel⟩
theorem kp_greatest_of (h : Fx fa fn cs K mg) : PySem.W.keepIn K (.ref (He.ga K "greatest_of")) = true := by
  obtain ⟨fd, F⟩ := h.def_ 20
  exact F.kp
theorem body_greatest_of (h : Fx fa fn cs K mg) {fd : FuncData} (F : FunD K "greatest_of" "greatest_of" (defArgs (top 25)) (defBody (top 25)) (defScope (top 25)) [] [] (He.ga K "greatest_of") fd) : FnOk P w K mg base CX0 2 (He.ga K "greatest_of") fd ["worths", "some"] (spF ⟨K, ctOf cs K⟩ false 2 c_greatest_of) := by
  refine def_ok (n := 1) F sc_greatest_of rfl rfl (by decide) fun cd A outer s H E hr => ?_
  exact (ssOne (sRet (nB (uMax rfl hr) PyProof.Rows.boot_max (h.free 32) (aCons (nComp [("pit", 2)] rfl sc_greatest_of.nd (blkOk_by (N := N_greatest_of) (sc := defScope (top 25)) (by decide +kernel)) (iSeqN (nVar 1)) (fun _ _ _ _ _ => (gNameN 2 sc_greatest_of.nd)) (fun _ _ _ _ _ => tsNil) (fun _ _ _ _ _ => (nCall (ok_sum_of h) (hr.mono (by decide)) (h.glo 31) (kp_sum_of h) (aCons (nVar 0) (aCons (nVar 2) aNil))))) aNil))))
theorem ok_greatest_of (h : Fx fa fn cs K mg) : FunK P w K mg base (ctOf cs K) 2 (He.ga K "greatest_of") false 2 c_greatest_of := by
  obtain ⟨fd, F⟩ := h.def_ 20
  exact ⟨fd, ["worths", "some"], body_greatest_of h F, F.bindsN fun _ _ _ _ _ _ us hl => match us, hl with | [_, _], _ => rfl⟩
theorem sc_best_pits : FnScope N_best_pits ["ground", "worths"] (defScope (top 26)) := ⟨rfl, rfl, rfl, by decide +kernel, rfl, by decide +kernel, by decide +kernel⟩
theorem kp_best_pits (h : Fx fa fn cs K mg) : PySem.W.keepIn K (.ref (He.ga K "best_pits")) = true := by
  obtain ⟨fd, F⟩ := h.def_ 21
  exact F.kp
theorem body_best_pits (h : Fx fa fn cs K mg) {fd : FuncData} (F : FunD K "best_pits" "best_pits" (defArgs (top 26)) (defBody (top 26)) (defScope (top 26)) [] [] (He.ga K "best_pits") fd) : FnOk P w K mg base CX0 5 (He.ga K "best_pits") fd ["ground", "worths"] (spF ⟨K, ctOf cs K⟩ false 2 c_best_pits) := by
  refine def_ok (n := 4) F sc_best_pits rfl rfl (by decide) fun cd A outer s H E hr => ?_
  exact (ssCons (sSet 2 sc_best_pits.nd (nCall (ok_pits_of h) (hr.mono (by decide)) (h.glo 33) (kp_pits_of h) (aCons (nVar 0) aNil)))
  (ssCons (sSet 3 sc_best_pits.nd (nCall (ok_greatest_of h) (hr.mono (by decide)) (h.glo 34) (kp_greatest_of h) (aCons (nVar 1) (aCons (nVar 2) aNil))))
  (ssOne (sRet (nComp [("pit", 4)] rfl sc_best_pits.nd (blkOk_by (N := N_best_pits) (sc := defScope (top 26)) (by decide +kernel)) (iSeqN (nVar 2)) (fun _ _ _ _ _ => (gNameN 4 sc_best_pits.nd)) (fun _ _ _ _ _ => (tsOne (qCmp (kEq hr) (nCall (ok_sum_of h) (hr.mono (by decide)) (h.glo 31) (kp_sum_of h) (aCons (nVar 1) (aCons (nVar 4) aNil))) (nVar 3)))) (fun _ _ _ _ _ => (nVar 4)))))))
theorem ok_best_pits (h : Fx fa fn cs K mg) : FunK P w K mg base (ctOf cs K) 5 (He.ga K "best_pits") false 2 c_best_pits := by
  obtain ⟨fd, F⟩ := h.def_ 21
  exact ⟨fd, ["ground", "worths"], body_best_pits h F, F.bindsN fun _ _ _ _ _ _ us hl => match us, hl with | [_, _], _ => rfl⟩
theorem sc_least_best : FnScope N_least_best ["ground", "worths"] (defScope (top 28)) := ⟨rfl, rfl, rfl, by decide +kernel, rfl, by decide +kernel, by decide +kernel⟩
theorem kp_least_best (h : Fx fa fn cs K mg) : PySem.W.keepIn K (.ref (He.ga K "least_best")) = true := by
  obtain ⟨fd, F⟩ := h.def_ 22
  exact F.kp
theorem body_least_best (h : Fx fa fn cs K mg) {fd : FuncData} (F : FunD K "least_best" "least_best" (defArgs (top 28)) (defBody (top 28)) (defScope (top 28)) [] [] (He.ga K "least_best") fd) : FnOk P w K mg base CX0 6 (He.ga K "least_best") fd ["ground", "worths"] (spF ⟨K, ctOf cs K⟩ false 2 c_least_best) := by
  refine def_ok (n := 5) F sc_least_best rfl rfl (by decide) fun cd A outer s H E hr => ?_
  exact (ssCons (sExpr (nCall (ok_need_worths h) (hr.mono (by decide)) (h.glo 35) (kp_need_worths h) (aCons (nVar 0) (aCons (nVar 1) aNil))))
  (ssOne (sRet (nIx (nCall (ok_best_pits h) (hr.mono (by decide)) (h.glo 36) (kp_best_pits h) (aCons (nVar 0) (aCons (nVar 1) aNil))) nInt))))
theorem ok_least_best (h : Fx fa fn cs K mg) : FunK P w K mg base (ctOf cs K) 6 (He.ga K "least_best") false 2 c_least_best := by
  obtain ⟨fd, F⟩ := h.def_ 22
  exact ⟨fd, ["ground", "worths"], body_least_best h F, F.bindsN fun _ _ _ _ _ _ us hl => match us, hl with | [_, _], _ => rfl⟩
theorem sc_Ground___eq__ : FnScope N_Ground___eq__ ["self", "other"] (defScope (mth 11 3)) := ⟨rfl, rfl, rfl, by decide +kernel, rfl, by decide +kernel, by decide +kernel⟩
theorem body_Ground___eq__ (h : Fx fa fn cs K mg) {fd : FuncData} (F : FunD K "__eq__" "Ground.__eq__" (defArgs (mth 11 3)) (defBody (mth 11 3)) (defScope (mth 11 3)) [] [] (He.ma K (He.ga K "Ground") "__eq__") fd) : FnOk P w K mg base CX0 1 (He.ma K (He.ga K "Ground") "__eq__") fd ["self", "other"] (spF ⟨K, ctOf cs K⟩ false 2 c_Ground___eq__) := by
  refine def_ok (n := 0) F sc_Ground___eq__ rfl rfl (by decide) fun cd A outer s H E hr => ?_
  exact (ssOne (sRet (nAnd (nIsi h.isi (.cls (c := 0) rfl) (pCl (h.glo 17)) (h.free 7) (nVar 1)) (nOne (nCmp (kEq hr) (nFld (exK_fld h.ex rfl) (nVar 0)) (nFld (exK_fld h.ex rfl) (nVar 1)))))))
theorem ok_Ground___eq__ (h : Fx fa fn cs K mg) : FunK P w K mg base (ctOf cs K) 1 (He.ma K (He.ga K "Ground") "__eq__") false 2 c_Ground___eq__ := by
  obtain ⟨fd, F⟩ := h.def_ 23
  exact ⟨fd, ["self", "other"], body_Ground___eq__ h F, F.bindsN fun _ _ _ _ _ _ us hl => match us, hl with | [_, _], _ => rfl⟩
theorem eq_ok (h : Fx fa fn cs K mg) {X : Cx} (e1 : X.prog = P := by rfl) (e2 : X.w = w := by rfl) (e3 : X.K = K := by rfl) (e4 : X.mg = mg := by rfl) (e5 : X.base = base := by rfl) : EqOk (kx X (ctOf cs K)) X 1 eqT := by
  subst e1 e2 e3 e4 e5
  intro c np cm C ns e1 e2
  unfold eqT at e1
  split at e1
  · cases e1
    cases (show some (He.ga X.K "Ground", _) = some (C, ns) from e2)
    obtain ⟨fd, ps, F, hb⟩ := ok_Ground___eq__ (P := X.prog) (w := X.w) (base := X.base) h
    exact ⟨_, fd, ps, _, (h.meth 37).at_, (h.meth 37).fn, hb, F⟩
  · cases e1

theorem sc__law_told : FnScope N__law_told ["_law_ground", "_law_order_here"] (defScope (top 36)) := ⟨rfl, rfl, rfl, by decide +kernel, rfl, by decide +kernel, by decide +kernel⟩
theorem kp__law_told (h : Fx fa fn cs K mg) : PySem.W.keepIn K (.ref (He.ga K "_law_told")) = true := by
  obtain ⟨fd, F⟩ := h.def_ 24
  exact F.kp
theorem body__law_told (h : Fx fa fn cs K mg) {fd : FuncData} (F : FunD K "_law_told" "_law_told" (defArgs (top 36)) (defBody (top 36)) (defScope (top 36)) [] [] (He.ga K "_law_told") fd) : FnOk P w K mg base CX0 7 (He.ga K "_law_told") fd ["_law_ground", "_law_order_here"] (spF ⟨K, ctOf cs K⟩ false 2 c__law_told) := by
  refine def_ok (n := 6) F sc__law_told rfl rfl (by decide) fun cd A outer s H E hr => ?_
  exact (ssCons (sSet 2 sc__law_told.nd nStr)
  (ssCons (sTryAs (up := false) (kn := ["BadOrder"]) (L := ["BadOrder"]) 3 2 (fun z => nomatch z) takes_none5 (fun _ _ _ tk po => (ssOne (sSetX 2 sc__law_told.nd (nPropX h.ex rfl 0 (fld := "table") (hr.mono (by decide)) (nCallX tk (ok_renamed h) (hr.mono (by decide)) (h.glo 38) (kp_renamed h) (aCons (nVar 0) (aCons (nVar 1) aNil))))))) sc__law_told.nd rfl rfl rfl (by first | exact Or.inl rfl | exact Or.inr rfl) (namesG (h.glo 24)) (List.forall_mem_cons.mpr ⟨(h.exm 39 : PySem.W.exmOne K (.ref (He.ga K "BadOrder")) (.ref (He.ga K "BadOrder")) = some true), fun y hy => nomatch hy⟩) (List.forall_mem_cons.mpr ⟨exK_ie h.ex 0 rfl (z := ("BadOrder", "PitError")) (by decide), fun y hy => nomatch hy⟩) (h.free 7) (h.glo 40) rfl rfl (by decide) (by first | exact Or.inl rfl | exact Or.inr (Or.inl rfl) | exact Or.inr (Or.inr rfl)) (by first | exact Or.inl rfl | exact Or.inr rfl))
  (ssOne (sRet (nVar 2)))))
theorem ok__law_told (h : Fx fa fn cs K mg) : FunK P w K mg base (ctOf cs K) 7 (He.ga K "_law_told") false 2 c__law_told := by
  obtain ⟨fd, F⟩ := h.def_ 24
  exact ⟨fd, ["_law_ground", "_law_order_here"], body__law_told h F, F.bindsN fun _ _ _ _ _ _ us hl => match us, hl with | [_, _], _ => rfl⟩
theorem sc_all_pits : FnScope N_all_pits ["ground"] (defScope (top 20)) := ⟨rfl, rfl, rfl, by decide +kernel, rfl, by decide +kernel, by decide +kernel⟩
theorem kp_all_pits (h : Fx fa fn cs K mg) : PySem.W.keepIn K (.ref (He.ga K "all_pits")) = true := by
  obtain ⟨fd, F⟩ := h.def_ 25
  exact F.kp
theorem body_all_pits (h : Fx fa fn cs K mg) {fd : FuncData} (F : FunD K "all_pits" "all_pits" (defArgs (top 20)) (defBody (top 20)) (defScope (top 20)) [] [] (He.ga K "all_pits") fd) : FnOk P w K mg base CX0 5 (He.ga K "all_pits") fd ["ground"] (spF ⟨K, ctOf cs K⟩ false 1 c_all_pits) := by
  refine def_ok (n := 4) F sc_all_pits rfl rfl (by decide) fun cd A outer s H E hr => ?_
  exact (ssCons (sExpr (nCall (ok_need_ground h) (hr.mono (by decide)) (h.glo 21) (kp_need_ground h) (aCons (nVar 0) aNil)))
  (ssOne (sRet (nCall (ok_pits_of h) (hr.mono (by decide)) (h.glo 33) (kp_pits_of h) (aCons (nVar 0) aNil)))))
theorem ok_all_pits (h : Fx fa fn cs K mg) : FunK P w K mg base (ctOf cs K) 5 (He.ga K "all_pits") false 1 c_all_pits := by
  obtain ⟨fd, F⟩ := h.def_ 25
  exact ⟨fd, ["ground"], body_all_pits h F, F.bindsN fun _ _ _ _ _ _ us hl => match us, hl with | [_], _ => rfl⟩
theorem sc_best_worth : FnScope N_best_worth ["ground", "worths"] (defScope (top 27)) := ⟨rfl, rfl, rfl, by decide +kernel, rfl, by decide +kernel, by decide +kernel⟩
theorem kp_best_worth (h : Fx fa fn cs K mg) : PySem.W.keepIn K (.ref (He.ga K "best_worth")) = true := by
  obtain ⟨fd, F⟩ := h.def_ 26
  exact F.kp
theorem body_best_worth (h : Fx fa fn cs K mg) {fd : FuncData} (F : FunD K "best_worth" "best_worth" (defArgs (top 27)) (defBody (top 27)) (defScope (top 27)) [] [] (He.ga K "best_worth") fd) : FnOk P w K mg base CX0 5 (He.ga K "best_worth") fd ["ground", "worths"] (spF ⟨K, ctOf cs K⟩ false 2 c_best_worth) := by
  refine def_ok (n := 4) F sc_best_worth rfl rfl (by decide) fun cd A outer s H E hr => ?_
  exact (ssCons (sExpr (nCall (ok_need_worths h) (hr.mono (by decide)) (h.glo 35) (kp_need_worths h) (aCons (nVar 0) (aCons (nVar 1) aNil))))
  (ssOne (sRet (nCall (ok_greatest_of h) (hr.mono (by decide)) (h.glo 34) (kp_greatest_of h) (aCons (nVar 1) (aCons (nCall (ok_pits_of h) (hr.mono (by decide)) (h.glo 33) (kp_pits_of h) (aCons (nVar 0) aNil)) aNil))))))
theorem ok_best_worth (h : Fx fa fn cs K mg) : FunK P w K mg base (ctOf cs K) 5 (He.ga K "best_worth") false 2 c_best_worth := by
  obtain ⟨fd, F⟩ := h.def_ 26
  exact ⟨fd, ["ground", "worths"], body_best_worth h F, F.bindsN fun _ _ _ _ _ _ us hl => match us, hl with | [_, _], _ => rfl⟩
theorem sc_law : FnScope N_law ["_law_script"] (defScope (top 37)) := ⟨rfl, rfl, rfl, by decide +kernel, rfl, by decide +kernel, by decide +kernel⟩
theorem body_law (h : Fx fa fn cs K mg) {fd : FuncData} (F : FunD K "law" "law" (defArgs (top 37)) (defBody (top 37)) (defScope (top 37)) [] [] (He.ga K "law") fd) : FnOk P w K mg base CX0 10 (He.ga K "law") fd ["_law_script"] (spF ⟨K, ctOf cs K⟩ false 1 c_law) := by
  refine def_ok (n := 9) F sc_law rfl rfl (by decide) fun cd A outer s H E hr => ?_
  exact (ssCons (sSet 1 sc_law.nd (nLst (aCons (nVar 0) (aCons nInt (aCons nInt (aCons nInt aNil))))))
  (ssCons (sSet 2 sc_law.nd (nCallI (ok__law_covers h) (hr.mono (by decide)) (h.glo 41) (kp__law_covers h) (aCons (nVar 1) (aCons nInt aNil))))
  (ssCons (sParT [3, 4, 5] rfl (nnCons 3 sc_law.nd (nnCons 4 sc_law.nd (nnCons 5 sc_law.nd nnNil))) (aCons (nMake (ci := 0) rfl (h.mkr 27) (ok_Ground___init__ h) (hr.mono (by decide)) (h.glo 17) (aCons (nVar 2) aNil)) (aCons (nB uLen boot_len (h.free 1) (aCons (nVar 2) aNil)) (aCons (nCallI (ok__law_order h) (hr.mono (by decide)) (h.glo 42) (kp__law_order h) (aCons (nVar 1) (aCons (nVar 2) aNil))) aNil))))
  (ssCons (sSet 6 sc_law.nd (nTy uTuple PyProof.Rows.boot_tuple (h.free 5) (aCons (nComp [("_law_block", 17)] rfl sc_law.nd (blkOk_by (N := N_law) (sc := defScope (top 37)) (by decide +kernel)) (iSeqN (nVar 5)) (fun _ _ _ _ _ => (gNameN 17 sc_law.nd)) (fun _ _ _ _ _ => tsNil) (fun _ _ _ _ _ => (nTy uTuple PyProof.Rows.boot_tuple (h.free 5) (aCons (nB (uSorted hr) PyProof.Rows.boot_sorted (h.free 26) (aCons (nComp [("_law_one", 18)] rfl sc_law.nd (blkOk_by (by kernel_rfl)) (iSeqN (nIx (nVar 2) (nVar 17))) (fun _ _ _ _ _ => (gNameN 18 sc_law.nd)) (fun _ _ _ _ _ => tsNil) (fun _ _ _ _ _ => (nTIx (nVar 5) (nVar 18)))) aNil)) aNil)))) aNil)))
  (ssCons (sIf (qNot (qVal (nCall (ok__law_alike h 8) (hr.mono (by decide)) (h.glo 15) (kp__law_alike h) (aCons (nCall (ok__law_told h) (hr.mono (by decide)) (h.glo 43) (kp__law_told h) (aCons (nVar 3) (aCons (nVar 5) aNil))) (aCons (nVar 6) aNil))))) (ssOne (sRet nBl)) ssNil)
  (ssCons (sParT [7, 8] rfl (nnCons 7 sc_law.nd (nnCons 8 sc_law.nd nnNil)) (aCons (nNoX (nCallX takes_none5 (ok_renamed h) (hr.mono (by decide)) (h.glo 38) (kp_renamed h) (aCons (nVar 3) (aCons (nVar 5) aNil)))) (aCons (nCallI (ok__law_worths h) (hr.mono (by decide)) (h.glo 44) (kp__law_worths h) (aCons (nVar 1) (aCons (nVar 4) aNil))) aNil)))
  (ssCons (sSet 9 sc_law.nd (nTy uTuple PyProof.Rows.boot_tuple (h.free 5) (aCons (nComp [("_law_block", 17)] rfl sc_law.nd (blkOk_by (N := N_law) (sc := defScope (top 37)) (by decide +kernel)) (iSeqN (nVar 5)) (fun _ _ _ _ _ => (gNameN 17 sc_law.nd)) (fun _ _ _ _ _ => tsNil) (fun _ _ _ _ _ => (nIx (nVar 8) (nVar 17)))) aNil)))
  (ssCons (sSetLc 10 [("_law_pit", 19)] rfl sc_law.nd (blkOk_by (N := N_law) (sc := defScope (top 37)) (by decide +kernel)) (iSeqN (nCall (ok_all_pits h) (hr.mono (by decide)) (h.glo 45) (kp_all_pits h) (aCons (nVar 7) aNil))) (fun _ _ _ _ _ => (gNameN 19 sc_law.nd)) (fun _ _ _ _ _ => tsNil) (fun _ _ _ _ _ => (nTy uTuple PyProof.Rows.boot_tuple (h.free 5) (aCons (nB (uSorted hr) PyProof.Rows.boot_sorted (h.free 26) (aCons (nComp [("_law_block", 17)] rfl sc_law.nd (blkOk_by (by kernel_rfl)) (iSeqN (nVar 19)) (fun _ _ _ _ _ => (gNameN 17 sc_law.nd)) (fun _ _ _ _ _ => tsNil) (fun _ _ _ _ _ => (nIx (nVar 5) (nVar 17)))) aNil)) aNil))))
  (ssCons (sIf (qW (wOr (qCmp (kNe hr) (nB (uSortedU hr) PyProof.Rows.boot_sorted (h.free 26) (aCons (nVar 10) aNil)) (nB (uSortedU hr) PyProof.Rows.boot_sorted (h.free 26) (aCons (nCall (ok_all_pits h) (hr.mono (by decide)) (h.glo 45) (kp_all_pits h) (aCons (nVar 3) aNil)) aNil))) (wOr1 (qCmp (kNe hr) (nCall (ok_best_worth h) (hr.mono (by decide)) (h.glo 46) (kp_best_worth h) (aCons (nVar 7) (aCons (nVar 9) aNil))) (nCall (ok_best_worth h) (hr.mono (by decide)) (h.glo 46) (kp_best_worth h) (aCons (nVar 3) (aCons (nVar 8) aNil))))))) (ssOne (sRet nBl)) ssNil)
  (ssCons (sIf (qCmp (kNe hr) (nTy uTuple PyProof.Rows.boot_tuple (h.free 5) (aCons (nB (uSorted hr) PyProof.Rows.boot_sorted (h.free 26) (aCons (nComp [("_law_block", 17)] rfl sc_law.nd (blkOk_by (N := N_law) (sc := defScope (top 37)) (by decide +kernel)) (iSeqN (nCall (ok_least_best h) (hr.mono (by decide)) (h.glo 47) (kp_least_best h) (aCons (nVar 7) (aCons (nVar 9) aNil)))) (fun _ _ _ _ _ => (gNameN 17 sc_law.nd)) (fun _ _ _ _ _ => tsNil) (fun _ _ _ _ _ => (nIx (nVar 5) (nVar 17)))) aNil)) aNil)) (nCall (ok_least_best h) (hr.mono (by decide)) (h.glo 47) (kp_least_best h) (aCons (nVar 3) (aCons (nVar 8) aNil)))) (ssOne (sRet nBl)) ssNil)
  (ssCons (sSet 11 sc_law.nd (nTy uTupleX PyProof.Rows.boot_tuple (h.free 5) (aCons (nComp [("_law_block", 17)] rfl sc_law.nd (blkOk_by (N := N_law) (sc := defScope (top 37)) (by decide +kernel)) (iRng1N (h.free 3) (aCons (nVar 4) aNil)) (fun _ _ _ _ _ => (gNameN 17 sc_law.nd)) (fun _ _ _ _ _ => tsNil) (fun _ _ _ _ _ => (nTIx (nVar 5) (nVar 17)))) aNil)))
  (ssCons (sIf (qNot (qEqO (eq_ok h) (hr.mono (by decide)) (nNoX (nCallX takes_none5 (ok_renamed h) (hr.mono (by decide)) (h.glo 38) (kp_renamed h) (aCons (nVar 7) (aCons (nVar 11) aNil)))) (nVar 3))) (ssOne (sRet nBl)) ssNil)
  (ssCons (sParT [12, 13] rfl (nnCons 12 sc_law.nd (nnCons 13 sc_law.nd nnNil)) (aCons (nLRg1 rfl (h.free 4) (h.free 3) (nVar 4)) (aCons (nTupX aNil) aNil)))
  (ssCons (sPre ([14], []) (sFor [14] PassesOwn.never rfl (iRng1N (h.free 3) (aCons (nVar 4) aNil)) (gNameN 14 sc_law.nd) (ssOne (sSet 13 sc_law.nd (nAddXX (nVar 13) (nTupX (aCons (nPopAt 12 (pv 12) (aCons (nCallI (ok__law_taken h) (hr.mono (by decide)) (h.glo 2) (kp__law_taken h) (aCons (nVar 1) (aCons (nB uLen boot_len (h.free 1) (aCons (nVar 12) aNil)) aNil))) aNil)) aNil)))))))
  (ssCons (sSetLc 15 [("_law_k", 20)] rfl sc_law.nd (blkOk_by (N := N_law) (sc := defScope (top 37)) (by decide +kernel)) (iRng1N (h.free 3) (aCons (nVar 4) aNil)) (fun _ _ _ _ _ => (gNameN 20 sc_law.nd)) (fun _ _ _ _ _ => (tsOne (qCmp (kNe hr) (nComp [("_law_one", 18)] rfl sc_law.nd (blkOk_by (by kernel_rfl)) (iSeqN (nIx (nVar 2) (nIx (nVar 13) (nVar 20)))) (fun _ _ _ _ _ => (gNameN 18 sc_law.nd)) (fun _ _ _ _ _ => (tsOne (qCmp (kNotIn hr) (nVar 18) (nSlX2 (nVar 13) oNone (oSome (nVar 20)))))) (fun _ _ _ _ _ => (nVar 18))) (nLst aNil)))) (fun _ _ _ _ _ => (nVar 20)))
  (ssCons (sIf (qCmp (kNe hr) (nCmp (kEq hr) (nCall (ok__law_told h) (hr.mono (by decide)) (h.glo 43) (kp__law_told h) (aCons (nVar 3) (aCons (nVar 13) aNil))) nStr) (nCmp (kNe hr) (nVar 15) (nLst aNil))) (ssOne (sRet nBl)) ssNil)
  (ssCons (sSet 16 sc_law.nd (nLst (aCons nNon (aCons (nTy uList PyProof.Rows.boot_list (h.free 4) (aCons (nVar 5) aNil)) (aCons (nSlX2 (nVar 5) (oSome nInt) oNone) (aCons (nAddXP (nVar 5) (nTup (aCons nInt aNil))) (aCons (nIf (qCmp (kGt hr) (nVar 4) nInt) (nMulB (nTup (aCons nInt aNil)) (nVar 4)) (nTup (aCons nInt aNil))) (aCons (nAdd (nSlX2 (nVar 5) oNone (oSome (nNeg nInt))) (nTup (aCons (nVar 4) aNil))) (aCons nStr (aCons nInt aNil))))))))))
  (ssCons (sSet 16 sc_law.nd (nAdd (nVar 16) (nLst (aCons (nAdd (nSlX2 (nVar 5) oNone (oSome (nNeg nInt))) (nTup (aCons nNon aNil))) (aCons (nMulB (nTup (aCons nBl aNil)) (nVar 4)) (aCons (nAdd (nSlX2 (nVar 5) oNone (oSome (nNeg nInt))) (nTup (aCons (nLst aNil) aNil))) aNil))))))
  (ssOne (sRet (nCmp (kEq hr) (nFz (nComp [("_law_value", 21)] rfl sc_law.nd (blkOk_by (N := N_law) (sc := defScope (top 37)) (by decide +kernel)) (iSeqN (nVar 16)) (fun _ _ _ _ _ => (gNameN 21 sc_law.nd)) (fun _ _ _ _ _ => (tsOne (qCmp (kNe hr) (nCall (ok__law_told h) (hr.mono (by decide)) (h.glo 43) (kp__law_told h) (aCons (nVar 3) (aCons (nVar 21) aNil))) nStr))) (fun _ _ _ _ _ => (nVar 21)))) (nFz (nLst aNil)))))))))))))))))))))))
end
end Lw

namespace Lw
open PySem Pv Tv
theorem ix0 {ns : List Int} {i s b : Int} : L2.atI (rowD ns i s b) 0 = some (flsD (ns.map .int)) := rfl
theorem ix1 {ns : List Int} {i s b : Int} : L2.atI (rowD ns i s b) 1 = some (.int i) := rfl
theorem ix2 {ns : List Int} {i s b : Int} : L2.atI (rowD ns i s b) 2 = some (.int s) := rfl
theorem ix3 {ns : List Int} {i s b : Int} : L2.atI (rowD ns i s b) 3 = some (.int b) := rfl
theorem n1 {ns : List Int} {i s b : Int} : L2.ixN (rowD ns i s b).length 1 = some 1 := rfl
theorem n2 {ns : List Int} {i s b : Int} : L2.ixN (rowD ns i s b).length 2 = some 2 := rfl
theorem n3 {ns : List Int} {i s b : Int} : L2.ixN (rowD ns i s b).length 3 = some 3 := rfl
theorem s1 {ns : List Int} {i s b x : Int} : (rowD ns i s b).set 1 (.int x) = rowD ns x s b := rfl
theorem s2 {ns : List Int} {i s b x : Int} : (rowD ns i s b).set 2 (.int x) = rowD ns i x b := rfl
theorem s3 {ns : List Int} {i s b x : Int} : (rowD ns i s b).set 3 (.int x) = rowD ns i s x := rfl
theorem atI_nat {α : Type} {xs : List α} {i : Int} (h0 : 0 ≤ i) (h1 : i < xs.length) : L2.atI xs i = xs[i.toNat]? := by
  unfold L2.atI L2.ixN
  rw [if_pos h0, if_pos (by omega)]
  rfl
theorem e_taken {ns : List Int} {i s b m : Int} (hi : 0 ≤ i) (hm : 0 < m) (hm2 : m < 1000000000) :
    ∃ r i' s' b', c__law_taken [.own (.lst (rowD ns i s b)), .val (.int m)] = some (.val (.int r), .own (.lst (rowD ns i' s' b'))) ∧ 0 ≤ r ∧ r < m ∧ 0 ≤ i' := by
  have hm3 : m < 1073741824 := by omega
  by_cases h1 : 0 < b
  · refine ⟨b % m, i, s, b / m, ?_, Int.emod_nonneg _ (by omega), Int.emod_lt_of_pos _ hm, hi⟩
    simp [runB, exRet, exRetN, exSeq, exIf, exAsg, exExpr, exPass, exSto, evAnd, evOr, evNot, evIf, tvB, tvNot, tvAnd, tvOr, evIsi, evVar, evC, evBin, evUn, evCall, evCons, evNil, rdD, rdAll, tyD, isiAny, isi1, tyNames, toB, evChain, eLe, eGe, eLt, eGt, eEq, eNe, eEqB, eNeB, retS, out0, stoS, frz1, frzs, lstAt, SV.d, OB.d, c__law_taken, m__law_taken, gIx, ix3, h1, gInt, gMulA_int, gI2, cPos_ok hm, cDiv_ok hm hm3, cPos_ok (show (0:Int) < 2147483647 by decide), cDiv_ok (show (0:Int) < 7 by decide) (by decide), cMul_r (show (48271:Int).natAbs ≤ 18446744073709551615 by decide), cPow_10, n3, s3]
  · by_cases h2 : (ns.length : Int) < i + 1
    · refine ⟨(s * 48271 + 11) % 2147483647 / 7 % m, i + 1, (s * 48271 + 11) % 2147483647, b, ?_, Int.emod_nonneg _ (by omega), Int.emod_lt_of_pos _ hm, by omega⟩
      simp [runB, exRet, exRetN, exSeq, exIf, exAsg, exExpr, exPass, exSto, evAnd, evOr, evNot, evIf, tvB, tvNot, tvAnd, tvOr, evIsi, evVar, evC, evBin, evUn, evCall, evCons, evNil, rdD, rdAll, tyD, isiAny, isi1, tyNames, toB, evChain, eLe, eGe, eLt, eGt, eEq, eNe, eEqB, eNeB, retS, out0, stoS, frz1, frzs, lstAt, SV.d, OB.d, c__law_taken, m__law_taken, gIx, ix0, ix1, ix2, ix3, h1, gInt, gMulA_int, gI2, cPos_ok hm, cDiv_ok hm hm3, cPos_ok (show (0:Int) < 2147483647 by decide), cDiv_ok (show (0:Int) < 7 by decide) (by decide), cMul_r (show (48271:Int).natAbs ≤ 18446744073709551615 by decide), cPow_10, n1, n2, n3, s1, s2, s3, gLen, gAdd, h2]
    · have h4 : L2.atI (ns.map PyData.int) i = some (.int (ns.getD i.toNat 0)) := by
        rw [atI_nat hi (by simp; omega)]
        have : i.toNat < ns.length := by omega
        simp [runB, exRet, exRetN, exSeq, exIf, exAsg, exExpr, exPass, exSto, evAnd, evOr, evNot, evIf, tvB, tvNot, tvAnd, tvOr, evIsi, evVar, evC, evBin, evUn, evCall, evCons, evNil, rdD, rdAll, tyD, isiAny, isi1, tyNames, toB, evChain, eLe, eGe, eLt, eGt, eEq, eNe, eEqB, eNeB, retS, out0, stoS, frz1, frzs, lstAt, SV.d, OB.d, this]
      have h5 : i + 1 - 1 = i := by omega
      generalize ns.getD i.toNat 0 = c at h4
      by_cases h6 : (1000000000000000000 : Int) ≤ c
      · refine ⟨c % m, i + 1, (s * 48271 + c + 11) % 2147483647, c / m, ?_, Int.emod_nonneg _ (by omega), Int.emod_lt_of_pos _ hm, by omega⟩
        simp [runB, exRet, exRetN, exSeq, exIf, exAsg, exExpr, exPass, exSto, evAnd, evOr, evNot, evIf, tvB, tvNot, tvAnd, tvOr, evIsi, evVar, evC, evBin, evUn, evCall, evCons, evNil, rdD, rdAll, tyD, isiAny, isi1, tyNames, toB, evChain, eLe, eGe, eLt, eGt, eEq, eNe, eEqB, eNeB, retS, out0, stoS, frz1, frzs, lstAt, SV.d, OB.d, c__law_taken, m__law_taken, gIx, ix0, ix1, ix2, ix3, h1, gInt, gMulA_int, gI2, cPos_ok hm, cDiv_ok hm hm3, cPos_ok (show (0:Int) < 2147483647 by decide), cDiv_ok (show (0:Int) < 7 by decide) (by decide), cMul_r (show (48271:Int).natAbs ≤ 18446744073709551615 by decide), cPow_10, n1, n2, n3, s1, s2, s3, gLen, gAdd, h2, h4, h5, h6]
      · refine ⟨c % m, i + 1, (s * 48271 + c + 11) % 2147483647, b, ?_, Int.emod_nonneg _ (by omega), Int.emod_lt_of_pos _ hm, by omega⟩
        simp [runB, exRet, exRetN, exSeq, exIf, exAsg, exExpr, exPass, exSto, evAnd, evOr, evNot, evIf, tvB, tvNot, tvAnd, tvOr, evIsi, evVar, evC, evBin, evUn, evCall, evCons, evNil, rdD, rdAll, tyD, isiAny, isi1, tyNames, toB, evChain, eLe, eGe, eLt, eGt, eEq, eNe, eEqB, eNeB, retS, out0, stoS, frz1, frzs, lstAt, SV.d, OB.d, c__law_taken, m__law_taken, gIx, ix0, ix1, ix2, ix3, h1, gInt, gMulA_int, gI2, cPos_ok hm, cDiv_ok hm hm3, cPos_ok (show (0:Int) < 2147483647 by decide), cDiv_ok (show (0:Int) < 7 by decide) (by decide), cMul_r (show (48271:Int).natAbs ≤ 18446744073709551615 by decide), cPow_10, n1, n2, n3, s1, s2, s3, gLen, gAdd, h2, h4, h5, h6]
theorem cr_taken (m : Int) : CR c__law_taken (fun w => .own (row w)) [.val (eI m)] (vV eI) (takenW m) := fun w Q q => by
  obtain ⟨r, i', s', b', e, h1, h2, h3⟩ := e_taken (ns := w.ns) (i := w.i) (s := w.s) (b := w.b) w.hi q.1.1 q.1.2
  exact ⟨r, ⟨w.ns, i', s', b', h3⟩, q.2 r h1 h2, e⟩
end Lw

namespace Lw
open PySem Pv Tv
/-! what is alike -/
theorem var_rd {ρ : Rho} {i : Nat} {s : SV} (h : ρ[i]? = some (some s)) : ∃ r, evVar i ρ = some (r, ρ) ∧ rdD ρ r = some s.d := by
  cases s with
  | val d => exact ⟨.sv (.val d), by simp only [evVar, h], rfl⟩
  | own o => exact ⟨.plc i, by simp only [evVar, h], by simp only [rdD, h]⟩
theorem isi_var {ρ : Rho} {i : Nat} {s : SV} {ts : List TR} {t : TR} {b : Bool} (h : ρ[i]? = some (some s)) (h1 : tyD s.d = some t) (h2 : isiAny t ts = some b) : evIsi ts (evVar i) ρ = some (.sv (.val (.bool b)), ρ) := by
  obtain ⟨r, e1, e2⟩ := var_rd h
  simp only [evIsi, e1, e2, h1, h2, Option.bind_some]
theorem len_var {ρ : Rho} {i : Nat} {s : SV} {n : Int} (h : ρ[i]? = some (some s)) (h1 : gLen [s.d] = some (.val (.int n))) : evCall gLen (evCons (evVar i) evNil) ρ = some (.sv (.val (.int n)), ρ) := by
  obtain ⟨r, e1, e2⟩ := var_rd h
  simp only [evCall, evCons, evNil, e1, e2, rdAll, h1, Option.bind_some]
theorem ix_var {ρ : Rho} {i j : Nat} {s : SV} {k : Int} {d : D} (h : ρ[i]? = some (some s)) (hj : ρ[j]? = some (some (.val (.int k)))) (h1 : gIx s.d (.int k) = some (.val d)) : evBin gIx (evVar i) (evVar j) ρ = some (.sv (.val d), ρ) := by
  obtain ⟨r, e1, e2⟩ := var_rd h
  have e3 : evVar j ρ = some (.sv (.val (.int k)), ρ) := by simp only [evVar, hj]
  have e4 : rdD ρ (.sv (.val (.int k))) = some (.int k) := rfl
  simp only [evBin, e1, e3, e2, e4, h1, Option.bind_some]
theorem tv_ok {m : EM} {ρ ρ' : Rho} {b : Bool} (h : m ρ = some (.sv (.val (.bool b)), ρ')) : tvB m ρ = some (b, ρ') := by
  have e : rdD ρ' (.sv (.val (.bool b))) = some (.bool b) := rfl
  simp only [tvB, h, e, toB, Option.bind_some]
theorem bin_ok {g : D → D → Option SV} {ma mb : EM} {ρ : Rho} {a b : D} {s : SV} (h1 : ma ρ = some (.sv (.val a), ρ)) (h2 : mb ρ = some (.sv (.val b), ρ)) (h3 : g a b = some s) : evBin g ma mb ρ = some (.sv s, ρ) := by
  have e : rdD ρ (.sv (.val a)) = some a := rfl
  have e' : rdD ρ (.sv (.val b)) = some b := rfl
  simp only [evBin, h1, h2, e, e', h3, Option.bind_some]
def Al (t : Nat) (d : D) : Prop := ∀ s1 s2 : SV, s1.d = d → s2.d = d → c__law_alike t [s1, s2] = some (.val (.bool true), .val .none)
section
variable {t : Nat} {s1 s2 : SV}
theorem al_if {mt : TM} {m n : SM} {ρ ρ' : Rho} {b : Bool} (h : mt ρ = some (b, ρ')) : exIf mt m n ρ = if b = true then m ρ' else n ρ' := by simp only [exIf, h, Option.bind_some]
theorem al_seqT {xs : List D} {lst : Bool} {d : D} (hd : d = if lst = true then .list xs else .tuple xs) (hl : xs.length ≤ sizeLine) (h : ∀ x ∈ xs, Al t x) : Al (t + 1) d := by
  intro s1 s2 e1 e2
  have k0 : ([some s1, some s2, none] : Rho)[0]? = some (some s1) := rfl
  have k1 : ([some s1, some s2, none] : Rho)[1]? = some (some s2) := rfl
  have ty : tyD d = some (.ty (if lst = true then "list" else "tuple")) := by subst hd; cases lst <;> rfl
  have ln : gLen [d] = some (.val (.int (xs.length : Int))) := by subst hd; cases lst <;> rfl
  have ix : ∀ (k : Nat) (x : D), xs[k]? = some x → gIx d (.int (k : Int)) = some (.val x) := fun k x e => by subst hd; cases lst; exact eIxT e; exact eIxL e
  have a1 : evIsi [.ty "tuple", .ty "list"] (evVar 1) [some s1, some s2, none] = some (.sv (.val (.bool true)), [some s1, some s2, none]) := isi_var k1 (e2 ▸ ty) (by cases lst <;> rfl)
  have a0 : evIsi [.ty "tuple", .ty "list"] (evVar 0) [some s1, some s2, none] = some (.sv (.val (.bool true)), [some s1, some s2, none]) := isi_var k0 (e1 ▸ ty) (by cases lst <;> rfl)
  have b1 : evIsi [.ty "list"] (evVar 1) [some s1, some s2, none] = some (.sv (.val (.bool lst)), [some s1, some s2, none]) := isi_var k1 (e2 ▸ ty) (by cases lst <;> rfl)
  have b0 : evIsi [.ty "list"] (evVar 0) [some s1, some s2, none] = some (.sv (.val (.bool lst)), [some s1, some s2, none]) := isi_var k0 (e1 ▸ ty) (by cases lst <;> rfl)
  have l1 := len_var (n := xs.length) k1 (e2 ▸ ln)
  have l0 := len_var (n := xs.length) k0 (e1 ▸ ln)
  have g1 : ivArgs rng1 (evCons (evCall gLen (evCons (evVar 1) evNil)) evNil) [some s1, some s2, none] = some (rngD 0 xs.length, [some s1, some s2, none]) := by
    have hb : big62 (xs.length : Int) = true := Nat.ble_eq_true_of_le (by
      have : sizeLine = 16777216 := by decide
      simp; omega)
    refine ivArgs_eq (rs := [.sv (.val (.int (xs.length : Int)))]) (ds := [.int (xs.length : Int)]) (by simp only [evCons, l1, evNil, Option.bind_some]) rfl ?_
    simp only [rng1, if_pos hb]; simp
  have g2 := comp_pure (mg := tgName [] 2) (mt := tvNot (tvB (evCallL 2 (c__law_alike t) (evCons (evBin gIx (evVar 0) (evVar 2)) (evCons (evBin gIx (evVar 1) (evVar 2)) evNil))))) (me := evVar 2) (vs := [2]) (ρ := [some s1, some s2, none]) (fun _ => false) id (ds := rngD 0 xs.length) (fun d' hd' => by
    obtain ⟨k, hk, rfl⟩ : ∃ k : Nat, k < xs.length ∧ d' = .int (k : Int) := by
      simp only [rngD, List.mem_map, List.mem_range] at hd'
      obtain ⟨a, ha, rfl⟩ := hd'
      exact ⟨a, ha, by simp⟩
    have q1 : xs[k]? = some xs[k] := List.getElem?_eq_getElem hk
    refine ⟨[some s1, some s2, some (.val (.int (k : Int)))], rfl, ?_, fun z => (nomatch z), rfl⟩
    have c0 := ix_var (ρ := [some s1, some s2, some (.val (.int (k : Int)))]) (i := 0) (j := 2) (s := s1) rfl rfl (e1 ▸ ix k _ q1)
    have c1 := ix_var (ρ := [some s1, some s2, some (.val (.int (k : Int)))]) (i := 1) (j := 2) (s := s2) rfl rfl (e2 ▸ ix k _ q1)
    have c2 := h _ (List.getElem_mem hk) (.val xs[k]) (.val xs[k]) rfl rfl
    have c3 : evCallL 2 (c__law_alike t) (evCons (evBin gIx (evVar 0) (evVar 2)) (evCons (evBin gIx (evVar 1) (evVar 2)) evNil)) [some s1, some s2, some (.val (.int (k : Int)))] = some (.sv (.val (.bool true)), [some s1, some s2, some (.val (.int (k : Int)))]) := by
      simp only [evCallL, evCons, c0, c1, evNil, Option.bind_some, passB, List.length_cons, List.length_nil, c2, frAll, ite_self, if_true]
    simp only [tvNot, tv_ok c3, Option.bind_some, Bool.not_true])
  have g3 := comp_eq g1 (by rw [rng_len]; exact hl) g2
  have g4 : ((rngD 0 xs.length).filter (fun _ => false)).map id = [] := by simp
  rw [g4] at g3
  have n0 : evBin gNeD (evIsi [.ty "list"] (evVar 0)) (evIsi [.ty "list"] (evVar 1)) [some s1, some s2, none] = some (.sv (.val (.bool false)), [some s1, some s2, none]) := by
    refine bin_ok b0 b1 ?_
    rw [eNeB]; simp
  have n1 : evBin gNeD (evCall gLen (evCons (evVar 0) evNil)) (evCall gLen (evCons (evVar 1) evNil)) [some s1, some s2, none] = some (.sv (.val (.bool false)), [some s1, some s2, none]) := by
    refine bin_ok l0 l1 ?_
    rw [eNe]; simp
  have g5 := eEqNil [] rfl
  have r3 : evBin gEqD (evComp (ivArgs rng1 (evCons (evCall gLen (evCons (evVar 1) evNil)) evNil)) (tgName [] 2) (tvNot (tvB (evCallL 2 (c__law_alike t) (evCons (evBin gIx (evVar 0) (evVar 2)) (evCons (evBin gIx (evVar 1) (evVar 2)) evNil))))) (evVar 2) [2]) (evLst evNil) [some s1, some s2, none] = some (.sv (.val (.bool true)), [some s1, some s2, none]) := by
    have e5 : restore [2] [some s1, some s2, none] [some s1, some s2, none] = [some s1, some s2, none] := rfl
    rw [e5] at g3
    have e6 : evLst evNil [some s1, some s2, none] = some (.sv (.own (.lst [])), [some s1, some s2, none]) := rfl
    have e7 : rdD [some s1, some s2, none] (.sv (.own (.lst []))) = some (.list []) := rfl
    have e8 : gEqD (.list []) (.list []) = some (.val (.bool true)) := g5
    simp only [evBin, g3, e6, e7, e8, Option.bind_some]
  have f1 : (exIf (tvOr (tvNot (tvB (evIsi [.ty "tuple", .ty "list"] (evVar 0)))) (tvB (evBin gNeD (evIsi [.ty "list"] (evVar 0)) (evIsi [.ty "list"] (evVar 1))))) (exRet (evC (.bool false))) exPass) [some s1, some s2, none] = some (.nx, [some s1, some s2, none]) := by
    rw [al_if (b := false) (ρ' := [some s1, some s2, none])]
    · rfl
    · simp only [tvOr, tvNot, tv_ok a0, tv_ok n0, Option.bind_some, Bool.not_true, Bool.false_eq_true, if_false]
  have f2 : (exIf (tvB (evBin gNeD (evCall gLen (evCons (evVar 0) evNil)) (evCall gLen (evCons (evVar 1) evNil)))) (exRet (evC (.bool false))) exPass) [some s1, some s2, none] = some (.nx, [some s1, some s2, none]) := by
    rw [al_if (tv_ok n1)]; rfl
  show runB false 3 (m__law_alike (c__law_alike t)) [s1, s2] = _
  unfold runB
  have h0 : List.map some [s1, s2] ++ List.replicate (3 - [s1, s2].length) none = ([some s1, some s2, none] : Rho) := rfl
  rw [h0]
  unfold m__law_alike
  have f3 := al_if (m := (exSeq (exIf (tvOr (tvNot (tvB (evIsi [.ty "tuple", .ty "list"] (evVar 0)))) (tvB (evBin gNeD (evIsi [.ty "list"] (evVar 0)) (evIsi [.ty "list"] (evVar 1))))) (exRet (evC (.bool false))) exPass)
  (exSeq (exIf (tvB (evBin gNeD (evCall gLen (evCons (evVar 0) evNil)) (evCall gLen (evCons (evVar 1) evNil)))) (exRet (evC (.bool false))) exPass)
  (exRet (evBin gEqD (evComp (ivArgs rng1 (evCons (evCall gLen (evCons (evVar 1) evNil)) evNil)) (tgName [] 2) (tvNot (tvB (evCallL 2 (c__law_alike t) (evCons (evBin gIx (evVar 0) (evVar 2)) (evCons (evBin gIx (evVar 1) (evVar 2)) evNil))))) (evVar 2) [2]) (evLst evNil)))))) (n := exPass) (tv_ok a1)
  rw [if_pos rfl] at f3
  simp only [exSeq, f3, f1, f2, exRet, r3, Option.bind_some, retS, out0]
  rfl
end
theorem eEqS (x : Str) : gEqD (.str x) (.str x) = some (.val (.bool true)) := by
  obtain ⟨c, q, e⟩ := opEq (e := eS) x x (by decide) (fun b => b = true) (by simp)
  subst q; exact e
theorem al_flat {t : Nat} {d : D} (h : match d with | .int _ => True | .bool _ => True | .str _ => True | .none => True | _ => False) : Al (t + 1) d := by
  intro s1 s2 e1 e2
  have v1 : s1 = .val d := by
    cases s1 with
    | val d' => cases e1; rfl
    | own o => cases o <;> (subst e1; exact h.elim)
  have v2 : s2 = .val d := by
    cases s2 with
    | val d' => cases e2; rfl
    | own o => cases o <;> (subst e2; exact h.elim)
  subst v1 v2
  cases d with
  | none => rfl
  | bool b => cases b <;> rfl
  | int i => simp [runB, exRet, exRetN, exSeq, exIf, exPass, evAnd, evOr, evNot, tvB, tvNot, tvAnd, tvOr, evIsi, evVar, evC, evBin, rdD, tyD, isiAny, isi1, tyNames, toB, eEq, eEqB, eNeB, retS, out0, SV.d, c__law_alike, m__law_alike, gIs, isNoneD]
  | str x => simp [runB, exRet, exRetN, exSeq, exIf, exPass, evAnd, evOr, evNot, tvB, tvNot, tvAnd, tvOr, evIsi, evVar, evC, evBin, rdD, tyD, isiAny, isi1, tyNames, toB, eEq, eEqB, eNeB, retS, out0, SV.d, c__law_alike, m__law_alike, gIs, isNoneD, eEqS]
  | list _ => exact h.elim
  | tuple _ => exact h.elim
  | dict _ => exact h.elim
class Alk {α : Type} (e : α → D) (n : outParam Nat) (ok : outParam (α → Prop)) : Prop where
  al : ∀ a t, ok a → n ≤ t → Al (t + 1) (e a)
section
variable {α β γ : Type} {e : α → D} {f : β → D} {g : γ → D} {n m k : Nat} {ok : α → Prop} {ok2 : β → Prop} {ok3 : γ → Prop}
instance : Alk eI 0 (fun _ => True) := ⟨fun _ _ _ _ => al_flat trivial⟩
instance : Alk eB 0 (fun _ => True) := ⟨fun _ _ _ _ => al_flat trivial⟩
instance : Alk eS 0 (fun _ => True) := ⟨fun _ _ _ _ => al_flat trivial⟩
instance : Alk eU 0 (fun _ => True) := ⟨fun _ _ _ _ => al_flat (d := .none) trivial⟩
def okA (d : D) : Prop := ∀ t, 3 ≤ t → Al (t + 1) d
instance : Alk eA 3 okA := ⟨fun _ t q ht => q t ht⟩
def okL (ok : α → Prop) (l : List α) : Prop := l.length ≤ sizeLine ∧ ∀ x ∈ l, ok x
instance [h : Alk e n ok] : Alk (eT e) (n + 1) (okL ok) := ⟨fun a t q ht => al_seqT (lst := false) (xs := a.map e) rfl (by rw [List.length_map]; exact q.1) fun x hx => by
  obtain ⟨y, hy, rfl⟩ := List.mem_map.mp hx
  obtain ⟨t', rfl⟩ : ∃ t', t = t' + 1 := ⟨t - 1, by omega⟩
  exact h.al y t' (q.2 y hy) (by omega)⟩
instance [h : Alk e n ok] : Alk (eL e) (n + 1) (okL ok) := ⟨fun a t q ht => al_seqT (lst := true) (xs := a.map e) rfl (by rw [List.length_map]; exact q.1) fun x hx => by
  obtain ⟨y, hy, rfl⟩ := List.mem_map.mp hx
  obtain ⟨t', rfl⟩ : ∃ t', t = t' + 1 := ⟨t - 1, by omega⟩
  exact h.al y t' (q.2 y hy) (by omega)⟩
instance [h : Alk e n ok] [i : Alk f m ok2] : Alk (eP e f) (n + m + 1) (fun p => ok p.1 ∧ ok2 p.2) := ⟨fun a t q ht => al_seqT (lst := false) (xs := [e a.1, f a.2]) rfl (by show (2 : Nat) ≤ _; decide) fun x hx => by
  obtain ⟨t', rfl⟩ : ∃ t', t = t' + 1 := ⟨t - 1, by omega⟩
  simp only [List.mem_cons, List.not_mem_nil, or_false] at hx
  rcases hx with rfl | rfl
  · exact h.al _ t' q.1 (by omega)
  · exact i.al _ t' q.2 (by omega)⟩
instance [h : Alk e n ok] [i : Alk f m ok2] [j : Alk g k ok3] : Alk (eQ e f g) (n + m + k + 1) (fun p => ok p.1 ∧ ok2 p.2.1 ∧ ok3 p.2.2) := ⟨fun a t q ht => al_seqT (lst := false) (xs := [e a.1, f a.2.1, g a.2.2]) rfl (by show (3 : Nat) ≤ _; decide) fun x hx => by
  obtain ⟨t', rfl⟩ : ∃ t', t = t' + 1 := ⟨t - 1, by omega⟩
  simp only [List.mem_cons, List.not_mem_nil, or_false] at hx
  rcases hx with rfl | rfl | rfl
  · exact h.al _ t' q.1 (by omega)
  · exact i.al _ t' q.2.1 (by omega)
  · exact j.al _ t' q.2.2 (by omega)⟩
instance [h : Alk e n ok] : Alk (eO e) n (fun o => ∀ a, o = some a → ok a) := ⟨fun a t q ht => by
  cases a with
  | none => exact al_flat (d := .none) trivial
  | some a => exact h.al a t (q a rfl) ht⟩
def okX (ok : α → Prop) (ok2 : β → Prop) : α ⊕ β → Prop
  | .inl a => ok a
  | .inr b => ok2 b
instance [h : Alk e n ok] [i : Alk f m ok2] : Alk (eX e f) (n + m) (okX ok ok2) := ⟨fun a t q ht => by
  cases a with
  | inl a => exact h.al a t q (by omega)
  | inr a => exact i.al a t q (by omega)⟩
class HLen {β : Type} (fs : β → List D) (n : outParam Nat) : Prop where
  len : ∀ a, (fs a).length = n
instance : HLen hN 0 := ⟨fun _ => rfl⟩
instance {α β : Type} {e : α → D} {fs : β → List D} {n : Nat} [h : HLen fs n] : HLen (hC e fs) (n + 1) := ⟨fun a => by simp [hC, h.len]⟩
class AlkM {β : Type} (fs : β → List D) (n : outParam Nat) (ok : outParam (β → Prop)) : Prop where
  al : ∀ a t, ok a → n ≤ t → ∀ x ∈ fs a, Al (t + 1) x
instance : AlkM hN 0 (fun _ => True) := ⟨fun _ _ _ _ x hx => by simp [hN] at hx⟩
instance {e : α → D} {fs : β → List D} [h : Alk e n ok] [i : AlkM fs m ok2] : AlkM (hC e fs) (n + m) (fun p => ok p.1 ∧ ok2 p.2) := ⟨fun a t q ht x hx => by
  rcases List.mem_cons.mp hx with hx | hx
  · rw [hx]; exact h.al a.1 t q.1 (by omega)
  · exact i.al a.2 t q.2 (by omega) x hx⟩
instance {fs : β → List D} {r : Nat} [h : AlkM fs m ok2] [l : HLen fs r] : Alk (eR fs) (m + 1) (fun p => r ≤ 100 ∧ ok2 p) := ⟨fun a t q ht => al_seqT (lst := false) (xs := fs a) rfl (by rw [l.len]; exact Nat.le_trans q.1 (by decide)) fun x hx => by
  obtain ⟨t', rfl⟩ : ∃ t', t = t' + 1 := ⟨t - 1, by omega⟩
  exact h.al a t' q.2 (by omega) x hx⟩
instance {fs : β → List D} {r : Nat} [h : AlkM fs m ok2] [l : HLen fs r] : Alk (eH fs) (m + 1) (fun p => r ≤ 100 ∧ ok2 p) := ⟨fun a t q ht => al_seqT (lst := true) (xs := fs a) rfl (by rw [l.len]; exact Nat.le_trans q.1 (by decide)) fun x hx => by
  obtain ⟨t', rfl⟩ : ∃ t', t = t' + 1 := ⟨t - 1, by omega⟩
  exact h.al a t' q.2 (by omega) x hx⟩
def alikeW (ok : α → Prop) (a b : α) : PT Bool := fun Q => (a = b ∧ ok a) ∧ Q true
theorem alike_if {ok : α → Prop} {a b : α} {P R : Prop} (h : a = b) (hk : ok a) (q : R) : alikeW ok a b fun r => if (!r) = true then P else R := ⟨⟨h, hk⟩, by simpa using q⟩
theorem cw_alike [h : Alk e n ok] (s1 s2 : α → SV) (a b : α) (h1 : ∀ a, (s1 a).d = e a := by intro _; rfl) (h2 : ∀ a, (s2 a).d = e a := by intro _; rfl) (hn : n ≤ 7 := by decide) : CW (c__law_alike 8) [s1 a, s2 b] (vV eB) (alikeW ok a b) := fun Q q => by
  obtain ⟨⟨rfl, q1⟩, q2⟩ := q
  exact ⟨true, .val .none, q2, h.al a 7 q1 hn (s1 a) (s2 a) (h1 a) (h2 a)⟩
end
end Lw

namespace Lw
open PySem Pv Tv
abbrev payL : Pay := fun y => []
def t_l_covers (most0 : Int) : PT (List (List Int)) := fun Q => takenW 7 fun r29 => takenW most0 fun r30 => retW ((([] : (List (List Int))) : (List (List Int))), (r29 : Int), ((1 + r30) : Int), ()) fun (A1 : (List (List Int)) × Int × Int × Unit) => rangeW A1.2.2.1 fun r28 => forW (fun (block3 : Int) (s2 : (List (List Int))) Q => rangeW block3 fun r26 => compW r26 (fun (one4 : Int) Q => takenW 3 fun r27 => Q (decide (r27 = 0))) (fun (one4 : Int) Q => Q one4) fun some5 => ifW (decide (A1.2.1 = 0)) (fun Q => retW (([] : (List Int)) : (List Int)) fun some6 => Q some6) (fun Q => Q some5) fun (v7 : (List Int)) => ifW (decide (A1.2.1 = 1)) (fun Q => rgW block3 fun r24 => retW ((cutL r24 (some (-1)) none) : (List Int)) fun some8 => Q some8) (fun Q => Q v7) fun (v9 : (List Int)) => ifW (decide (A1.2.1 = 2)) (fun Q => rangeW block3 fun r20 => compW r20 (fun (one10 : Int) Q => mulW 2 one10 fun r22 => andW (fun Q => Q (decide (r22 < A1.2.2.1))) (fun Q => mulW 2 block3 fun r23 => Q (decide (A1.2.2.1 ≤ r23))) fun b21 => Q b21) (fun (one10 : Int) Q => Q one10) fun some11 => Q some11) (fun Q => Q v9) fun (v12 : (List Int)) => ifW (decide (A1.2.1 = 3)) (fun Q => compW v12 (fun (one13 : Int) Q => Q (decide ((block3 - one13) < 3))) (fun (one13 : Int) Q => Q one13) fun some14 => Q some14) (fun Q => Q v12) fun (v15 : (List Int)) => appW s2 v15 fun found16 => Q found16) r28 A1.1 fun (v17 : (List (List Int))) => Q v17
theorem tw_l_covers (most0 : Int) : CR c__law_covers (fun w => .own (row w)) [.val (eI most0)] (vV (eT (eT eI))) (t_l_covers most0) := by
  have h : WN true m__law_covers (fun (w : RW) => [some (.own (row w)), some (.val (eI most0)), none, none, none, none, none, none]) (vV (eT (eT eI))) (fun _ w => .own (row w)) _ := (nSeq (sParW (K := (fun (A1 : (List (List Int)) × Int × Int × Unit) (w : RW) => [some (.own (row w)), some (.val (eI most0)), some (.own (.lst (List.map (eT eI) A1.1))), some (.val (eI A1.2.1)), some (.val (eI A1.2.2.1)), none, none, none])) (wCons (wLst (e := (eT eI)) (f := (fun (A : Unit) => ([] : (List (List Int))))) wNil) (wCons (wCallI (rs := fun (A : Unit × Int × Unit) => [Rv.sv (.val (eI A.2.1))]) (row := row) (wCons (wPlc0 0) (wCons (wInt 7) wNil)) (fun (A : Unit × Int × Unit) => cr_taken A.2.1)) (wCons (wBin (wInt 1) (wCallI (rs := fun (A : Unit × Int × Unit) => [Rv.sv (.val (eI A.2.1))]) (row := row) (wCons (wPlc0 0) (wCons (wVar 1 eI most0) wNil)) (fun (A : Unit × Int × Unit) => cr_taken A.2.1)) (fun A B => opAdd A B)) wNil)))) (fun (A1 : (List (List Int)) × Int × Int × Unit) => (nSeq (sForW (R1 := (fun (w : RW) => [some (.own (row w)), some (.val (eI most0)), some (.own (.lst (List.map (eT eI) A1.1))), some (.val (eI A1.2.1)), some (.val (eI A1.2.2.1)), none, none, none])) (K0 := (fun (s2 : (List (List Int))) (w : RW) => [some (.own (row w)), some (.val (eI most0)), some (.own (.lst (List.map (eT eI) s2))), some (.val (eI A1.2.1)), some (.val (eI A1.2.2.1)), none, none, none])) (Kb := (fun (block3 : Int) (s2 : (List (List Int))) (w : RW) => [some (.own (row w)), some (.val (eI most0)), some (.own (.lst (List.map (eT eI) s2))), some (.val (eI A1.2.1)), some (.val (eI A1.2.2.1)), some (.val (eI block3)), none, none])) A1.1 (wRng1 (v := fun (A : Int × Unit) => A.1) (wCons (wVar 4 eI A1.2.2.1) wNil)) (fun (block3 : Int) (s2 : (List (List Int))) => (sKillK (sSeqK (sAsg (K := (fun (some5 : (List Int)) (w : RW) => [some (.own (row w)), some (.val (eI most0)), some (.own (.lst (List.map (eT eI) s2))), some (.val (eI A1.2.1)), some (.val (eI A1.2.2.1)), some (.val (eI block3)), some (.own (.lst (List.map eI some5))), none])) (wComp (R0 := (fun (w : RW) => [some (.own (row w)), some (.val (eI most0)), some (.own (.lst (List.map (eT eI) s2))), some (.val (eI A1.2.1)), some (.val (eI A1.2.2.1)), some (.val (eI block3)), none, none])) (Rb := (fun (one4 : Int) (w : RW) => [some (.own (row w)), some (.val (eI most0)), some (.own (.lst (List.map (eT eI) s2))), some (.val (eI A1.2.1)), some (.val (eI A1.2.2.1)), some (.val (eI block3)), none, some (.val (eI one4))])) (Rc := (fun (one4 : Int) (w : RW) => [some (.own (row w)), some (.val (eI most0)), some (.own (.lst (List.map (eT eI) s2))), some (.val (eI A1.2.1)), some (.val (eI A1.2.2.1)), some (.val (eI block3)), none, some (.val (eI one4))])) (e' := eI) (v := fun one4 A => A) (wRng1 (v := fun (A : Int × Unit) => A.1) (wCons (wVar 5 eI block3) wNil)) (fun one4 => (wTb (wBin (wCallI (rs := fun (A : Unit × Int × Unit) => [Rv.sv (.val (eI A.2.1))]) (row := row) (wCons (wPlc0 0) (wCons (wInt 3) wNil)) (fun (A : Unit × Int × Unit) => cr_taken A.2.1)) (wInt 0) (fun A B => (opEq (e := eI)) A B)))) (fun one4 => (wVar 7 eI one4)))) (fun (some5 : (List Int)) => (sSeqK (sIfW (wTb (wBin (wVar 3 eI A1.2.1) (wInt 0) (fun A B => (opEq (e := eI)) A B))) (sRe (K' := (fun (v7 : (List Int)) (w : RW) => [some (.own (row w)), some (.val (eI most0)), some (.own (.lst (List.map (eT eI) s2))), some (.val (eI A1.2.1)), some (.val (eI A1.2.2.1)), some (.val (eI block3)), some (.own (.lst (List.map eI v7))), none])) (fun (some6 : (List Int)) => some6) (sAsg (K := (fun (some6 : (List Int)) (w : RW) => [some (.own (row w)), some (.val (eI most0)), some (.own (.lst (List.map (eT eI) s2))), some (.val (eI A1.2.1)), some (.val (eI A1.2.2.1)), some (.val (eI block3)), some (.own (.lst (List.map eI some6))), none])) (wLst (e := eI) (f := (fun (A : Unit) => ([] : (List Int)))) wNil))) (sRe (K' := (fun (v7 : (List Int)) (w : RW) => [some (.own (row w)), some (.val (eI most0)), some (.own (.lst (List.map (eT eI) s2))), some (.val (eI A1.2.1)), some (.val (eI A1.2.2.1)), some (.val (eI block3)), some (.own (.lst (List.map eI v7))), none])) (fun (_ : Unit) => some5) sPassW)) (fun (v7 : (List Int)) => (sSeqK (sIfW (wTb (wBin (wVar 3 eI A1.2.1) (wInt 1) (fun A B => (opEq (e := eI)) A B))) (sRe (K' := (fun (v9 : (List Int)) (w : RW) => [some (.own (row w)), some (.val (eI most0)), some (.own (.lst (List.map (eT eI) s2))), some (.val (eI A1.2.1)), some (.val (eI A1.2.2.1)), some (.val (eI block3)), some (.own (.lst (List.map eI v9))), none])) (fun (some8 : (List Int)) => some8) (sAsg (K := (fun (some8 : (List Int)) (w : RW) => [some (.own (row w)), some (.val (eI most0)), some (.own (.lst (List.map (eT eI) s2))), some (.val (eI A1.2.1)), some (.val (eI A1.2.2.1)), some (.val (eI block3)), some (.own (.lst (List.map eI some8))), none])) (wSl (wUn (wVar 5 eI block3) (fun A => opLRg A)) (fun A => opSlL (e := eI) (some (-1)) none A)))) (sRe (K' := (fun (v9 : (List Int)) (w : RW) => [some (.own (row w)), some (.val (eI most0)), some (.own (.lst (List.map (eT eI) s2))), some (.val (eI A1.2.1)), some (.val (eI A1.2.2.1)), some (.val (eI block3)), some (.own (.lst (List.map eI v9))), none])) (fun (_ : Unit) => v7) sPassW)) (fun (v9 : (List Int)) => (sSeqK (sIfW (wTb (wBin (wVar 3 eI A1.2.1) (wInt 2) (fun A B => (opEq (e := eI)) A B))) (sRe (K' := (fun (v12 : (List Int)) (w : RW) => [some (.own (row w)), some (.val (eI most0)), some (.own (.lst (List.map (eT eI) s2))), some (.val (eI A1.2.1)), some (.val (eI A1.2.2.1)), some (.val (eI block3)), some (.own (.lst (List.map eI v12))), none])) (fun (some11 : (List Int)) => some11) (sAsg (K := (fun (some11 : (List Int)) (w : RW) => [some (.own (row w)), some (.val (eI most0)), some (.own (.lst (List.map (eT eI) s2))), some (.val (eI A1.2.1)), some (.val (eI A1.2.2.1)), some (.val (eI block3)), some (.own (.lst (List.map eI some11))), none])) (wComp (R0 := (fun (w : RW) => [some (.own (row w)), some (.val (eI most0)), some (.own (.lst (List.map (eT eI) s2))), some (.val (eI A1.2.1)), some (.val (eI A1.2.2.1)), some (.val (eI block3)), some (.own (.lst (List.map eI v9))), none])) (Rb := (fun (one10 : Int) (w : RW) => [some (.own (row w)), some (.val (eI most0)), some (.own (.lst (List.map (eT eI) s2))), some (.val (eI A1.2.1)), some (.val (eI A1.2.2.1)), some (.val (eI block3)), some (.own (.lst (List.map eI v9))), some (.val (eI one10))])) (Rc := (fun (one10 : Int) (w : RW) => [some (.own (row w)), some (.val (eI most0)), some (.own (.lst (List.map (eT eI) s2))), some (.val (eI A1.2.1)), some (.val (eI A1.2.2.1)), some (.val (eI block3)), some (.own (.lst (List.map eI v9))), some (.val (eI one10))])) (e' := eI) (v := fun one10 A => A) (wRng1 (v := fun (A : Int × Unit) => A.1) (wCons (wVar 5 eI block3) wNil)) (fun one10 => (wTb (wChain (wBin (wInt 2) (wVar 7 eI one10) (fun A B => opMulA A B)) (wVar 4 eI A1.2.2.1) (wBin (wInt 2) (wVar 5 eI block3) (fun A B => opMulA A B)) (fun A B => opLtI A B) (fun A B => opLeI A B)))) (fun one10 => (wVar 7 eI one10))))) (sRe (K' := (fun (v12 : (List Int)) (w : RW) => [some (.own (row w)), some (.val (eI most0)), some (.own (.lst (List.map (eT eI) s2))), some (.val (eI A1.2.1)), some (.val (eI A1.2.2.1)), some (.val (eI block3)), some (.own (.lst (List.map eI v12))), none])) (fun (_ : Unit) => v9) sPassW)) (fun (v12 : (List Int)) => (sSeqK (sIfW (wTb (wBin (wVar 3 eI A1.2.1) (wInt 3) (fun A B => (opEq (e := eI)) A B))) (sRe (K' := (fun (v15 : (List Int)) (w : RW) => [some (.own (row w)), some (.val (eI most0)), some (.own (.lst (List.map (eT eI) s2))), some (.val (eI A1.2.1)), some (.val (eI A1.2.2.1)), some (.val (eI block3)), some (.own (.lst (List.map eI v15))), none])) (fun (some14 : (List Int)) => some14) (sAsg (K := (fun (some14 : (List Int)) (w : RW) => [some (.own (row w)), some (.val (eI most0)), some (.own (.lst (List.map (eT eI) s2))), some (.val (eI A1.2.1)), some (.val (eI A1.2.2.1)), some (.val (eI block3)), some (.own (.lst (List.map eI some14))), none])) (wComp (R0 := (fun (w : RW) => [some (.own (row w)), some (.val (eI most0)), some (.own (.lst (List.map (eT eI) s2))), some (.val (eI A1.2.1)), some (.val (eI A1.2.2.1)), some (.val (eI block3)), some (.val ((eL eI) v12)), none])) (Rb := (fun (one13 : Int) (w : RW) => [some (.own (row w)), some (.val (eI most0)), some (.own (.lst (List.map (eT eI) s2))), some (.val (eI A1.2.1)), some (.val (eI A1.2.2.1)), some (.val (eI block3)), some (.val ((eL eI) v12)), some (.val (eI one13))])) (Rc := (fun (one13 : Int) (w : RW) => [some (.own (row w)), some (.val (eI most0)), some (.own (.lst (List.map (eT eI) s2))), some (.val (eI A1.2.1)), some (.val (eI A1.2.2.1)), some (.val (eI block3)), some (.val ((eL eI) v12)), some (.val (eI one13))])) (e' := eI) (v := fun one13 A => A) (wSeq (e := eI) (l := fun A => v12) (R2 := (fun (w : RW) => [some (.own (row w)), some (.val (eI most0)), some (.own (.lst (List.map (eT eI) s2))), some (.val (eI A1.2.1)), some (.val (eI A1.2.2.1)), some (.val (eI block3)), some (.val ((eL eI) v12)), none])) (wPlc 6 (.lst (List.map eI v12)))) (fun one13 => (wTb (wBin (wBin (wVar 5 eI block3) (wVar 7 eI one13) (fun A B => opSub A B)) (wInt 3) (fun A B => opLtI A B)))) (fun one13 => (wVar 7 eI one13))))) (sRe (K' := (fun (v15 : (List Int)) (w : RW) => [some (.own (row w)), some (.val (eI most0)), some (.own (.lst (List.map (eT eI) s2))), some (.val (eI A1.2.1)), some (.val (eI A1.2.2.1)), some (.val (eI block3)), some (.own (.lst (List.map eI v15))), none])) (fun (_ : Unit) => v12) sPassW)) (fun (v15 : (List Int)) => (sReK (ks := [5, 6]) (K' := (fun (s2 : (List (List Int))) (w : RW) => [some (.own (row w)), some (.val (eI most0)), some (.own (.lst (List.map (eT eI) s2))), some (.val (eI A1.2.1)), some (.val (eI A1.2.2.1)), none, none, none])) (fun (found16 : List (List Int)) => found16) (sMut (e := (eT eI)) (l := s2) (R2 := (fun (w : RW) => [some (.own (row w)), some (.val (eI most0)), some (.own (.lst (List.map (eT eI) s2))), some (.val (eI A1.2.1)), some (.val (eI A1.2.2.1)), some (.val (eI block3)), some (.own (.lst (List.map eI v15))), none])) (K := (fun (found16 : List (List Int)) (w : RW) => [some (.own (row w)), some (.val (eI most0)), some (.own (.lst (List.map (eT eI) found16))), some (.val (eI A1.2.1)), some (.val (eI A1.2.2.1)), some (.val (eI block3)), some (.own (.lst (List.map eI v15))), none])) (wCons (wCall (wCons (wPlc 6 (.lst (List.map eI v15))) wNil) (fun (A : Unit × Unit) => (opTupL (e := eI)) v15)) wNil) (fun (A : (List Int) × Unit) Q q => f_app (e := (eT eI)) A.1 Q q)))))))))))))))) (fun (v17 : (List (List Int))) => (nF (fRet (v := fun A => A) (wCall (wCons (wPlc 2 (.lst (List.map (eT eI) v17))) wNil) (fun (A : Unit × Unit) => (opTupL (e := (eT eI))) v17))))))))
  try dsimp only [retW, ifW, andW, orW] at h
  unfold t_l_covers
  try dsimp only [retW, ifW, andW, orW]
  exact crOf (nl := 8) (row := row) (fun (w : RW) => [some (.own (row w)), some (.val (eI most0)), none, none, none, none, none, none]) h
def t_is_from (value38 : Int) (low39 : Int) (high40 : Int) : PT Bool := fun Q => Q (decide (low39 ≤ value38) && decide (value38 ≤ high40))
theorem tw_is_from (value38 : Int) (low39 : Int) (high40 : Int) : CW c_is_from [.val (eI value38), .val (eI low39), .val (eI high40)] (vV eB) (t_is_from value38 low39 high40) := by
  have h : WN false m_is_from (fun (w : Unit) => [some (.val (eI value38)), some (.val (eI low39)), some (.val (eI high40))]) (vV eB) (fun _ _ => .val .none) _ := (nF (fRet (v := fun A => A) (wAndT (wIsi (b := true) (d1 := fun A => eI A) (wVar 0 eI value38)) (wAndT (wNot (wIsi (b := false) (d1 := fun A => eI A) (wVar 0 eI value38))) (wChain2 (wVar 1 eI low39) (wVar 0 eI value38) (wVar 2 eI high40) (fun A B => opLeI A B) (fun A B => opLeI A B))))))
  try dsimp only [retW, ifW, andW, orW] at h
  unfold t_is_from
  try dsimp only [retW, ifW, andW, orW]
  exact cwOf (nl := 3) (fun (w : Unit) => [some (.val (eI value38)), some (.val (eI low39)), some (.val (eI high40))]) h
def t_rises (value41 : (List Int)) : PT Bool := fun Q => range2W 1 (value41.length : Int) fun r44 => mapW r44 (fun (at42 : Int) Q => ixW value41 (at42 - 1) fun r45 => ixW value41 at42 fun r46 => Q (decide (r45 < r46))) fun l43 => Q ((l43).all id)
theorem tw_rises (value41 : (List Int)) : CW c_rises [.val ((eT eI) value41)] (vV eB) (t_rises value41) := by
  have h : WN false m_rises (fun (w : Unit) => [some (.val ((eT eI) value41)), none]) (vV eB) (fun _ _ => .val .none) _ := (nF (fRet (v := fun A => A) (wCall (wCons (wMap (R0 := (fun (w : Unit) => [some (.val ((eT eI) value41)), none])) (Rb := (fun (at42 : Int) (w : Unit) => [some (.val ((eT eI) value41)), some (.val (eI at42))])) (Rc := (fun (at42 : Int) (w : Unit) => [some (.val ((eT eI) value41)), some (.val (eI at42))])) (e' := eB) (v := fun at42 A => A) (wRng2 (v := fun (A : Int × Int × Unit) => A.1) (u := fun (A : Int × Int × Unit) => A.2.1) (wCons (wInt 1) (wCons (wCall (wCons (wVar 0 (eT eI) value41) wNil) (fun (A : (List Int) × Unit) => (opLenT (e := eI)) A.1)) wNil))) (fun at42 => (wBin (wBin (wVar 0 (eT eI) value41) (wBin (wVar 1 eI at42) (wInt 1) (fun A B => opSub A B)) (fun A B => (opIxT (e := eI)) A B)) (wBin (wVar 0 (eT eI) value41) (wVar 1 eI at42) (fun A B => (opIxT (e := eI)) A B)) (fun A B => opLtI A B)))) wNil) (fun (A : (List Bool) × Unit) => opAll A.1))))
  try dsimp only [retW, ifW, andW, orW] at h
  unfold t_rises
  try dsimp only [retW, ifW, andW, orW]
  exact cwOf (nl := 2) (fun (w : Unit) => [some (.val ((eT eI) value41)), none]) h
def t_is_cover (value35 : (List Int)) (block36 : Int) : PT Bool := fun Q => andW (fun Q => mapW value35 (fun (one37 : Int) Q => t_is_from one37 0 (block36 - 1) fun r49 => Q r49) fun l48 => Q ((l48).all id)) (fun Q => t_rises value35 fun r50 => Q r50) fun b47 => Q b47
theorem tw_is_cover (value35 : (List Int)) (block36 : Int) : CW c_is_cover [.val ((eT eI) value35), .val (eI block36)] (vV eB) (t_is_cover value35 block36) := by
  have h : WN false m_is_cover (fun (w : Unit) => [some (.val ((eT eI) value35)), some (.val (eI block36)), none]) (vV eB) (fun _ _ => .val .none) _ := (nF (fRet (v := fun A => A) (wAndT (wIsi (b := true) (d1 := fun A => (eT eI) A) (wVar 0 (eT eI) value35)) (wAnd (wCall (wCons (wMap (R0 := (fun (w : Unit) => [some (.val ((eT eI) value35)), some (.val (eI block36)), none])) (Rb := (fun (one37 : Int) (w : Unit) => [some (.val ((eT eI) value35)), some (.val (eI block36)), some (.val (eI one37))])) (Rc := (fun (one37 : Int) (w : Unit) => [some (.val ((eT eI) value35)), some (.val (eI block36)), some (.val (eI one37))])) (e' := eB) (v := fun one37 A => A) (wSeq (e := eI) (l := fun A => A) (wVar 0 (eT eI) value35)) (fun one37 => (wCallV (wCons (wVar 2 eI one37) (wCons (wInt 0) (wCons (wBin (wVar 1 eI block36) (wInt 1) (fun A B => opSub A B)) wNil))) (fun (A : Int × Int × Int × Unit) => tw_is_from A.1 A.2.1 A.2.2.1)))) wNil) (fun (A : (List Bool) × Unit) => opAll A.1)) (wCallV (wCons (wVar 0 (eT eI) value35) wNil) (fun (A : (List Int) × Unit) => tw_rises A.1))))))
  try dsimp only [retW, ifW, andW, orW] at h
  unfold t_is_cover
  try dsimp only [retW, ifW, andW, orW]
  exact cwOf (nl := 3) (fun (w : Unit) => [some (.val ((eT eI) value35)), some (.val (eI block36)), none]) h
def eC_Ground (A : (List (List Int))) : D := objD 0 [(eT (eT eI)) A]
instance : NN eC_Ground := ⟨fun _ h => nomatch h⟩
theorem opF_Ground_table (A : (List (List Int))) : Op1 (fldD (fnsOf cs) "table") (eC_Ground A) (vV (eT (eT eI))) (fun Q => Q A) := fun Q q => ⟨_, q, rfl⟩
theorem opP_Ground_covers (A : (List (List Int))) : Op1 (propD (fnsOf cs) 0 "table") (eC_Ground A) (vV (eT (eT eI))) (fun Q => Q A) := fun Q q => ⟨_, q, rfl⟩
def t_Ground___init__ (covers32 : (List (List Int))) : PT (List (List Int)) := fun Q => (!(decide (1 ≤ (covers32.length : Int)) && decide ((covers32.length : Int) ≤ 10))) = false ∧ (forW (fun (p34 : (Int × (List Int))) (s33 : Unit) Q => t_is_cover p34.2 p34.1 fun r53 => (!r53) = false ∧ (Q ())) (enumL covers32) () fun (v51 : Unit) => retW (covers32 : (List (List Int))) fun table52 => Q table52)
theorem tw_Ground___init__ (covers32 : (List (List Int))) : CIn c_Ground___init__ 0 [.val ((eT (eT eI)) covers32)] (fun (A : (List (List Int))) => [(eT (eT eI)) A]) (t_Ground___init__ covers32) := by
  have h : WN true m_Ground___init__ (fun (w : Unit) => [some (.own (.ins 0 [])), some (.val ((eT (eT eI)) covers32)), none, none]) (fun _ => .val .none) (fun a _ => .own (.ins 0 ((fun (A : (List (List Int))) => [(eT (eT eI)) A]) a))) _ := (nSeq (sIfBad (wTOrF (wTNot (wTb (wIsi (b := true) (d1 := fun A => (eT (eT eI)) A) (wVar 1 (eT (eT eI)) covers32)))) (wTNot (wTb (wChain2 (wInt 1) (wCall (wCons (wVar 1 (eT (eT eI)) covers32) wNil) (fun (A : (List (List Int)) × Unit) => (opLenT (e := (eT eI))) A.1)) (wInt 10) (fun A B => opLeI A B) (fun A B => opLeI A B))))) sPassW) (fun (_ : Unit) => (nSeq (sForW (R1 := (fun (w : Unit) => [some (.own (.ins 0 [])), some (.val ((eT (eT eI)) covers32)), none, none])) (K0 := (fun (s33 : Unit) (w : Unit) => [some (.own (.ins 0 [])), some (.val ((eT (eT eI)) covers32)), none, none])) (Kb := (fun (p34 : (Int × (List Int))) (s33 : Unit) (w : Unit) => [some (.own (.ins 0 [])), some (.val ((eT (eT eI)) covers32)), some (.val (eI p34.1)), some (.val ((eT eI) p34.2))])) () (wEnum (e := (eT eI)) (l := fun A => A) (wVar 1 (eT (eT eI)) covers32)) (fun (p34 : (Int × (List Int))) (s33 : Unit) => (sKillK (sReK (ks := [2, 3]) (K' := (fun (s33 : Unit) (w : Unit) => [some (.own (.ins 0 [])), some (.val ((eT (eT eI)) covers32)), none, none])) (fun (_ : Unit) => ()) (sIfBad (wTNot (wTb (wCallV (wCons (wVar 3 (eT eI) p34.2) (wCons (wVar 2 eI p34.1) wNil)) (fun (A : (List Int) × Int × Unit) => tw_is_cover A.1 A.2.1)))) sPassW))))) (fun (v51 : Unit) => (nS (v := fun (table52 : (List (List Int))) => table52) (sFldW (K := (fun (table52 : (List (List Int))) (w : Unit) => [some (.own (.ins 0 [(eT (eT eI)) table52])), some (.val ((eT (eT eI)) covers32)), none, none])) (wVar 1 (eT (eT eI)) covers32)))))))
  try dsimp only [retW, ifW, andW, orW] at h
  unfold t_Ground___init__
  try dsimp only [retW, ifW, andW, orW]
  exact ciOf (nl := 4) (fun (w : Unit) => [some (.own (.ins 0 [])), some (.val ((eT (eT eI)) covers32)), none, none]) h
def t_l_pick (things63 : (List Int)) : PT Int := fun Q => takenW (things63.length : Int) fun r64 => ixW things63 r64 fun r65 => Q r65
theorem tw_l_pick (things63 : (List Int)) : CR c__law_pick (fun w => .own (row w)) [.val ((eL eI) things63)] (vV eI) (t_l_pick things63) := by
  have h : WN true m__law_pick (fun (w : RW) => [some (.own (row w)), some (.val ((eL eI) things63))]) (vV eI) (fun _ w => .own (row w)) _ := (nF (fRet (v := fun A => A) (wBin (wVar 1 (eL eI) things63) (wCallI (rs := fun (A : Unit × Int × Unit) => [Rv.sv (.val (eI A.2.1))]) (row := row) (wCons (wPlc0 0) (wCons (wCall (wCons (wVar 1 (eL eI) things63) wNil) (fun (A : (List Int) × Unit) => (opLenL (e := eI)) A.1)) wNil)) (fun (A : Unit × Int × Unit) => cr_taken A.2.1)) (fun A B => (opIxL (e := eI)) A B))))
  try dsimp only [retW, ifW, andW, orW] at h
  unfold t_l_pick
  try dsimp only [retW, ifW, andW, orW]
  exact crOf (nl := 2) (row := row) (fun (w : RW) => [some (.own (row w)), some (.val ((eL eI) things63))]) h
def t_l_order (covers_here54 : (List (List Int))) : PT (List Int) := fun Q => retW (([] : (List Int)) : (List Int)) fun found55 => rangeW (covers_here54.length : Int) fun r75 => forW (fun (turn57 : Int) (s56 : (List Int)) Q => rangeW (covers_here54.length : Int) fun r74 => compW r74 (fun (k58 : Int) Q => Q (!decide (k58 ∈ s56))) (fun (k58 : Int) Q => Q k58) fun left59 => compW left59 (fun (k60 : Int) Q => ixW covers_here54 k60 fun r72 => compW r72 (fun (one61 : Int) Q => Q (!decide (one61 ∈ s56))) (fun (one61 : Int) Q => Q one61) fun l71 => Q (decide (l71 = ([] : (List Int))))) (fun (k60 : Int) Q => Q k60) fun able62 => t_l_pick able62 fun r68 => catW s56 [r68] fun found66 => Q found66) r75 found55 fun (v67 : (List Int)) => Q v67
theorem tw_l_order (covers_here54 : (List (List Int))) : CR c__law_order (fun w => .own (row w)) [.val ((eT (eT eI)) covers_here54)] (vV (eXt eI)) (t_l_order covers_here54) := by
  have h : WN true m__law_order (fun (w : RW) => [some (.own (row w)), some (.val ((eT (eT eI)) covers_here54)), none, none, none, none, none, none]) (vV (eXt eI)) (fun _ w => .own (row w)) _ := (nSeq (sAsg (K := (fun (found55 : (List Int)) (w : RW) => [some (.own (row w)), some (.val ((eT (eT eI)) covers_here54)), some (.val ((eXt eI) found55)), none, none, none, none, none])) (wTupX (e := (eXt eI)) (f := (fun (A : Unit) => ([] : (List Int)))) wNil (fun _ => rfl))) (fun (found55 : (List Int)) => (nSeq (sForW (R1 := (fun (w : RW) => [some (.own (row w)), some (.val ((eT (eT eI)) covers_here54)), some (.val ((eXt eI) found55)), none, none, none, none, none])) (K0 := (fun (s56 : (List Int)) (w : RW) => [some (.own (row w)), some (.val ((eT (eT eI)) covers_here54)), some (.val ((eXt eI) s56)), none, none, none, none, none])) (Kb := (fun (turn57 : Int) (s56 : (List Int)) (w : RW) => [some (.own (row w)), some (.val ((eT (eT eI)) covers_here54)), some (.val ((eXt eI) s56)), some (.val (eI turn57)), none, none, none, none])) found55 (wRng1 (v := fun (A : Int × Unit) => A.1) (wCons (wCall (wCons (wVar 1 (eT (eT eI)) covers_here54) wNil) (fun (A : (List (List Int)) × Unit) => (opLenT (e := (eT eI))) A.1)) wNil)) (fun (turn57 : Int) (s56 : (List Int)) => (sKillK (sSeqK (sAsg (K := (fun (left59 : (List Int)) (w : RW) => [some (.own (row w)), some (.val ((eT (eT eI)) covers_here54)), some (.val ((eXt eI) s56)), some (.val (eI turn57)), some (.own (.lst (List.map eI left59))), none, none, none])) (wComp (R0 := (fun (w : RW) => [some (.own (row w)), some (.val ((eT (eT eI)) covers_here54)), some (.val ((eXt eI) s56)), some (.val (eI turn57)), none, none, none, none])) (Rb := (fun (k58 : Int) (w : RW) => [some (.own (row w)), some (.val ((eT (eT eI)) covers_here54)), some (.val ((eXt eI) s56)), some (.val (eI turn57)), none, none, some (.val (eI k58)), none])) (Rc := (fun (k58 : Int) (w : RW) => [some (.own (row w)), some (.val ((eT (eT eI)) covers_here54)), some (.val ((eXt eI) s56)), some (.val (eI turn57)), none, none, some (.val (eI k58)), none])) (e' := eI) (v := fun k58 A => A) (wRng1 (v := fun (A : Int × Unit) => A.1) (wCons (wCall (wCons (wVar 1 (eT (eT eI)) covers_here54) wNil) (fun (A : (List (List Int)) × Unit) => (opLenT (e := (eT eI))) A.1)) wNil)) (fun k58 => (wTb (wBin (wVar 6 eI k58) (wVar 2 (eXt eI) s56) (fun A B => (opNotInX (e := eI)) A B)))) (fun k58 => (wVar 6 eI k58)))) (fun (left59 : (List Int)) => (sSeqK (sAsg (K := (fun (able62 : (List Int)) (w : RW) => [some (.own (row w)), some (.val ((eT (eT eI)) covers_here54)), some (.val ((eXt eI) s56)), some (.val (eI turn57)), some (.val ((eL eI) left59)), some (.own (.lst (List.map eI able62))), none, none])) (wComp (R0 := (fun (w : RW) => [some (.own (row w)), some (.val ((eT (eT eI)) covers_here54)), some (.val ((eXt eI) s56)), some (.val (eI turn57)), some (.val ((eL eI) left59)), none, none, none])) (Rb := (fun (k60 : Int) (w : RW) => [some (.own (row w)), some (.val ((eT (eT eI)) covers_here54)), some (.val ((eXt eI) s56)), some (.val (eI turn57)), some (.val ((eL eI) left59)), none, some (.val (eI k60)), none])) (Rc := (fun (k60 : Int) (w : RW) => [some (.own (row w)), some (.val ((eT (eT eI)) covers_here54)), some (.val ((eXt eI) s56)), some (.val (eI turn57)), some (.val ((eL eI) left59)), none, some (.val (eI k60)), none])) (e' := eI) (v := fun k60 A => A) (wSeq (e := eI) (l := fun A => left59) (R2 := (fun (w : RW) => [some (.own (row w)), some (.val ((eT (eT eI)) covers_here54)), some (.val ((eXt eI) s56)), some (.val (eI turn57)), some (.val ((eL eI) left59)), none, none, none])) (wPlc 4 (.lst (List.map eI left59)))) (fun k60 => (wTb (wBin (wComp (R0 := (fun (w : RW) => [some (.own (row w)), some (.val ((eT (eT eI)) covers_here54)), some (.val ((eXt eI) s56)), some (.val (eI turn57)), some (.val ((eL eI) left59)), none, some (.val (eI k60)), none])) (Rb := (fun (one61 : Int) (w : RW) => [some (.own (row w)), some (.val ((eT (eT eI)) covers_here54)), some (.val ((eXt eI) s56)), some (.val (eI turn57)), some (.val ((eL eI) left59)), none, some (.val (eI k60)), some (.val (eI one61))])) (Rc := (fun (one61 : Int) (w : RW) => [some (.own (row w)), some (.val ((eT (eT eI)) covers_here54)), some (.val ((eXt eI) s56)), some (.val (eI turn57)), some (.val ((eL eI) left59)), none, some (.val (eI k60)), some (.val (eI one61))])) (e' := eI) (v := fun one61 A => A) (wSeq (e := eI) (l := fun A => A) (wBin (wVar 1 (eT (eT eI)) covers_here54) (wVar 6 eI k60) (fun A B => (opIxT (e := (eT eI))) A B))) (fun one61 => (wTb (wBin (wVar 7 eI one61) (wVar 2 (eXt eI) s56) (fun A B => (opNotInX (e := eI)) A B)))) (fun one61 => (wVar 7 eI one61))) (wLst (e := eI) (f := (fun (A : Unit) => ([] : (List Int)))) wNil) (fun A B => (opEq (e := (eL eI))) A B)))) (fun k60 => (wVar 6 eI k60)))) (fun (able62 : (List Int)) => (sReK (ks := [3, 4, 5]) (K' := (fun (s56 : (List Int)) (w : RW) => [some (.own (row w)), some (.val ((eT (eT eI)) covers_here54)), some (.val ((eXt eI) s56)), none, none, none, none, none])) (fun (found66 : (List Int)) => found66) (sAsg (K := (fun (found66 : (List Int)) (w : RW) => [some (.own (row w)), some (.val ((eT (eT eI)) covers_here54)), some (.val ((eXt eI) found66)), some (.val (eI turn57)), some (.val ((eL eI) left59)), some (.own (.lst (List.map eI able62))), none, none])) (wBin (wVar 2 (eXt eI) s56) (wTupX (e := (eXt eI)) (f := (fun (A : Int × Unit) => [A.1])) (wCons (wCallIN (rs := fun (A : Unit × Unit × Unit) => [Rv.plc 5]) (wCons (wPlc0 0) (wCons (wPlc 5 (.lst (List.map eI able62))) wNil)) (fun (A : Unit × Unit × Unit) => tw_l_pick able62) nlV) wNil) (fun _ => rfl)) (fun A B => (opAddXX (e := eI)) A B))))))))))) (fun (v67 : (List Int)) => (nF (fRet (v := fun A => A) (wVar 2 (eXt eI) v67)))))))
  try dsimp only [retW, ifW, andW, orW] at h
  unfold t_l_order
  try dsimp only [retW, ifW, andW, orW]
  exact crOf (nl := 8) (row := row) (fun (w : RW) => [some (.own (row w)), some (.val ((eT (eT eI)) covers_here54)), none, none, none, none, none, none]) h
def t_need_ground (ground87 : (List (List Int))) : PT Unit := fun Q => Q ()
theorem tw_need_ground (ground87 : (List (List Int))) : CW c_need_ground [.val (eC_Ground ground87)] (vV eU) (t_need_ground ground87) := by
  have h : WN false m_need_ground (fun (w : Unit) => [some (.val (eC_Ground ground87))]) (vV eU) (fun _ _ => .val .none) _ := (nS (v := fun _ => ()) (sIfFalse (wTNot (wTb (wIsi (b := true) (d1 := fun A => eC_Ground A) (wVar 0 eC_Ground ground87)))) sPassW))
  try dsimp only [retW, ifW, andW, orW] at h
  unfold t_need_ground
  try dsimp only [retW, ifW, andW, orW]
  exact cwOf (nl := 1) (fun (w : Unit) => [some (.val (eC_Ground ground87))]) h
def t_Ground___len__ (self90 : (List (List Int))) : PT Int := fun Q => Q (self90.length : Int)
theorem tw_Ground___len__ (self90 : (List (List Int))) : CW c_Ground___len__ [.val (eC_Ground self90)] (vV eI) (t_Ground___len__ self90) := by
  have h : WN false m_Ground___len__ (fun (w : Unit) => [some (.val (eC_Ground self90))]) (vV eI) (fun _ _ => .val .none) _ := (nF (fRet (v := fun A => A) (wCall (wCons (wUn (wVar 0 eC_Ground self90) (fun A => opF_Ground_table A)) wNil) (fun (A : (List (List Int)) × Unit) => (opLenT (e := (eT eI))) A.1))))
  try dsimp only [retW, ifW, andW, orW] at h
  unfold t_Ground___len__
  try dsimp only [retW, ifW, andW, orW]
  exact cwOf (nl := 1) (fun (w : Unit) => [some (.val (eC_Ground self90))]) h
def t_is_block (ground92 : (List (List Int))) (value93 : Int) : PT Bool := fun Q => t_Ground___len__ ground92 fun n95 => lenOk n95 = true ∧ (t_is_from value93 0 (n95 - 1) fun r94 => Q r94)
theorem tw_is_block (ground92 : (List (List Int))) (value93 : Int) : CW c_is_block [.val (eC_Ground ground92), .val (eI value93)] (vV eB) (t_is_block ground92 value93) := by
  have h : WN false m_is_block (fun (w : Unit) => [some (.val (eC_Ground ground92)), some (.val (eI value93))]) (vV eB) (fun _ _ => .val .none) _ := (nF (fRet (v := fun A => A) (wCallV (wCons (wVar 1 eI value93) (wCons (wInt 0) (wCons (wBin (wLenO (wVar 0 eC_Ground ground92) (fun A => tw_Ground___len__ A)) (wInt 1) (fun A B => opSub A B)) wNil))) (fun (A : Int × Int × Int × Unit) => tw_is_from A.1 A.2.1 A.2.2.1))))
  try dsimp only [retW, ifW, andW, orW] at h
  unfold t_is_block
  try dsimp only [retW, ifW, andW, orW]
  exact cwOf (nl := 2) (fun (w : Unit) => [some (.val (eC_Ground ground92)), some (.val (eI value93))]) h
def t_is_order (ground88 : (List (List Int))) (value89 : (List Int)) : PT Bool := fun Q => orW (fun Q => t_Ground___len__ ground88 fun n102 => lenOk n102 = true ∧ (Q (!decide ((value89.length : Int) = n102)))) (fun Q => mapW value89 (fun (one91 : Int) Q => t_is_block ground88 one91 fun r104 => Q r104) fun l103 => Q (!((l103).all id))) fun b101 => if b101 = true then Q false else (Nat.ble (value89).length 3999 = true ∧ if (decide (((dd value89).length : Int) < (value89.length : Int))) = true then Q false else comp2W (enumL value89) (fun (p96 : (Int × Int)) Q => Q true) (fun (p96 : (Int × Int)) Q => ixW ground88 p96.2 fun r99 => Q r99) (fun (p96 : (Int × Int)) (one97 : Int) Q => Q true) (fun (p96 : (Int × Int)) (one97 : Int) Q => tixW value89 one97 fun r100 => Q (decide (r100 < p96.1))) fun l98 => Q ((l98).all id))
theorem tw_is_order (ground88 : (List (List Int))) (value89 : (List Int)) : CW c_is_order [.val (eC_Ground ground88), .val ((eXt eI) value89)] (vV eB) (t_is_order ground88 value89) := by
  have h : WN false m_is_order (fun (w : Unit) => [some (.val (eC_Ground ground88)), some (.val ((eXt eI) value89)), none, none, none]) (vV eB) (fun _ _ => .val .none) _ := (nIfRet (wTOrF (wTNot (wTb (wIsi (b := true) (d1 := fun A => (eXt eI) A) (wVar 1 (eXt eI) value89)))) (wTOr (wTb (wBin (wCall (wCons (wVar 1 (eXt eI) value89) wNil) (fun (A : (List Int) × Unit) => (opLenX (e := eI)) A.1)) (wLenO (wVar 0 eC_Ground ground88) (fun A => tw_Ground___len__ A)) (fun A B => (opNe (e := eI)) A B))) (wTNot (wTb (wCall (wCons (wMap (R0 := (fun (w : Unit) => [some (.val (eC_Ground ground88)), some (.val ((eXt eI) value89)), none, none, none])) (Rb := (fun (one91 : Int) (w : Unit) => [some (.val (eC_Ground ground88)), some (.val ((eXt eI) value89)), some (.val (eI one91)), none, none])) (Rc := (fun (one91 : Int) (w : Unit) => [some (.val (eC_Ground ground88)), some (.val ((eXt eI) value89)), some (.val (eI one91)), none, none])) (e' := eB) (v := fun one91 A => A) (wSeq (e := eI) (l := fun A => A) (wVar 1 (eXt eI) value89)) (fun one91 => (wCallV (wCons (wVar 0 eC_Ground ground88) (wCons (wVar 2 eI one91) wNil)) (fun (A : (List (List Int)) × Int × Unit) => tw_is_block A.1 A.2.1)))) wNil) (fun (A : (List Bool) × Unit) => opAll A.1)))))) (fRet (v := fun A => A) (wBl false)) sPassW (fun _ => (nIfRet (wTb (wBin (wUn (wVar 1 (eXt eI) value89) (fun A => opLenSetX A)) (wCall (wCons (wVar 1 (eXt eI) value89) wNil) (fun (A : (List Int) × Unit) => (opLenX (e := eI)) A.1)) (fun A B => opLtI A B))) (fRet (v := fun A => A) (wBl false)) sPassW (fun _ => (nF (fRet (v := fun A => A) (wCall (wCons (wComp2 (R0 := (fun (w : Unit) => [some (.val (eC_Ground ground88)), some (.val ((eXt eI) value89)), none, none, none])) (Rb := (fun (p96 : (Int × Int)) (w : Unit) => [some (.val (eC_Ground ground88)), some (.val ((eXt eI) value89)), none, some (.val (eI p96.1)), some (.val (eI p96.2))])) (Rb0 := (fun (p96 : (Int × Int)) (w : Unit) => [some (.val (eC_Ground ground88)), some (.val ((eXt eI) value89)), none, some (.val (eI p96.1)), some (.val (eI p96.2))])) (Rc := (fun (p96 : (Int × Int)) (one97 : Int) (w : Unit) => [some (.val (eC_Ground ground88)), some (.val ((eXt eI) value89)), some (.val (eI one97)), some (.val (eI p96.1)), some (.val (eI p96.2))])) (Rd := (fun (p96 : (Int × Int)) (one97 : Int) (w : Unit) => [some (.val (eC_Ground ground88)), some (.val ((eXt eI) value89)), some (.val (eI one97)), some (.val (eI p96.1)), some (.val (eI p96.2))])) (e' := eB) (v := fun p96 one97 A => A) (wEnum (e := eI) (l := fun A => A) (wVar 1 (eXt eI) value89)) (fun p96 => wYes) (fun p96 => (wSeq (e := eI) (l := fun A => A) (wBin (wUn (wVar 0 eC_Ground ground88) (fun A => opF_Ground_table A)) (wVar 4 eI p96.2) (fun A B => (opIxT (e := (eT eI))) A B)))) (fun p96 one97 => wYes) (fun p96 one97 => (wBin (wTIx (l := value89) (wVar 2 eI one97)) (wVar 3 eI p96.1) (fun A B => opLtI A B)))) wNil) (fun (A : (List Bool) × Unit) => opAll A.1))))))))
  try dsimp only [retW, ifW, andW, orW] at h
  unfold t_is_order
  try dsimp only [retW, ifW, andW, orW]
  exact cwOf (nl := 5) (fun (w : Unit) => [some (.val (eC_Ground ground88)), some (.val ((eXt eI) value89)), none, none, none]) h
def t_need_order (ground85 : (List (List Int))) (order86 : (List Int)) : PT (Unit ⊕ Str) := fun Q => t_need_ground ground85 fun r106 => t_is_order ground85 order86 fun r105 => if (!r105) = true then Q (Sum.inr ("BadOrder" : Str)) else Q (Sum.inl ())
theorem tw_need_order (ground85 : (List (List Int))) (order86 : (List Int)) : CW c_need_order [.val (eC_Ground ground85), .val ((eXt eI) order86)] (vE payL (vV eU)) (t_need_order ground85 order86) := by
  have h : WN false m_need_order (fun (w : Unit) => [some (.val (eC_Ground ground85)), some (.val ((eXt eI) order86))]) (vE payL (vV eU)) (fun _ _ => .val .none) _ := (nSeq (sExprW (wCallV (wCons (wVar 0 eC_Ground ground85) wNil) (fun (A : (List (List Int)) × Unit) => tw_need_ground A.1))) (fun _ => (nIf (wTNot (wTb (wCallV (wCons (wVar 0 eC_Ground ground85) (wCons (wVar 1 (eXt eI) order86) wNil)) (fun (A : (List (List Int)) × (List Int) × Unit) => tw_is_order A.1 A.2.1)))) (nF fRaise) (nInl (nS (v := fun _ => ()) sPassW)))))
  try dsimp only [retW, ifW, andW, orW] at h
  unfold t_need_order
  try dsimp only [retW, ifW, andW, orW]
  exact cwOf (nl := 2) (fun (w : Unit) => [some (.val (eC_Ground ground85)), some (.val ((eXt eI) order86))]) h
def t_renamed (ground83 : (List (List Int))) (order84 : (List Int)) : PT ((List (List Int)) ⊕ Str) := fun Q => t_need_order ground83 order84 fun r115 => excW r115 (fun _ Q => mapW order84 (fun (block107 : Int) Q => ixW ground83 block107 fun r112 => mapW r112 (fun (one108 : Int) Q => tixW order84 one108 fun r113 => Q r113) fun l111 => sortW eI ltI l111 fun r114 => Q r114) fun l110 => t_Ground___init__ l110 fun ground109 => Q (Sum.inl (ground109))) Q
theorem tw_renamed (ground83 : (List (List Int))) (order84 : (List Int)) : CW c_renamed [.val (eC_Ground ground83), .val ((eXt eI) order84)] (vE payL (vV eC_Ground)) (t_renamed ground83 order84) := by
  have h : WN false m_renamed (fun (w : Unit) => [some (.val (eC_Ground ground83)), some (.val ((eXt eI) order84)), none, none]) (vE payL (vV eC_Ground)) (fun _ _ => .val .none) _ := (nExprX (wCallV (wCons (wVar 0 eC_Ground ground83) (wCons (wVar 1 (eXt eI) order84) wNil)) (fun (A : (List (List Int)) × (List Int) × Unit) => tw_need_order A.1 A.2.1)) (nF (fInl (fRet (v := fun A => A) (wMake (c := 0) (wCons (wCall (wCons (wMap (R0 := (fun (w : Unit) => [some (.val (eC_Ground ground83)), some (.val ((eXt eI) order84)), none, none])) (Rb := (fun (block107 : Int) (w : Unit) => [some (.val (eC_Ground ground83)), some (.val ((eXt eI) order84)), some (.val (eI block107)), none])) (Rc := (fun (block107 : Int) (w : Unit) => [some (.val (eC_Ground ground83)), some (.val ((eXt eI) order84)), some (.val (eI block107)), none])) (e' := (eT eI)) (v := fun block107 A => A) (wSeq (e := eI) (l := fun A => A) (wVar 1 (eXt eI) order84)) (fun block107 => (wCall (wCons (wCall (wCons (wMap (R0 := (fun (w : Unit) => [some (.val (eC_Ground ground83)), some (.val ((eXt eI) order84)), some (.val (eI block107)), none])) (Rb := (fun (one108 : Int) (w : Unit) => [some (.val (eC_Ground ground83)), some (.val ((eXt eI) order84)), some (.val (eI block107)), some (.val (eI one108))])) (Rc := (fun (one108 : Int) (w : Unit) => [some (.val (eC_Ground ground83)), some (.val ((eXt eI) order84)), some (.val (eI block107)), some (.val (eI one108))])) (e' := eI) (v := fun one108 A => A) (wSeq (e := eI) (l := fun A => A) (wBin (wUn (wVar 0 eC_Ground ground83) (fun A => opF_Ground_table A)) (wVar 2 eI block107) (fun A B => (opIxT (e := (eT eI))) A B))) (fun one108 => (wTIx (l := order84) (wVar 3 eI one108)))) wNil) (fun (A : (List Int) × Unit) => (opSorted (e := eI)) A.1)) wNil) (fun (A : (List Int) × Unit) => (opTupL (e := eI)) A.1)))) wNil) (fun (A : (List (List Int)) × Unit) => (opTupL (e := (eT eI))) A.1)) wNil) (fun (A : (List (List Int)) × Unit) => tw_Ground___init__ A.1))))))
  try dsimp only [retW, ifW, andW, orW] at h
  unfold t_renamed
  try dsimp only [retW, ifW, andW, orW]
  exact cwOf (nl := 4) (fun (w : Unit) => [some (.val (eC_Ground ground83)), some (.val ((eXt eI) order84)), none, none]) h
def t_l_told (ground80 : (List (List Int))) (order_here81 : (List Int)) : PT ((List (List Int)) ⊕ Str) := fun Q => retW ((Sum.inr ("order" : Str) : ((List (List Int)) ⊕ Str)) : ((List (List Int)) ⊕ Str)) fun found82 => t_renamed ground80 order_here81 fun r119 => excW r119 (fun (a116 : (List (List Int))) Q => Q (Sum.inl a116)) fun r118 => tryW r118 ["BadOrder"] (fun (A : (List (List Int))) => (fun (found117 : ((List (List Int)) ⊕ Str)) => Q found117) ((fun (A : (List (List Int))) => (fun x : (List (List Int)) => (Sum.inl x : ((List (List Int)) ⊕ Str))) A) A)) (fun y => if y ∈ (["BadOrder"] : List Str) then (fun (found117 : ((List (List Int)) ⊕ Str)) => Q found117) ((fun x : Str => (Sum.inr x : ((List (List Int)) ⊕ Str))) ("order" : Str)) else False)
theorem tw_l_told (ground80 : (List (List Int))) (order_here81 : (List Int)) : CW c__law_told [.val (eC_Ground ground80), .val ((eXt eI) order_here81)] (vV (eX (eT (eT eI)) eS)) (t_l_told ground80 order_here81) := by
  have h : WN false m__law_told (fun (w : Unit) => [some (.val (eC_Ground ground80)), some (.val ((eXt eI) order_here81)), none, none]) (vV (eX (eT (eT eI)) eS)) (fun _ _ => .val .none) _ := (nSeq (sAsg (K := (fun (found82 : ((List (List Int)) ⊕ Str)) (w : Unit) => [some (.val (eC_Ground ground80)), some (.val ((eXt eI) order_here81)), some (.val ((eX (eT (eT eI)) eS) found82)), none])) (wInr (e := (eT (eT eI))) (f := eS) (wStr "order"))) (fun (found82 : ((List (List Int)) ⊕ Str)) => (nSeq (sTryAs1 (K := (fun (found117 : ((List (List Int)) ⊕ Str)) (w : Unit) => [some (.val (eC_Ground ground80)), some (.val ((eXt eI) order_here81)), some (.val ((eX (eT (eT eI)) eS) found117)), none])) (v := (fun (A : (List (List Int))) => (fun x : (List (List Int)) => (Sum.inl x : ((List (List Int)) ⊕ Str))) A)) (u := ((fun x : Str => (Sum.inr x : ((List (List Int)) ⊕ Str))) ("order" : Str))) (wX (s := (vV eC_Ground)) (s' := (vV (eT (eT eI)))) (wCallV (wCons (wVar 0 eC_Ground ground80) (wCons (wVar 1 (eXt eI) order_here81) wNil)) (fun (A : (List (List Int)) × (List Int) × Unit) => tw_renamed A.1 A.2.1)) (fun (a116 : (List (List Int))) => (wUn (wR (vV eC_Ground) a116) (fun A => opP_Ground_covers A))))) (fun (found117 : ((List (List Int)) ⊕ Str)) => (nF (fRet (v := fun A => A) (wVar 2 (eX (eT (eT eI)) eS) found117)))))))
  try dsimp only [retW, ifW, andW, orW] at h
  unfold t_l_told
  try dsimp only [retW, ifW, andW, orW]
  exact cwOf (nl := 4) (fun (w : Unit) => [some (.val (eC_Ground ground80)), some (.val ((eXt eI) order_here81)), none, none]) h
def t_l_worths (many120 : Int) : PT (List Int) := fun Q => takenW 6 fun r132 => retW ((([] : (List Int)) : (List Int)), (r132 : Int), ()) fun (A121 : (List Int) × Int × Unit) => rangeW many120 fun r131 => forW (fun (block123 : Int) (s122 : (List Int)) Q => ixW [3, 5, 9, 51, 51, 2] A121.2.1 fun r127 => takenW r127 fun r128 => ixW [3, 5, 9, 51, 4, 2] A121.2.1 fun r129 => takenW r129 fun r130 => retW ((r128 : Int), (r130 : Int), ()) fun (A124 : Int × Int × Unit) => appW s122 (A124.2.1 - A124.1) fun found125 => Q found125) r131 A121.1 fun (v126 : (List Int)) => Q v126
theorem tw_l_worths (many120 : Int) : CR c__law_worths (fun w => .own (row w)) [.val (eI many120)] (vV (eT eI)) (t_l_worths many120) := by
  have h : WN true m__law_worths (fun (w : RW) => [some (.own (row w)), some (.val (eI many120)), none, none, none, none, none]) (vV (eT eI)) (fun _ w => .own (row w)) _ := (nSeq (sParW (K := (fun (A121 : (List Int) × Int × Unit) (w : RW) => [some (.own (row w)), some (.val (eI many120)), some (.own (.lst (List.map eI A121.1))), some (.val (eI A121.2.1)), none, none, none])) (wCons (wLst (e := eI) (f := (fun (A : Unit) => ([] : (List Int)))) wNil) (wCons (wCallI (rs := fun (A : Unit × Int × Unit) => [Rv.sv (.val (eI A.2.1))]) (row := row) (wCons (wPlc0 0) (wCons (wInt 6) wNil)) (fun (A : Unit × Int × Unit) => cr_taken A.2.1)) wNil))) (fun (A121 : (List Int) × Int × Unit) => (nSeq (sForW (R1 := (fun (w : RW) => [some (.own (row w)), some (.val (eI many120)), some (.own (.lst (List.map eI A121.1))), some (.val (eI A121.2.1)), none, none, none])) (K0 := (fun (s122 : (List Int)) (w : RW) => [some (.own (row w)), some (.val (eI many120)), some (.own (.lst (List.map eI s122))), some (.val (eI A121.2.1)), none, none, none])) (Kb := (fun (block123 : Int) (s122 : (List Int)) (w : RW) => [some (.own (row w)), some (.val (eI many120)), some (.own (.lst (List.map eI s122))), some (.val (eI A121.2.1)), some (.val (eI block123)), none, none])) A121.1 (wRng1 (v := fun (A : Int × Unit) => A.1) (wCons (wVar 1 eI many120) wNil)) (fun (block123 : Int) (s122 : (List Int)) => (sKillK (sSeqK (sParW (K := (fun (A124 : Int × Int × Unit) (w : RW) => [some (.own (row w)), some (.val (eI many120)), some (.own (.lst (List.map eI s122))), some (.val (eI A121.2.1)), some (.val (eI block123)), some (.val (eI A124.1)), some (.val (eI A124.2.1))])) (wCons (wCallI (rs := fun (A : Unit × Int × Unit) => [Rv.sv (.val (eI A.2.1))]) (row := row) (wCons (wPlc0 0) (wCons (wBin (wLst (e := eI) (f := (fun (A : Int × Int × Int × Int × Int × Int × Unit) => [A.1, A.2.1, A.2.2.1, A.2.2.2.1, A.2.2.2.2.1, A.2.2.2.2.2.1])) (wCons (wInt 3) (wCons (wInt 5) (wCons (wInt 9) (wCons (wInt 51) (wCons (wInt 51) (wCons (wInt 2) wNil))))))) (wVar 3 eI A121.2.1) (fun A B => (opIxL (e := eI)) A B)) wNil)) (fun (A : Unit × Int × Unit) => cr_taken A.2.1)) (wCons (wCallI (rs := fun (A : Unit × Int × Unit) => [Rv.sv (.val (eI A.2.1))]) (row := row) (wCons (wPlc0 0) (wCons (wBin (wLst (e := eI) (f := (fun (A : Int × Int × Int × Int × Int × Int × Unit) => [A.1, A.2.1, A.2.2.1, A.2.2.2.1, A.2.2.2.2.1, A.2.2.2.2.2.1])) (wCons (wInt 3) (wCons (wInt 5) (wCons (wInt 9) (wCons (wInt 51) (wCons (wInt 4) (wCons (wInt 2) wNil))))))) (wVar 3 eI A121.2.1) (fun A B => (opIxL (e := eI)) A B)) wNil)) (fun (A : Unit × Int × Unit) => cr_taken A.2.1)) wNil))) (fun (A124 : Int × Int × Unit) => (sReK (ks := [4, 5, 6]) (K' := (fun (s122 : (List Int)) (w : RW) => [some (.own (row w)), some (.val (eI many120)), some (.own (.lst (List.map eI s122))), some (.val (eI A121.2.1)), none, none, none])) (fun (found125 : List Int) => found125) (sMut (e := eI) (l := s122) (R2 := (fun (w : RW) => [some (.own (row w)), some (.val (eI many120)), some (.own (.lst (List.map eI s122))), some (.val (eI A121.2.1)), some (.val (eI block123)), some (.val (eI A124.1)), some (.val (eI A124.2.1))])) (K := (fun (found125 : List Int) (w : RW) => [some (.own (row w)), some (.val (eI many120)), some (.own (.lst (List.map eI found125))), some (.val (eI A121.2.1)), some (.val (eI block123)), some (.val (eI A124.1)), some (.val (eI A124.2.1))])) (wCons (wBin (wVar 6 eI A124.2.1) (wVar 5 eI A124.1) (fun A B => opSub A B)) wNil) (fun (A : Int × Unit) Q q => f_app (e := eI) A.1 Q q)))))))) (fun (v126 : (List Int)) => (nF (fRet (v := fun A => A) (wCall (wCons (wPlc 2 (.lst (List.map eI v126))) wNil) (fun (A : Unit × Unit) => (opTupL (e := eI)) v126))))))))
  try dsimp only [retW, ifW, andW, orW] at h
  unfold t_l_worths
  try dsimp only [retW, ifW, andW, orW]
  exact crOf (nl := 7) (row := row) (fun (w : RW) => [some (.own (row w)), some (.val (eI many120)), none, none, none, none, none]) h
def t_sized (lot146 : (List Int)) : PT (Int × (List Int)) := fun Q => Q ((lot146.length : Int), lot146)
theorem tw_sized (lot146 : (List Int)) : CW c_sized [.val ((eT eI) lot146)] (vV (eP eI (eT eI))) (t_sized lot146) := by
  have h : WN false m_sized (fun (w : Unit) => [some (.val ((eT eI) lot146))]) (vV (eP eI (eT eI))) (fun _ _ => .val .none) _ := (nF (fRet (v := fun A => A) (wTup (e := (eP eI (eT eI))) (f := (fun (A : Int × (List Int) × Unit) => (A.1, A.2.1))) (wCons (wCall (wCons (wVar 0 (eT eI) lot146) wNil) (fun (A : (List Int) × Unit) => (opLenT (e := eI)) A.1)) (wCons (wVar 0 (eT eI) lot146) wNil)) (fun _ => rfl))))
  try dsimp only [retW, ifW, andW, orW] at h
  unfold t_sized
  try dsimp only [retW, ifW, andW, orW]
  exact cwOf (nl := 1) (fun (w : Unit) => [some (.val ((eT eI) lot146))]) h
def t_pits_of (ground137 : (List (List Int))) : PT (List (List Int)) := fun Q => retW ([([] : (List Int))] : (List (List Int))) fun found138 => t_Ground___len__ ground137 fun n153 => lenOk n153 = true ∧ (rangeW n153 fun r154 => forW (fun (block140 : Int) (s139 : (List (List Int))) Q => ixW ground137 block140 fun firsts141 => compW s139 (fun (lot142 : (List Int)) Q => mapW firsts141 (fun (one143 : Int) Q => Q (decide (one143 ∈ lot142))) fun l149 => Q ((l149).all id)) (fun (lot142 : (List Int)) Q => sizW (lot142 ++ [block140]) fun r150 => Q r150) fun l148 => catW s139 l148 fun found144 => Q found144) r154 found138 fun (v145 : (List (List Int))) => sortKW (eP eI (eT eI)) (ltP ltI (ltLex ltI)) t_sized v145 fun r147 => Q r147)
theorem tw_pits_of (ground137 : (List (List Int))) : CW c_pits_of [.val (eC_Ground ground137)] (vL (eT eI)) (t_pits_of ground137) := by
  have h : WN false m_pits_of (fun (w : Unit) => [some (.val (eC_Ground ground137)), none, none, none, none, none]) (vL (eT eI)) (fun _ _ => .val .none) _ := (nSeq (sAsg (K := (fun (found138 : (List (List Int))) (w : Unit) => [some (.val (eC_Ground ground137)), some (.own (.lst (List.map (eT eI) found138))), none, none, none, none])) (wLst (e := (eT eI)) (f := (fun (A : (List Int) × Unit) => [A.1])) (wCons (wTup (e := (eT eI)) (f := (fun (A : Unit) => ([] : (List Int)))) wNil (fun _ => rfl)) wNil))) (fun (found138 : (List (List Int))) => (nSeq (sForW (R1 := (fun (w : Unit) => [some (.val (eC_Ground ground137)), some (.own (.lst (List.map (eT eI) found138))), none, none, none, none])) (K0 := (fun (s139 : (List (List Int))) (w : Unit) => [some (.val (eC_Ground ground137)), some (.own (.lst (List.map (eT eI) s139))), none, none, none, none])) (Kb := (fun (block140 : Int) (s139 : (List (List Int))) (w : Unit) => [some (.val (eC_Ground ground137)), some (.own (.lst (List.map (eT eI) s139))), some (.val (eI block140)), none, none, none])) found138 (wRng1 (v := fun (A : Int × Unit) => A.1) (wCons (wLenO (wVar 0 eC_Ground ground137) (fun A => tw_Ground___len__ A)) wNil)) (fun (block140 : Int) (s139 : (List (List Int))) => (sKillK (sSeqK (sAsg (K := (fun (firsts141 : (List Int)) (w : Unit) => [some (.val (eC_Ground ground137)), some (.own (.lst (List.map (eT eI) s139))), some (.val (eI block140)), some (.val ((eT eI) firsts141)), none, none])) (wBin (wUn (wVar 0 eC_Ground ground137) (fun A => opF_Ground_table A)) (wVar 2 eI block140) (fun A B => (opIxT (e := (eT eI))) A B))) (fun (firsts141 : (List Int)) => (sReK (ks := [2, 3]) (K' := (fun (s139 : (List (List Int))) (w : Unit) => [some (.val (eC_Ground ground137)), some (.own (.lst (List.map (eT eI) s139))), none, none, none, none])) (fun (found144 : (List (List Int))) => found144) (sAsg (K := (fun (found144 : (List (List Int))) (w : Unit) => [some (.val (eC_Ground ground137)), some (.own (.lst (List.map (eT eI) found144))), some (.val (eI block140)), some (.val ((eT eI) firsts141)), none, none])) (wBin (wPlc 1 (.lst (List.map (eT eI) s139))) (wComp (R0 := (fun (w : Unit) => [some (.val (eC_Ground ground137)), some (.val ((eL (eT eI)) s139)), some (.val (eI block140)), some (.val ((eT eI) firsts141)), none, none])) (Rb := (fun (lot142 : (List Int)) (w : Unit) => [some (.val (eC_Ground ground137)), some (.val ((eL (eT eI)) s139)), some (.val (eI block140)), some (.val ((eT eI) firsts141)), some (.val ((eT eI) lot142)), none])) (Rc := (fun (lot142 : (List Int)) (w : Unit) => [some (.val (eC_Ground ground137)), some (.val ((eL (eT eI)) s139)), some (.val (eI block140)), some (.val ((eT eI) firsts141)), some (.val ((eT eI) lot142)), none])) (e' := (eT eI)) (v := fun lot142 A => A) (wSeq (e := (eT eI)) (l := fun A => s139) (R2 := (fun (w : Unit) => [some (.val (eC_Ground ground137)), some (.val ((eL (eT eI)) s139)), some (.val (eI block140)), some (.val ((eT eI) firsts141)), none, none])) (wPlc 1 (.lst (List.map (eT eI) s139)))) (fun lot142 => (wTb (wCall (wCons (wMap (R0 := (fun (w : Unit) => [some (.val (eC_Ground ground137)), some (.val ((eL (eT eI)) s139)), some (.val (eI block140)), some (.val ((eT eI) firsts141)), some (.val ((eT eI) lot142)), none])) (Rb := (fun (one143 : Int) (w : Unit) => [some (.val (eC_Ground ground137)), some (.val ((eL (eT eI)) s139)), some (.val (eI block140)), some (.val ((eT eI) firsts141)), some (.val ((eT eI) lot142)), some (.val (eI one143))])) (Rc := (fun (one143 : Int) (w : Unit) => [some (.val (eC_Ground ground137)), some (.val ((eL (eT eI)) s139)), some (.val (eI block140)), some (.val ((eT eI) firsts141)), some (.val ((eT eI) lot142)), some (.val (eI one143))])) (e' := eB) (v := fun one143 A => A) (wSeq (e := eI) (l := fun A => A) (wVar 3 (eT eI) firsts141)) (fun one143 => (wBin (wVar 5 eI one143) (wVar 4 (eT eI) lot142) (fun A B => (opInT (e := eI)) A B)))) wNil) (fun (A : (List Bool) × Unit) => opAll A.1)))) (fun lot142 => (wTupL (alStar (e := eI) (d1 := fun A => A) (wVar 4 (eT eI) lot142) (alCons (e := eI) (wVar 2 eI block140) alNil))))) (fun A B => (opCatL (e := (eT eI))) s139 B))))))))) (fun (v145 : (List (List Int))) => (nF (fRet (v := fun A => A) (wCall (wCons (wPlc 1 (.lst (List.map (eT eI) v145))) wNil) (fun (A : Unit × Unit) => (opSortK (e := (eT eI)) (ek := (eP eI (eT eI))) tw_sized) v145))))))))
  try dsimp only [retW, ifW, andW, orW] at h
  unfold t_pits_of
  try dsimp only [retW, ifW, andW, orW]
  exact cwOf (nl := 6) (fun (w : Unit) => [some (.val (eC_Ground ground137)), none, none, none, none, none]) h
def t_all_pits (ground136 : (List (List Int))) : PT (List (List Int)) := fun Q => t_need_ground ground136 fun r156 => t_pits_of ground136 fun r155 => Q r155
theorem tw_all_pits (ground136 : (List (List Int))) : CW c_all_pits [.val (eC_Ground ground136)] (vL (eT eI)) (t_all_pits ground136) := by
  have h : WN false m_all_pits (fun (w : Unit) => [some (.val (eC_Ground ground136))]) (vL (eT eI)) (fun _ _ => .val .none) _ := (nSeq (sExprW (wCallV (wCons (wVar 0 eC_Ground ground136) wNil) (fun (A : (List (List Int)) × Unit) => tw_need_ground A.1))) (fun _ => (nF (fRet (v := fun A => A) (wCallV (wCons (wVar 0 eC_Ground ground136) wNil) (fun (A : (List (List Int)) × Unit) => tw_pits_of A.1))))))
  try dsimp only [retW, ifW, andW, orW] at h
  unfold t_all_pits
  try dsimp only [retW, ifW, andW, orW]
  exact cwOf (nl := 1) (fun (w : Unit) => [some (.val (eC_Ground ground136))]) h
def t_need_worths (ground162 : (List (List Int))) (worths163 : (List Int)) : PT Unit := fun Q => t_need_ground ground162 fun r168 => t_Ground___len__ ground162 fun n167 => lenOk n167 = true ∧ ((!decide ((worths163.length : Int) = n167)) = false ∧ (mapW worths163 (fun (worth164 : Int) Q => t_is_from worth164 (-50) 50 fun r166 => Q r166) fun l165 => if (!((l165).all id)) = true then False else Q ()))
theorem tw_need_worths (ground162 : (List (List Int))) (worths163 : (List Int)) : CW c_need_worths [.val (eC_Ground ground162), .val ((eT eI) worths163)] (vV eU) (t_need_worths ground162 worths163) := by
  have h : WN false m_need_worths (fun (w : Unit) => [some (.val (eC_Ground ground162)), some (.val ((eT eI) worths163)), none]) (vV eU) (fun _ _ => .val .none) _ := (nSeq (sExprW (wCallV (wCons (wVar 0 eC_Ground ground162) wNil) (fun (A : (List (List Int)) × Unit) => tw_need_ground A.1))) (fun _ => (nSeq (sIfBad (wTOrF (wTNot (wTb (wIsi (b := true) (d1 := fun A => (eT eI) A) (wVar 1 (eT eI) worths163)))) (wTb (wBin (wCall (wCons (wVar 1 (eT eI) worths163) wNil) (fun (A : (List Int) × Unit) => (opLenT (e := eI)) A.1)) (wLenO (wVar 0 eC_Ground ground162) (fun A => tw_Ground___len__ A)) (fun A B => (opNe (e := eI)) A B)))) sPassW) (fun (_ : Unit) => (nIf (wTNot (wTb (wCall (wCons (wMap (R0 := (fun (w : Unit) => [some (.val (eC_Ground ground162)), some (.val ((eT eI) worths163)), none])) (Rb := (fun (worth164 : Int) (w : Unit) => [some (.val (eC_Ground ground162)), some (.val ((eT eI) worths163)), some (.val (eI worth164))])) (Rc := (fun (worth164 : Int) (w : Unit) => [some (.val (eC_Ground ground162)), some (.val ((eT eI) worths163)), some (.val (eI worth164))])) (e' := eB) (v := fun worth164 A => A) (wSeq (e := eI) (l := fun A => A) (wVar 1 (eT eI) worths163)) (fun worth164 => (wCallV (wCons (wVar 2 eI worth164) (wCons (wUn (wInt 50) (fun A => opNeg A)) (wCons (wInt 50) wNil))) (fun (A : Int × Int × Int × Unit) => tw_is_from A.1 A.2.1 A.2.2.1)))) wNil) (fun (A : (List Bool) × Unit) => opAll A.1)))) (nF fBad) (nS (v := fun _ => ()) sPassW))))))
  try dsimp only [retW, ifW, andW, orW] at h
  unfold t_need_worths
  try dsimp only [retW, ifW, andW, orW]
  exact cwOf (nl := 3) (fun (w : Unit) => [some (.val (eC_Ground ground162)), some (.val ((eT eI) worths163)), none]) h
def t_sum_of (worths172 : (List Int)) (lot173 : (List Int)) : PT Int := fun Q => mapW lot173 (fun (block174 : Int) Q => ixW worths172 block174 fun r176 => Q r176) fun l175 => Q (l175).sum
theorem tw_sum_of (worths172 : (List Int)) (lot173 : (List Int)) : CW c_sum_of [.val ((eT eI) worths172), .val ((eT eI) lot173)] (vV eI) (t_sum_of worths172 lot173) := by
  have h : WN false m_sum_of (fun (w : Unit) => [some (.val ((eT eI) worths172)), some (.val ((eT eI) lot173)), none]) (vV eI) (fun _ _ => .val .none) _ := (nF (fRet (v := fun A => A) (wCall (wCons (wMap (R0 := (fun (w : Unit) => [some (.val ((eT eI) worths172)), some (.val ((eT eI) lot173)), none])) (Rb := (fun (block174 : Int) (w : Unit) => [some (.val ((eT eI) worths172)), some (.val ((eT eI) lot173)), some (.val (eI block174))])) (Rc := (fun (block174 : Int) (w : Unit) => [some (.val ((eT eI) worths172)), some (.val ((eT eI) lot173)), some (.val (eI block174))])) (e' := eI) (v := fun block174 A => A) (wSeq (e := eI) (l := fun A => A) (wVar 1 (eT eI) lot173)) (fun block174 => (wBin (wVar 0 (eT eI) worths172) (wVar 2 eI block174) (fun A B => (opIxT (e := eI)) A B)))) wNil) (fun (A : (List Int) × Unit) => opSum A.1))))
  try dsimp only [retW, ifW, andW, orW] at h
  unfold t_sum_of
  try dsimp only [retW, ifW, andW, orW]
  exact cwOf (nl := 3) (fun (w : Unit) => [some (.val ((eT eI) worths172)), some (.val ((eT eI) lot173)), none]) h
def t_greatest_of (worths169 : (List Int)) (some170 : (List (List Int))) : PT Int := fun Q => mapW some170 (fun (pit171 : (List Int)) Q => t_sum_of worths169 pit171 fun r178 => Q r178) fun l177 => maxW ltI l177 fun r179 => Q r179
theorem tw_greatest_of (worths169 : (List Int)) (some170 : (List (List Int))) : CW c_greatest_of [.val ((eT eI) worths169), .own (.lst (List.map (eT eI) some170))] (vV eI) (t_greatest_of worths169 some170) := by
  have h : WN false m_greatest_of (fun (w : Unit) => [some (.val ((eT eI) worths169)), some (.own (.lst (List.map (eT eI) some170))), none]) (vV eI) (fun _ _ => .val .none) _ := (nF (fRet (v := fun A => A) (wCall (wCons (wMap (R0 := (fun (w : Unit) => [some (.val ((eT eI) worths169)), some (.val ((eL (eT eI)) some170)), none])) (Rb := (fun (pit171 : (List Int)) (w : Unit) => [some (.val ((eT eI) worths169)), some (.val ((eL (eT eI)) some170)), some (.val ((eT eI) pit171))])) (Rc := (fun (pit171 : (List Int)) (w : Unit) => [some (.val ((eT eI) worths169)), some (.val ((eL (eT eI)) some170)), some (.val ((eT eI) pit171))])) (e' := eI) (v := fun pit171 A => A) (wSeq (e := (eT eI)) (l := fun A => some170) (R2 := (fun (w : Unit) => [some (.val ((eT eI) worths169)), some (.val ((eL (eT eI)) some170)), none])) (wPlc 1 (.lst (List.map (eT eI) some170)))) (fun pit171 => (wCallV (wCons (wVar 0 (eT eI) worths169) (wCons (wVar 2 (eT eI) pit171) wNil)) (fun (A : (List Int) × (List Int) × Unit) => tw_sum_of A.1 A.2.1)))) wNil) (fun (A : (List Int) × Unit) => (opMax (e := eI)) A.1))))
  try dsimp only [retW, ifW, andW, orW] at h
  unfold t_greatest_of
  try dsimp only [retW, ifW, andW, orW]
  exact cwOf (nl := 3) (fun (w : Unit) => [some (.val ((eT eI) worths169)), some (.own (.lst (List.map (eT eI) some170))), none]) h
def t_best_worth (ground160 : (List (List Int))) (worths161 : (List Int)) : PT Int := fun Q => t_need_worths ground160 worths161 fun r182 => t_pits_of ground160 fun r181 => t_greatest_of worths161 r181 fun r180 => Q r180
theorem tw_best_worth (ground160 : (List (List Int))) (worths161 : (List Int)) : CW c_best_worth [.val (eC_Ground ground160), .val ((eT eI) worths161)] (vV eI) (t_best_worth ground160 worths161) := by
  have h : WN false m_best_worth (fun (w : Unit) => [some (.val (eC_Ground ground160)), some (.val ((eT eI) worths161))]) (vV eI) (fun _ _ => .val .none) _ := (nSeq (sExprW (wCallV (wCons (wVar 0 eC_Ground ground160) (wCons (wVar 1 (eT eI) worths161) wNil)) (fun (A : (List (List Int)) × (List Int) × Unit) => tw_need_worths A.1 A.2.1))) (fun _ => (nF (fRet (v := fun A => A) (wCallV (wCons (wVar 1 (eT eI) worths161) (wCons (wCallV (wCons (wVar 0 eC_Ground ground160) wNil) (fun (A : (List (List Int)) × Unit) => tw_pits_of A.1)) wNil)) (fun (A : (List Int) × (List (List Int)) × Unit) => tw_greatest_of A.1 A.2.1))))))
  try dsimp only [retW, ifW, andW, orW] at h
  unfold t_best_worth
  try dsimp only [retW, ifW, andW, orW]
  exact cwOf (nl := 2) (fun (w : Unit) => [some (.val (eC_Ground ground160)), some (.val ((eT eI) worths161))]) h
def t_greatest_of_2 (worths188 : (List Int)) (some189 : (List (List Int))) : PT Int := fun Q => mapW some189 (fun (pit190 : (List Int)) Q => t_sum_of worths188 pit190 fun r192 => Q r192) fun l191 => maxW ltI l191 fun r193 => Q r193
theorem tw_greatest_of_2 (worths188 : (List Int)) (some189 : (List (List Int))) : CW c_greatest_of [.val ((eT eI) worths188), .val ((eL (eT eI)) some189)] (vV eI) (t_greatest_of_2 worths188 some189) := by
  have h : WN false m_greatest_of (fun (w : Unit) => [some (.val ((eT eI) worths188)), some (.val ((eL (eT eI)) some189)), none]) (vV eI) (fun _ _ => .val .none) _ := (nF (fRet (v := fun A => A) (wCall (wCons (wMap (R0 := (fun (w : Unit) => [some (.val ((eT eI) worths188)), some (.val ((eL (eT eI)) some189)), none])) (Rb := (fun (pit190 : (List Int)) (w : Unit) => [some (.val ((eT eI) worths188)), some (.val ((eL (eT eI)) some189)), some (.val ((eT eI) pit190))])) (Rc := (fun (pit190 : (List Int)) (w : Unit) => [some (.val ((eT eI) worths188)), some (.val ((eL (eT eI)) some189)), some (.val ((eT eI) pit190))])) (e' := eI) (v := fun pit190 A => A) (wSeq (e := (eT eI)) (l := fun A => A) (wVar 1 (eL (eT eI)) some189)) (fun pit190 => (wCallV (wCons (wVar 0 (eT eI) worths188) (wCons (wVar 2 (eT eI) pit190) wNil)) (fun (A : (List Int) × (List Int) × Unit) => tw_sum_of A.1 A.2.1)))) wNil) (fun (A : (List Int) × Unit) => (opMax (e := eI)) A.1))))
  try dsimp only [retW, ifW, andW, orW] at h
  unfold t_greatest_of_2
  try dsimp only [retW, ifW, andW, orW]
  exact cwOf (nl := 3) (fun (w : Unit) => [some (.val ((eT eI) worths188)), some (.val ((eL (eT eI)) some189)), none]) h
def t_best_pits (ground185 : (List (List Int))) (worths186 : (List Int)) : PT (List (List Int)) := fun Q => t_pits_of ground185 fun some187 => t_greatest_of_2 worths186 some187 fun most194 => compW some187 (fun (pit195 : (List Int)) Q => t_sum_of worths186 pit195 fun r197 => Q (decide (r197 = most194))) (fun (pit195 : (List Int)) Q => Q pit195) fun l196 => Q l196
theorem tw_best_pits (ground185 : (List (List Int))) (worths186 : (List Int)) : CW c_best_pits [.val (eC_Ground ground185), .val ((eT eI) worths186)] (vL (eT eI)) (t_best_pits ground185 worths186) := by
  have h : WN false m_best_pits (fun (w : Unit) => [some (.val (eC_Ground ground185)), some (.val ((eT eI) worths186)), none, none, none]) (vL (eT eI)) (fun _ _ => .val .none) _ := (nSeq (sAsg (K := (fun (some187 : (List (List Int))) (w : Unit) => [some (.val (eC_Ground ground185)), some (.val ((eT eI) worths186)), some (.own (.lst (List.map (eT eI) some187))), none, none])) (wCallV (wCons (wVar 0 eC_Ground ground185) wNil) (fun (A : (List (List Int)) × Unit) => tw_pits_of A.1))) (fun (some187 : (List (List Int))) => (nSeq (sAsg (K := (fun (most194 : Int) (w : Unit) => [some (.val (eC_Ground ground185)), some (.val ((eT eI) worths186)), some (.own (.lst (List.map (eT eI) some187))), some (.val (eI most194)), none])) (wCallN (wCons (wVar 1 (eT eI) worths186) (wCons (wPlc 2 (.lst (List.map (eT eI) some187))) wNil)) (fun (A : (List Int) × Unit × Unit) => tw_greatest_of_2 A.1 some187) nlV)) (fun (most194 : Int) => (nF (fRet (v := fun A => A) (wComp (R0 := (fun (w : Unit) => [some (.val (eC_Ground ground185)), some (.val ((eT eI) worths186)), some (.val ((eL (eT eI)) some187)), some (.val (eI most194)), none])) (Rb := (fun (pit195 : (List Int)) (w : Unit) => [some (.val (eC_Ground ground185)), some (.val ((eT eI) worths186)), some (.val ((eL (eT eI)) some187)), some (.val (eI most194)), some (.val ((eT eI) pit195))])) (Rc := (fun (pit195 : (List Int)) (w : Unit) => [some (.val (eC_Ground ground185)), some (.val ((eT eI) worths186)), some (.val ((eL (eT eI)) some187)), some (.val (eI most194)), some (.val ((eT eI) pit195))])) (e' := (eT eI)) (v := fun pit195 A => A) (wSeq (e := (eT eI)) (l := fun A => some187) (R2 := (fun (w : Unit) => [some (.val (eC_Ground ground185)), some (.val ((eT eI) worths186)), some (.val ((eL (eT eI)) some187)), some (.val (eI most194)), none])) (wPlc 2 (.lst (List.map (eT eI) some187)))) (fun pit195 => (wTb (wBin (wCallV (wCons (wVar 1 (eT eI) worths186) (wCons (wVar 4 (eT eI) pit195) wNil)) (fun (A : (List Int) × (List Int) × Unit) => tw_sum_of A.1 A.2.1)) (wVar 3 eI most194) (fun A B => (opEq (e := eI)) A B)))) (fun pit195 => (wVar 4 (eT eI) pit195)))))))))
  try dsimp only [retW, ifW, andW, orW] at h
  unfold t_best_pits
  try dsimp only [retW, ifW, andW, orW]
  exact cwOf (nl := 5) (fun (w : Unit) => [some (.val (eC_Ground ground185)), some (.val ((eT eI) worths186)), none, none, none]) h
def t_least_best (ground183 : (List (List Int))) (worths184 : (List Int)) : PT (List Int) := fun Q => t_need_worths ground183 worths184 fun r202 => t_best_pits ground183 worths184 fun r200 => ixW r200 0 fun r201 => Q r201
theorem tw_least_best (ground183 : (List (List Int))) (worths184 : (List Int)) : CW c_least_best [.val (eC_Ground ground183), .val ((eT eI) worths184)] (vV (eT eI)) (t_least_best ground183 worths184) := by
  have h : WN false m_least_best (fun (w : Unit) => [some (.val (eC_Ground ground183)), some (.val ((eT eI) worths184))]) (vV (eT eI)) (fun _ _ => .val .none) _ := (nSeq (sExprW (wCallV (wCons (wVar 0 eC_Ground ground183) (wCons (wVar 1 (eT eI) worths184) wNil)) (fun (A : (List (List Int)) × (List Int) × Unit) => tw_need_worths A.1 A.2.1))) (fun _ => (nF (fRet (v := fun A => A) (wBin (wCallV (wCons (wVar 0 eC_Ground ground183) (wCons (wVar 1 (eT eI) worths184) wNil)) (fun (A : (List (List Int)) × (List Int) × Unit) => tw_best_pits A.1 A.2.1)) (wInt 0) (fun A B => (opIxL (e := (eT eI))) A B))))))
  try dsimp only [retW, ifW, andW, orW] at h
  unfold t_least_best
  try dsimp only [retW, ifW, andW, orW]
  exact cwOf (nl := 2) (fun (w : Unit) => [some (.val (eC_Ground ground183)), some (.val ((eT eI) worths184))]) h
def t_Ground___eq__ (self206 : (List (List Int))) (other207 : (List (List Int))) : PT Bool := fun Q => Q (decide (self206 = other207))
theorem tw_Ground___eq__ (self206 : (List (List Int))) (other207 : (List (List Int))) : CW c_Ground___eq__ [.val (eC_Ground self206), .val (eC_Ground other207)] (vV eB) (t_Ground___eq__ self206 other207) := by
  have h : WN false m_Ground___eq__ (fun (w : Unit) => [some (.val (eC_Ground self206)), some (.val (eC_Ground other207))]) (vV eB) (fun _ _ => .val .none) _ := (nF (fRet (v := fun A => A) (wAndT (wIsi (b := true) (d1 := fun A => eC_Ground A) (wVar 1 eC_Ground other207)) (wBin (wUn (wVar 0 eC_Ground self206) (fun A => opF_Ground_table A)) (wUn (wVar 1 eC_Ground other207) (fun A => opF_Ground_table A)) (fun A B => (opEq (e := (eT (eT eI)))) A B)))))
  try dsimp only [retW, ifW, andW, orW] at h
  unfold t_Ground___eq__
  try dsimp only [retW, ifW, andW, orW]
  exact cwOf (nl := 2) (fun (w : Unit) => [some (.val (eC_Ground self206)), some (.val (eC_Ground other207))]) h
def t_is_from_2 (value233 : D) (low234 : Int) (high235 : Int) : PT Bool := fun Q => andW (fun Q => isAW [.ty "int"] value233 fun r237 => Q r237) (fun Q => andW (fun Q => isAW [.ty "bool"] value233 fun r239 => Q (!r239)) (fun Q => cvW eA eI value233 fun r241 => andW (fun Q => Q (decide (low234 ≤ r241))) (fun Q => Q (decide (r241 ≤ high235))) fun b240 => Q b240) fun b238 => Q b238) fun b236 => Q b236
theorem tw_is_from_2 (value233 : D) (low234 : Int) (high235 : Int) : CW c_is_from [.val (eA value233), .val (eI low234), .val (eI high235)] (vV eB) (t_is_from_2 value233 low234 high235) := by
  have h : WN false m_is_from (fun (w : Unit) => [some (.val (eA value233)), some (.val (eI low234)), some (.val (eI high235))]) (vV eB) (fun _ _ => .val .none) _ := (nF (fRet (v := fun A => A) (wAnd (wIsiA (ts := [.ty "int"]) (d1 := fun A => A) (wVar 0 eA value233)) (wAnd (wNot (wIsiA (ts := [.ty "bool"]) (d1 := fun A => A) (wVar 0 eA value233))) (wChain (wVar 1 eI low234) (wCv (e := eA) (e' := eI) (wVar 0 eA value233)) (wVar 2 eI high235) (fun A B => opLeI A B) (fun A B => opLeI A B))))))
  try dsimp only [retW, ifW, andW, orW] at h
  unfold t_is_from_2
  try dsimp only [retW, ifW, andW, orW]
  exact cwOf (nl := 3) (fun (w : Unit) => [some (.val (eA value233)), some (.val (eI low234)), some (.val (eI high235))]) h
def t_is_block_2 (ground231 : (List (List Int))) (value232 : D) : PT Bool := fun Q => t_Ground___len__ ground231 fun n243 => lenOk n243 = true ∧ (t_is_from_2 value232 0 (n243 - 1) fun r242 => Q r242)
theorem tw_is_block_2 (ground231 : (List (List Int))) (value232 : D) : CW c_is_block [.val (eC_Ground ground231), .val (eA value232)] (vV eB) (t_is_block_2 ground231 value232) := by
  have h : WN false m_is_block (fun (w : Unit) => [some (.val (eC_Ground ground231)), some (.val (eA value232))]) (vV eB) (fun _ _ => .val .none) _ := (nF (fRet (v := fun A => A) (wCallV (wCons (wVar 1 eA value232) (wCons (wInt 0) (wCons (wBin (wLenO (wVar 0 eC_Ground ground231) (fun A => tw_Ground___len__ A)) (wInt 1) (fun A B => opSub A B)) wNil))) (fun (A : D × Int × Int × Unit) => tw_is_from_2 A.1 A.2.1 A.2.2.1))))
  try dsimp only [retW, ifW, andW, orW] at h
  unfold t_is_block_2
  try dsimp only [retW, ifW, andW, orW]
  exact cwOf (nl := 2) (fun (w : Unit) => [some (.val (eC_Ground ground231)), some (.val (eA value232))]) h
def t_is_order_2 (ground228 : (List (List Int))) (value229 : D) : PT Bool := fun Q => orW (fun Q => isAW [.ty "tuple"] value229 fun r253 => Q (!r253)) (fun Q => orW (fun Q => cvW eA (eT eA) value229 fun r255 => t_Ground___len__ ground228 fun n256 => lenOk n256 = true ∧ (Q (!decide ((r255.length : Int) = n256)))) (fun Q => cvW eA (eT eA) value229 fun r258 => mapW r258 (fun (one230 : D) Q => t_is_block_2 ground228 one230 fun r259 => Q r259) fun l257 => Q (!((l257).all id))) fun b254 => Q b254) fun b252 => if b252 = true then Q false else cvW eA (eT eI) value229 fun r250 => (Nat.ble (r250).length 3999 = true ∧ cvW eA (eT eA) value229 fun r251 => if (decide (((dd r250).length : Int) < (r251.length : Int))) = true then Q false else cvW eA (eT eA) value229 fun r247 => comp2W (enumL r247) (fun (p244 : (Int × D)) Q => Q true) (fun (p244 : (Int × D)) Q => cvW eA eI p244.2 fun r248 => ixW ground228 r248 fun r249 => Q r249) (fun (p244 : (Int × D)) (one245 : Int) Q => Q true) (fun (p244 : (Int × D)) (one245 : Int) Q => False) fun l246 => Q ((l246).all id))
theorem tw_is_order_2 (ground228 : (List (List Int))) (value229 : D) : CW c_is_order [.val (eC_Ground ground228), .val (eA value229)] (vV eB) (t_is_order_2 ground228 value229) := by
  have h : WN false m_is_order (fun (w : Unit) => [some (.val (eC_Ground ground228)), some (.val (eA value229)), none, none, none]) (vV eB) (fun _ _ => .val .none) _ := (nIfRet (wTOr (wTNot (wTb (wIsiA (ts := [.ty "tuple"]) (d1 := fun A => A) (wVar 1 eA value229)))) (wTOr (wTb (wBin (wCall (wCons (wCv (e := eA) (e' := (eT eA)) (wVar 1 eA value229)) wNil) (fun (A : (List D) × Unit) => (opLenT (e := eA)) A.1)) (wLenO (wVar 0 eC_Ground ground228) (fun A => tw_Ground___len__ A)) (fun A B => (opNe (e := eI)) A B))) (wTNot (wTb (wCall (wCons (wMap (R0 := (fun (w : Unit) => [some (.val (eC_Ground ground228)), some (.val (eA value229)), none, none, none])) (Rb := (fun (one230 : D) (w : Unit) => [some (.val (eC_Ground ground228)), some (.val (eA value229)), some (.val (eA one230)), none, none])) (Rc := (fun (one230 : D) (w : Unit) => [some (.val (eC_Ground ground228)), some (.val (eA value229)), some (.val (eA one230)), none, none])) (e' := eB) (v := fun one230 A => A) (wSeq (e := eA) (l := fun A => A) (wCv (e := eA) (e' := (eT eA)) (wVar 1 eA value229))) (fun one230 => (wCallV (wCons (wVar 0 eC_Ground ground228) (wCons (wVar 2 eA one230) wNil)) (fun (A : (List (List Int)) × D × Unit) => tw_is_block_2 A.1 A.2.1)))) wNil) (fun (A : (List Bool) × Unit) => opAll A.1)))))) (fRet (v := fun A => A) (wBl false)) sPassW (fun _ => (nIfRet (wTb (wBin (wUn (wCv (e := eA) (e' := (eT eI)) (wVar 1 eA value229)) (fun A => opLenSetT A)) (wCall (wCons (wCv (e := eA) (e' := (eT eA)) (wVar 1 eA value229)) wNil) (fun (A : (List D) × Unit) => (opLenT (e := eA)) A.1)) (fun A B => opLtI A B))) (fRet (v := fun A => A) (wBl false)) sPassW (fun _ => (nF (fRet (v := fun A => A) (wCall (wCons (wComp2 (R0 := (fun (w : Unit) => [some (.val (eC_Ground ground228)), some (.val (eA value229)), none, none, none])) (Rb := (fun (p244 : (Int × D)) (w : Unit) => [some (.val (eC_Ground ground228)), some (.val (eA value229)), none, some (.val (eI p244.1)), some (.val (eA p244.2))])) (Rb0 := (fun (p244 : (Int × D)) (w : Unit) => [some (.val (eC_Ground ground228)), some (.val (eA value229)), none, some (.val (eI p244.1)), some (.val (eA p244.2))])) (Rc := (fun (p244 : (Int × D)) (one245 : Int) (w : Unit) => [some (.val (eC_Ground ground228)), some (.val (eA value229)), some (.val (eI one245)), some (.val (eI p244.1)), some (.val (eA p244.2))])) (Rd := (fun (p244 : (Int × D)) (one245 : Int) (w : Unit) => [some (.val (eC_Ground ground228)), some (.val (eA value229)), some (.val (eI one245)), some (.val (eI p244.1)), some (.val (eA p244.2))])) (e' := eB) (v := fun p244 one245 A => A) (wEnum (e := eA) (l := fun A => A) (wCv (e := eA) (e' := (eT eA)) (wVar 1 eA value229))) (fun p244 => wYes) (fun p244 => (wSeq (e := eI) (l := fun A => A) (wBin (wUn (wVar 0 eC_Ground ground228) (fun A => opF_Ground_table A)) (wCv (e := eA) (e' := eI) (wVar 4 eA p244.2)) (fun A B => (opIxT (e := (eT eI))) A B)))) (fun p244 one245 => wYes) (fun p244 one245 => (wBin wNeverI (wVar 3 eI p244.1) (fun A B => opLtI A B)))) wNil) (fun (A : (List Bool) × Unit) => opAll A.1))))))))
  try dsimp only [retW, ifW, andW, orW] at h
  unfold t_is_order_2
  try dsimp only [retW, ifW, andW, orW]
  exact cwOf (nl := 5) (fun (w : Unit) => [some (.val (eC_Ground ground228)), some (.val (eA value229)), none, none, none]) h
def t_need_order_2 (ground226 : (List (List Int))) (order227 : D) : PT (Unit ⊕ Str) := fun Q => t_need_ground ground226 fun r261 => t_is_order_2 ground226 order227 fun r260 => if (!r260) = true then Q (Sum.inr ("BadOrder" : Str)) else Q (Sum.inl ())
theorem tw_need_order_2 (ground226 : (List (List Int))) (order227 : D) : CW c_need_order [.val (eC_Ground ground226), .val (eA order227)] (vE payL (vV eU)) (t_need_order_2 ground226 order227) := by
  have h : WN false m_need_order (fun (w : Unit) => [some (.val (eC_Ground ground226)), some (.val (eA order227))]) (vE payL (vV eU)) (fun _ _ => .val .none) _ := (nSeq (sExprW (wCallV (wCons (wVar 0 eC_Ground ground226) wNil) (fun (A : (List (List Int)) × Unit) => tw_need_ground A.1))) (fun _ => (nIf (wTNot (wTb (wCallV (wCons (wVar 0 eC_Ground ground226) (wCons (wVar 1 eA order227) wNil)) (fun (A : (List (List Int)) × D × Unit) => tw_is_order_2 A.1 A.2.1)))) (nF fRaise) (nInl (nS (v := fun _ => ()) sPassW)))))
  try dsimp only [retW, ifW, andW, orW] at h
  unfold t_need_order_2
  try dsimp only [retW, ifW, andW, orW]
  exact cwOf (nl := 2) (fun (w : Unit) => [some (.val (eC_Ground ground226)), some (.val (eA order227))]) h
def t_renamed_2 (ground224 : (List (List Int))) (order225 : D) : PT ((List (List Int)) ⊕ Str) := fun Q => t_need_order_2 ground224 order225 fun r270 => excW r270 (fun _ Q => cvW eA (eT eI) order225 fun r266 => mapW r266 (fun (block262 : Int) Q => ixW ground224 block262 fun r268 => mapW r268 (fun (one263 : Int) Q => False) fun l267 => sortW eI ltI l267 fun r269 => Q r269) fun l265 => t_Ground___init__ l265 fun ground264 => Q (Sum.inl (ground264))) Q
theorem tw_renamed_2 (ground224 : (List (List Int))) (order225 : D) : CW c_renamed [.val (eC_Ground ground224), .val (eA order225)] (vE payL (vV eC_Ground)) (t_renamed_2 ground224 order225) := by
  have h : WN false m_renamed (fun (w : Unit) => [some (.val (eC_Ground ground224)), some (.val (eA order225)), none, none]) (vE payL (vV eC_Ground)) (fun _ _ => .val .none) _ := (nExprX (wCallV (wCons (wVar 0 eC_Ground ground224) (wCons (wVar 1 eA order225) wNil)) (fun (A : (List (List Int)) × D × Unit) => tw_need_order_2 A.1 A.2.1)) (nF (fInl (fRet (v := fun A => A) (wMake (c := 0) (wCons (wCall (wCons (wMap (R0 := (fun (w : Unit) => [some (.val (eC_Ground ground224)), some (.val (eA order225)), none, none])) (Rb := (fun (block262 : Int) (w : Unit) => [some (.val (eC_Ground ground224)), some (.val (eA order225)), some (.val (eI block262)), none])) (Rc := (fun (block262 : Int) (w : Unit) => [some (.val (eC_Ground ground224)), some (.val (eA order225)), some (.val (eI block262)), none])) (e' := (eT eI)) (v := fun block262 A => A) (wSeq (e := eI) (l := fun A => A) (wCv (e := eA) (e' := (eT eI)) (wVar 1 eA order225))) (fun block262 => (wCall (wCons (wCall (wCons (wMap (R0 := (fun (w : Unit) => [some (.val (eC_Ground ground224)), some (.val (eA order225)), some (.val (eI block262)), none])) (Rb := (fun (one263 : Int) (w : Unit) => [some (.val (eC_Ground ground224)), some (.val (eA order225)), some (.val (eI block262)), some (.val (eI one263))])) (Rc := (fun (one263 : Int) (w : Unit) => [some (.val (eC_Ground ground224)), some (.val (eA order225)), some (.val (eI block262)), some (.val (eI one263))])) (e' := eI) (v := fun one263 A => A) (wSeq (e := eI) (l := fun A => A) (wBin (wUn (wVar 0 eC_Ground ground224) (fun A => opF_Ground_table A)) (wVar 2 eI block262) (fun A B => (opIxT (e := (eT eI))) A B))) (fun one263 => wNeverI)) wNil) (fun (A : (List Int) × Unit) => (opSorted (e := eI)) A.1)) wNil) (fun (A : (List Int) × Unit) => (opTupL (e := eI)) A.1)))) wNil) (fun (A : (List (List Int)) × Unit) => (opTupL (e := (eT eI))) A.1)) wNil) (fun (A : (List (List Int)) × Unit) => tw_Ground___init__ A.1))))))
  try dsimp only [retW, ifW, andW, orW] at h
  unfold t_renamed_2
  try dsimp only [retW, ifW, andW, orW]
  exact cwOf (nl := 4) (fun (w : Unit) => [some (.val (eC_Ground ground224)), some (.val (eA order225)), none, none]) h
def t_l_told_2 (ground221 : (List (List Int))) (order_here222 : D) : PT ((List (List Int)) ⊕ Str) := fun Q => retW ((Sum.inr ("order" : Str) : ((List (List Int)) ⊕ Str)) : ((List (List Int)) ⊕ Str)) fun found223 => t_renamed_2 ground221 order_here222 fun r274 => excW r274 (fun (a271 : (List (List Int))) Q => Q (Sum.inl a271)) fun r273 => tryW r273 ["BadOrder"] (fun (A : (List (List Int))) => (fun (found272 : ((List (List Int)) ⊕ Str)) => Q found272) ((fun (A : (List (List Int))) => (fun x : (List (List Int)) => (Sum.inl x : ((List (List Int)) ⊕ Str))) A) A)) (fun y => if y ∈ (["BadOrder"] : List Str) then (fun (found272 : ((List (List Int)) ⊕ Str)) => Q found272) ((fun x : Str => (Sum.inr x : ((List (List Int)) ⊕ Str))) ("order" : Str)) else False)
theorem tw_l_told_2 (ground221 : (List (List Int))) (order_here222 : D) : CW c__law_told [.val (eC_Ground ground221), .val (eA order_here222)] (vV (eX (eT (eT eI)) eS)) (t_l_told_2 ground221 order_here222) := by
  have h : WN false m__law_told (fun (w : Unit) => [some (.val (eC_Ground ground221)), some (.val (eA order_here222)), none, none]) (vV (eX (eT (eT eI)) eS)) (fun _ _ => .val .none) _ := (nSeq (sAsg (K := (fun (found223 : ((List (List Int)) ⊕ Str)) (w : Unit) => [some (.val (eC_Ground ground221)), some (.val (eA order_here222)), some (.val ((eX (eT (eT eI)) eS) found223)), none])) (wInr (e := (eT (eT eI))) (f := eS) (wStr "order"))) (fun (found223 : ((List (List Int)) ⊕ Str)) => (nSeq (sTryAs1 (K := (fun (found272 : ((List (List Int)) ⊕ Str)) (w : Unit) => [some (.val (eC_Ground ground221)), some (.val (eA order_here222)), some (.val ((eX (eT (eT eI)) eS) found272)), none])) (v := (fun (A : (List (List Int))) => (fun x : (List (List Int)) => (Sum.inl x : ((List (List Int)) ⊕ Str))) A)) (u := ((fun x : Str => (Sum.inr x : ((List (List Int)) ⊕ Str))) ("order" : Str))) (wX (s := (vV eC_Ground)) (s' := (vV (eT (eT eI)))) (wCallV (wCons (wVar 0 eC_Ground ground221) (wCons (wVar 1 eA order_here222) wNil)) (fun (A : (List (List Int)) × D × Unit) => tw_renamed_2 A.1 A.2.1)) (fun (a271 : (List (List Int))) => (wUn (wR (vV eC_Ground) a271) (fun A => opP_Ground_covers A))))) (fun (found272 : ((List (List Int)) ⊕ Str)) => (nF (fRet (v := fun A => A) (wVar 2 (eX (eT (eT eI)) eS) found272)))))))
  try dsimp only [retW, ifW, andW, orW] at h
  unfold t_l_told_2
  try dsimp only [retW, ifW, andW, orW]
  exact cwOf (nl := 4) (fun (w : Unit) => [some (.val (eC_Ground ground221)), some (.val (eA order_here222)), none, none]) h
def t_law : PT Bool := fun Q => t_l_covers 8 fun covers_here31 => t_Ground___init__ covers_here31 fun ground334 => t_l_order covers_here31 fun r335 => retW ((ground334 : (List (List Int))), ((covers_here31.length : Int) : Int), (r335 : (List Int)), ()) fun (A76 : (List (List Int)) × Int × (List Int) × Unit) => mapW A76.2.2.1 (fun (block77 : Int) Q => ixW covers_here31 block77 fun r331 => mapW r331 (fun (one78 : Int) Q => tixW A76.2.2.1 one78 fun r332 => Q r332) fun l330 => sortW eI ltI l330 fun r333 => Q r333) fun due79 => t_l_told A76.1 A76.2.2.1 fun r327 => alikeW (okX (okL (okL (fun _ => True))) (fun _ => True)) r327 (Sum.inl due79 : ((List (List Int)) ⊕ Str)) fun r328 => if (!r328) = true then Q false else t_renamed A76.1 A76.2.2.1 fun r325 => noXW r325 fun r324 => t_l_worths A76.2.1 fun r326 => retW ((r324 : (List (List Int))), (r326 : (List Int)), ()) fun (A133 : (List (List Int)) × (List Int) × Unit) => mapW A76.2.2.1 (fun (block134 : Int) Q => ixW A133.2.1 block134 fun r323 => Q r323) fun moved135 => t_all_pits A133.1 fun r318 => mapW r318 (fun (pit157 : (List Int)) Q => mapW pit157 (fun (block158 : Int) Q => ixW A76.2.2.1 block158 fun r320 => Q r320) fun l319 => sortW eI ltI l319 fun r321 => Q r321) fun pits159 => orW (fun Q => sortWU eI (ltLex ltI) pits159 fun r312 => t_all_pits A76.1 fun r313 => sortWU eI (ltLex ltI) r313 fun r314 => Q (!decide (r312 = r314))) (fun Q => t_best_worth A133.1 moved135 fun r315 => t_best_worth A76.1 A133.2.1 fun r316 => Q (!decide (r315 = r316))) fun b311 => if b311 = true then Q false else t_least_best A133.1 moved135 fun r307 => mapW r307 (fun (block203 : Int) Q => ixW A76.2.2.1 block203 fun r308 => Q r308) fun l306 => sortW eI ltI l306 fun r309 => t_least_best A76.1 A133.2.1 fun r310 => if (!decide (r309 = r310)) = true then Q false else rangeW A76.2.1 fun r304 => mapW r304 (fun (block204 : Int) Q => tixW A76.2.2.1 block204 fun r305 => Q r305) fun back205 => t_renamed A133.1 back205 fun r302 => noXW r302 fun r301 => t_Ground___eq__ r301 A76.1 fun e300 => if (!e300) = true then Q false else rgW A76.2.1 fun r299 => retW ((r299 : (List Int)), (([] : (List Int)) : (List Int)), ()) fun (A208 : (List Int) × (List Int) × Unit) => rangeW A76.2.1 fun r298 => forW (fun (turn210 : Int) (s209 : ((List Int) × (List Int))) Q => takenW (s209.1.length : Int) fun r297 => popW s209.1 r297 fun p212 => catW s209.2 [p212.1] fun t213 => retW ((t213, p212.2) : (List Int) × (List Int)) fun (A211 : (List Int) × (List Int)) => Q (A211.2, A211.1)) r298 (A208.1, A208.2.1) fun (v214 : ((List Int) × (List Int))) => rangeW A76.2.1 fun r292 => compW r292 (fun (k215 : Int) Q => ixW v214.2 k215 fun r294 => ixW covers_here31 r294 fun r295 => compW r295 (fun (one216 : Int) Q => slXW v214.2 none (some k215) fun r296 => Q (!decide (one216 ∈ r296))) (fun (one216 : Int) Q => Q one216) fun l293 => Q (!decide (l293 = ([] : (List Int))))) (fun (k215 : Int) Q => Q k215) fun wrong217 => t_l_told A76.1 v214.2 fun r290 => if (!decide ((decide (r290 = (Sum.inr ("order" : Str) : ((List (List Int)) ⊕ Str)))) = (!decide (wrong217 = ([] : (List Int)))))) = true then Q false else slXW A76.2.2.1 (some 1) none fun r284 => (([0] : (List Int)) ≠ [] ∧ catW A76.2.2.1 [0] fun r285 => ifW (decide (1 < A76.2.1)) (fun Q => repTW [0] A76.2.1 fun r287 => Q r287) (fun Q => Q [1]) fun r286 => slXW A76.2.2.1 none (some (-1)) fun r288 => catW r288 [A76.2.1] fun r289 => retW ([(eU ()), ((eL eI) A76.2.2.1), ((eT eI) r284), ((eT eI) r285), ((eT eI) r286), ((eT eI) r289), (eS ("0" : Str)), (eI 0)] : (List D)) fun odd218 => slXW A76.2.2.1 none (some (-1)) fun r278 => catW ((List.map eI) r278) ((List.map eU) [()]) fun r279 => repTW [true] A76.2.1 fun r280 => slXW A76.2.2.1 none (some (-1)) fun r281 => catW ((List.map eI) r281) ((List.map (eL eI)) [([] : (List Int))]) fun r282 => catW odd218 [((eT eA) r279), ((eT eB) r280), ((eT eA) r282)] fun odd219 => compW odd219 (fun (value220 : D) Q => t_l_told_2 A76.1 value220 fun r276 => Q (!decide (r276 = (Sum.inr ("order" : Str) : ((List (List Int)) ⊕ Str))))) (fun (value220 : D) Q => Q value220) fun l275 => eqAW ((eL eA) l275) ((eL eA) ([] : (List D))) fun r277 => Q r277)
theorem tw_law (script : List Int) : CR1 c_law script t_law := by
  have h : WN false m_law (fun (w : RW) => [some (.val (flsD (List.map PyData.int script))), none, none, none, none, none, none, none, none, none, none, none, none, none, none, none, none, none, none, none, none, none]) (vV eB) (fun _ _ => .val .none) _ := (nSeq (sRow (ns := script) (K := (fun (_ : Unit) (w : RW) => [some (.val (flsD (List.map PyData.int script))), some (.own (row w)), none, none, none, none, none, none, none, none, none, none, none, none, none, none, none, none, none, none, none, none]))) (fun (_ : Unit) => (nSeq (sAsg (K := (fun (covers_here31 : (List (List Int))) (w : RW) => [some (.val (flsD (List.map PyData.int script))), some (.own (row w)), some (.val ((eT (eT eI)) covers_here31)), none, none, none, none, none, none, none, none, none, none, none, none, none, none, none, none, none, none, none])) (wCallI (rs := fun (A : Unit × Int × Unit) => [Rv.sv (.val (eI A.2.1))]) (row := row) (wCons (wPlc0 1) (wCons (wInt 8) wNil)) (fun (A : Unit × Int × Unit) => tw_l_covers A.2.1))) (fun (covers_here31 : (List (List Int))) => (nSeq (sParW (K := (fun (A76 : (List (List Int)) × Int × (List Int) × Unit) (w : RW) => [some (.val (flsD (List.map PyData.int script))), some (.own (row w)), some (.val ((eT (eT eI)) covers_here31)), some (.val (eC_Ground A76.1)), some (.val (eI A76.2.1)), some (.val ((eXt eI) A76.2.2.1)), none, none, none, none, none, none, none, none, none, none, none, none, none, none, none, none])) (wCons (wMake (c := 0) (wCons (wVar 2 (eT (eT eI)) covers_here31) wNil) (fun (A : (List (List Int)) × Unit) => tw_Ground___init__ A.1)) (wCons (wCall (wCons (wVar 2 (eT (eT eI)) covers_here31) wNil) (fun (A : (List (List Int)) × Unit) => (opLenT (e := (eT eI))) A.1)) (wCons (wCallI (rs := fun (A : Unit × (List (List Int)) × Unit) => [Rv.sv (.val ((eT (eT eI)) A.2.1))]) (row := row) (wCons (wPlc0 1) (wCons (wVar 2 (eT (eT eI)) covers_here31) wNil)) (fun (A : Unit × (List (List Int)) × Unit) => tw_l_order A.2.1)) wNil)))) (fun (A76 : (List (List Int)) × Int × (List Int) × Unit) => (nSeq (sAsg (K := (fun (due79 : (List (List Int))) (w : RW) => [some (.val (flsD (List.map PyData.int script))), some (.own (row w)), some (.val ((eT (eT eI)) covers_here31)), some (.val (eC_Ground A76.1)), some (.val (eI A76.2.1)), some (.val ((eXt eI) A76.2.2.1)), some (.val ((eT (eT eI)) due79)), none, none, none, none, none, none, none, none, none, none, none, none, none, none, none])) (wCall (wCons (wMap (R0 := (fun (w : RW) => [some (.val (flsD (List.map PyData.int script))), some (.own (row w)), some (.val ((eT (eT eI)) covers_here31)), some (.val (eC_Ground A76.1)), some (.val (eI A76.2.1)), some (.val ((eXt eI) A76.2.2.1)), none, none, none, none, none, none, none, none, none, none, none, none, none, none, none, none])) (Rb := (fun (block77 : Int) (w : RW) => [some (.val (flsD (List.map PyData.int script))), some (.own (row w)), some (.val ((eT (eT eI)) covers_here31)), some (.val (eC_Ground A76.1)), some (.val (eI A76.2.1)), some (.val ((eXt eI) A76.2.2.1)), none, none, none, none, none, none, none, none, none, none, none, some (.val (eI block77)), none, none, none, none])) (Rc := (fun (block77 : Int) (w : RW) => [some (.val (flsD (List.map PyData.int script))), some (.own (row w)), some (.val ((eT (eT eI)) covers_here31)), some (.val (eC_Ground A76.1)), some (.val (eI A76.2.1)), some (.val ((eXt eI) A76.2.2.1)), none, none, none, none, none, none, none, none, none, none, none, some (.val (eI block77)), none, none, none, none])) (e' := (eT eI)) (v := fun block77 A => A) (wSeq (e := eI) (l := fun A => A) (wVar 5 (eXt eI) A76.2.2.1)) (fun block77 => (wCall (wCons (wCall (wCons (wMap (R0 := (fun (w : RW) => [some (.val (flsD (List.map PyData.int script))), some (.own (row w)), some (.val ((eT (eT eI)) covers_here31)), some (.val (eC_Ground A76.1)), some (.val (eI A76.2.1)), some (.val ((eXt eI) A76.2.2.1)), none, none, none, none, none, none, none, none, none, none, none, some (.val (eI block77)), none, none, none, none])) (Rb := (fun (one78 : Int) (w : RW) => [some (.val (flsD (List.map PyData.int script))), some (.own (row w)), some (.val ((eT (eT eI)) covers_here31)), some (.val (eC_Ground A76.1)), some (.val (eI A76.2.1)), some (.val ((eXt eI) A76.2.2.1)), none, none, none, none, none, none, none, none, none, none, none, some (.val (eI block77)), some (.val (eI one78)), none, none, none])) (Rc := (fun (one78 : Int) (w : RW) => [some (.val (flsD (List.map PyData.int script))), some (.own (row w)), some (.val ((eT (eT eI)) covers_here31)), some (.val (eC_Ground A76.1)), some (.val (eI A76.2.1)), some (.val ((eXt eI) A76.2.2.1)), none, none, none, none, none, none, none, none, none, none, none, some (.val (eI block77)), some (.val (eI one78)), none, none, none])) (e' := eI) (v := fun one78 A => A) (wSeq (e := eI) (l := fun A => A) (wBin (wVar 2 (eT (eT eI)) covers_here31) (wVar 17 eI block77) (fun A B => (opIxT (e := (eT eI))) A B))) (fun one78 => (wTIx (l := A76.2.2.1) (wVar 18 eI one78)))) wNil) (fun (A : (List Int) × Unit) => (opSorted (e := eI)) A.1)) wNil) (fun (A : (List Int) × Unit) => (opTupL (e := eI)) A.1)))) wNil) (fun (A : (List (List Int)) × Unit) => (opTupL (e := (eT eI))) A.1))) (fun (due79 : (List (List Int))) => (nIfRet (wTNot (wTb (wCallV (wCons (wCallV (wCons (wVar 3 eC_Ground A76.1) (wCons (wVar 5 (eXt eI) A76.2.2.1) wNil)) (fun (A : (List (List Int)) × (List Int) × Unit) => tw_l_told A.1 A.2.1)) (wCons (wInl (e := (eT (eT eI))) (f := eS) (wVar 6 (eT (eT eI)) due79)) wNil)) (fun (A : ((List (List Int)) ⊕ Str) × ((List (List Int)) ⊕ Str) × Unit) => cw_alike (e := (eX (eT (eT eI)) eS)) (vV (eX (eT (eT eI)) eS)) (vV (eX (eT (eT eI)) eS)) A.1 A.2.1)))) (fRet (v := fun A => A) (wBl false)) sPassW (fun _ => (nSeq (sParW (K := (fun (A133 : (List (List Int)) × (List Int) × Unit) (w : RW) => [some (.val (flsD (List.map PyData.int script))), some (.own (row w)), some (.val ((eT (eT eI)) covers_here31)), some (.val (eC_Ground A76.1)), some (.val (eI A76.2.1)), some (.val ((eXt eI) A76.2.2.1)), some (.val ((eT (eT eI)) due79)), some (.val (eC_Ground A133.1)), some (.val ((eT eI) A133.2.1)), none, none, none, none, none, none, none, none, none, none, none, none, none])) (wCons (wNoX (wCallV (wCons (wVar 3 eC_Ground A76.1) (wCons (wVar 5 (eXt eI) A76.2.2.1) wNil)) (fun (A : (List (List Int)) × (List Int) × Unit) => tw_renamed A.1 A.2.1))) (wCons (wCallI (rs := fun (A : Unit × Int × Unit) => [Rv.sv (.val (eI A.2.1))]) (row := row) (wCons (wPlc0 1) (wCons (wVar 4 eI A76.2.1) wNil)) (fun (A : Unit × Int × Unit) => tw_l_worths A.2.1)) wNil))) (fun (A133 : (List (List Int)) × (List Int) × Unit) => (nSeq (sAsg (K := (fun (moved135 : (List Int)) (w : RW) => [some (.val (flsD (List.map PyData.int script))), some (.own (row w)), some (.val ((eT (eT eI)) covers_here31)), some (.val (eC_Ground A76.1)), some (.val (eI A76.2.1)), some (.val ((eXt eI) A76.2.2.1)), some (.val ((eT (eT eI)) due79)), some (.val (eC_Ground A133.1)), some (.val ((eT eI) A133.2.1)), some (.val ((eT eI) moved135)), none, none, none, none, none, none, none, none, none, none, none, none])) (wCall (wCons (wMap (R0 := (fun (w : RW) => [some (.val (flsD (List.map PyData.int script))), some (.own (row w)), some (.val ((eT (eT eI)) covers_here31)), some (.val (eC_Ground A76.1)), some (.val (eI A76.2.1)), some (.val ((eXt eI) A76.2.2.1)), some (.val ((eT (eT eI)) due79)), some (.val (eC_Ground A133.1)), some (.val ((eT eI) A133.2.1)), none, none, none, none, none, none, none, none, none, none, none, none, none])) (Rb := (fun (block134 : Int) (w : RW) => [some (.val (flsD (List.map PyData.int script))), some (.own (row w)), some (.val ((eT (eT eI)) covers_here31)), some (.val (eC_Ground A76.1)), some (.val (eI A76.2.1)), some (.val ((eXt eI) A76.2.2.1)), some (.val ((eT (eT eI)) due79)), some (.val (eC_Ground A133.1)), some (.val ((eT eI) A133.2.1)), none, none, none, none, none, none, none, none, some (.val (eI block134)), none, none, none, none])) (Rc := (fun (block134 : Int) (w : RW) => [some (.val (flsD (List.map PyData.int script))), some (.own (row w)), some (.val ((eT (eT eI)) covers_here31)), some (.val (eC_Ground A76.1)), some (.val (eI A76.2.1)), some (.val ((eXt eI) A76.2.2.1)), some (.val ((eT (eT eI)) due79)), some (.val (eC_Ground A133.1)), some (.val ((eT eI) A133.2.1)), none, none, none, none, none, none, none, none, some (.val (eI block134)), none, none, none, none])) (e' := eI) (v := fun block134 A => A) (wSeq (e := eI) (l := fun A => A) (wVar 5 (eXt eI) A76.2.2.1)) (fun block134 => (wBin (wVar 8 (eT eI) A133.2.1) (wVar 17 eI block134) (fun A B => (opIxT (e := eI)) A B)))) wNil) (fun (A : (List Int) × Unit) => (opTupL (e := eI)) A.1))) (fun (moved135 : (List Int)) => (nSeq (sAsg (K := (fun (pits159 : (List (List Int))) (w : RW) => [some (.val (flsD (List.map PyData.int script))), some (.own (row w)), some (.val ((eT (eT eI)) covers_here31)), some (.val (eC_Ground A76.1)), some (.val (eI A76.2.1)), some (.val ((eXt eI) A76.2.2.1)), some (.val ((eT (eT eI)) due79)), some (.val (eC_Ground A133.1)), some (.val ((eT eI) A133.2.1)), some (.val ((eT eI) moved135)), some (.own (.lst (List.map (eT eI) pits159))), none, none, none, none, none, none, none, none, none, none, none])) (wMap (R0 := (fun (w : RW) => [some (.val (flsD (List.map PyData.int script))), some (.own (row w)), some (.val ((eT (eT eI)) covers_here31)), some (.val (eC_Ground A76.1)), some (.val (eI A76.2.1)), some (.val ((eXt eI) A76.2.2.1)), some (.val ((eT (eT eI)) due79)), some (.val (eC_Ground A133.1)), some (.val ((eT eI) A133.2.1)), some (.val ((eT eI) moved135)), none, none, none, none, none, none, none, none, none, none, none, none])) (Rb := (fun (pit157 : (List Int)) (w : RW) => [some (.val (flsD (List.map PyData.int script))), some (.own (row w)), some (.val ((eT (eT eI)) covers_here31)), some (.val (eC_Ground A76.1)), some (.val (eI A76.2.1)), some (.val ((eXt eI) A76.2.2.1)), some (.val ((eT (eT eI)) due79)), some (.val (eC_Ground A133.1)), some (.val ((eT eI) A133.2.1)), some (.val ((eT eI) moved135)), none, none, none, none, none, none, none, none, none, some (.val ((eT eI) pit157)), none, none])) (Rc := (fun (pit157 : (List Int)) (w : RW) => [some (.val (flsD (List.map PyData.int script))), some (.own (row w)), some (.val ((eT (eT eI)) covers_here31)), some (.val (eC_Ground A76.1)), some (.val (eI A76.2.1)), some (.val ((eXt eI) A76.2.2.1)), some (.val ((eT (eT eI)) due79)), some (.val (eC_Ground A133.1)), some (.val ((eT eI) A133.2.1)), some (.val ((eT eI) moved135)), none, none, none, none, none, none, none, none, none, some (.val ((eT eI) pit157)), none, none])) (e' := (eT eI)) (v := fun pit157 A => A) (wSeq (e := (eT eI)) (l := fun A => A) (wCallV (wCons (wVar 7 eC_Ground A133.1) wNil) (fun (A : (List (List Int)) × Unit) => tw_all_pits A.1))) (fun pit157 => (wCall (wCons (wCall (wCons (wMap (R0 := (fun (w : RW) => [some (.val (flsD (List.map PyData.int script))), some (.own (row w)), some (.val ((eT (eT eI)) covers_here31)), some (.val (eC_Ground A76.1)), some (.val (eI A76.2.1)), some (.val ((eXt eI) A76.2.2.1)), some (.val ((eT (eT eI)) due79)), some (.val (eC_Ground A133.1)), some (.val ((eT eI) A133.2.1)), some (.val ((eT eI) moved135)), none, none, none, none, none, none, none, none, none, some (.val ((eT eI) pit157)), none, none])) (Rb := (fun (block158 : Int) (w : RW) => [some (.val (flsD (List.map PyData.int script))), some (.own (row w)), some (.val ((eT (eT eI)) covers_here31)), some (.val (eC_Ground A76.1)), some (.val (eI A76.2.1)), some (.val ((eXt eI) A76.2.2.1)), some (.val ((eT (eT eI)) due79)), some (.val (eC_Ground A133.1)), some (.val ((eT eI) A133.2.1)), some (.val ((eT eI) moved135)), none, none, none, none, none, none, none, some (.val (eI block158)), none, some (.val ((eT eI) pit157)), none, none])) (Rc := (fun (block158 : Int) (w : RW) => [some (.val (flsD (List.map PyData.int script))), some (.own (row w)), some (.val ((eT (eT eI)) covers_here31)), some (.val (eC_Ground A76.1)), some (.val (eI A76.2.1)), some (.val ((eXt eI) A76.2.2.1)), some (.val ((eT (eT eI)) due79)), some (.val (eC_Ground A133.1)), some (.val ((eT eI) A133.2.1)), some (.val ((eT eI) moved135)), none, none, none, none, none, none, none, some (.val (eI block158)), none, some (.val ((eT eI) pit157)), none, none])) (e' := eI) (v := fun block158 A => A) (wSeq (e := eI) (l := fun A => A) (wVar 19 (eT eI) pit157)) (fun block158 => (wBin (wVar 5 (eXt eI) A76.2.2.1) (wVar 17 eI block158) (fun A B => (opIxE (e := eI)) A B)))) wNil) (fun (A : (List Int) × Unit) => (opSorted (e := eI)) A.1)) wNil) (fun (A : (List Int) × Unit) => (opTupL (e := eI)) A.1))))) (fun (pits159 : (List (List Int))) => (nIfRet (wTOr (wTb (wBin (wCall (wCons (wPlc 10 (.lst (List.map (eT eI) pits159))) wNil) (fun (A : Unit × Unit) => (opSortedU (e := eI)) pits159)) (wCall (wCons (wCallV (wCons (wVar 3 eC_Ground A76.1) wNil) (fun (A : (List (List Int)) × Unit) => tw_all_pits A.1)) wNil) (fun (A : (List (List Int)) × Unit) => (opSortedU (e := eI)) A.1)) (fun A B => (opNe (e := (eL (eT eI)))) A B))) (wTb (wBin (wCallV (wCons (wVar 7 eC_Ground A133.1) (wCons (wVar 9 (eT eI) moved135) wNil)) (fun (A : (List (List Int)) × (List Int) × Unit) => tw_best_worth A.1 A.2.1)) (wCallV (wCons (wVar 3 eC_Ground A76.1) (wCons (wVar 8 (eT eI) A133.2.1) wNil)) (fun (A : (List (List Int)) × (List Int) × Unit) => tw_best_worth A.1 A.2.1)) (fun A B => (opNe (e := eI)) A B)))) (fRet (v := fun A => A) (wBl false)) sPassW (fun _ => (nIfRet (wTb (wBin (wCall (wCons (wCall (wCons (wMap (R0 := (fun (w : RW) => [some (.val (flsD (List.map PyData.int script))), some (.own (row w)), some (.val ((eT (eT eI)) covers_here31)), some (.val (eC_Ground A76.1)), some (.val (eI A76.2.1)), some (.val ((eXt eI) A76.2.2.1)), some (.val ((eT (eT eI)) due79)), some (.val (eC_Ground A133.1)), some (.val ((eT eI) A133.2.1)), some (.val ((eT eI) moved135)), some (.own (.lst (List.map (eT eI) pits159))), none, none, none, none, none, none, none, none, none, none, none])) (Rb := (fun (block203 : Int) (w : RW) => [some (.val (flsD (List.map PyData.int script))), some (.own (row w)), some (.val ((eT (eT eI)) covers_here31)), some (.val (eC_Ground A76.1)), some (.val (eI A76.2.1)), some (.val ((eXt eI) A76.2.2.1)), some (.val ((eT (eT eI)) due79)), some (.val (eC_Ground A133.1)), some (.val ((eT eI) A133.2.1)), some (.val ((eT eI) moved135)), some (.own (.lst (List.map (eT eI) pits159))), none, none, none, none, none, none, some (.val (eI block203)), none, none, none, none])) (Rc := (fun (block203 : Int) (w : RW) => [some (.val (flsD (List.map PyData.int script))), some (.own (row w)), some (.val ((eT (eT eI)) covers_here31)), some (.val (eC_Ground A76.1)), some (.val (eI A76.2.1)), some (.val ((eXt eI) A76.2.2.1)), some (.val ((eT (eT eI)) due79)), some (.val (eC_Ground A133.1)), some (.val ((eT eI) A133.2.1)), some (.val ((eT eI) moved135)), some (.own (.lst (List.map (eT eI) pits159))), none, none, none, none, none, none, some (.val (eI block203)), none, none, none, none])) (e' := eI) (v := fun block203 A => A) (wSeq (e := eI) (l := fun A => A) (wCallV (wCons (wVar 7 eC_Ground A133.1) (wCons (wVar 9 (eT eI) moved135) wNil)) (fun (A : (List (List Int)) × (List Int) × Unit) => tw_least_best A.1 A.2.1))) (fun block203 => (wBin (wVar 5 (eXt eI) A76.2.2.1) (wVar 17 eI block203) (fun A B => (opIxE (e := eI)) A B)))) wNil) (fun (A : (List Int) × Unit) => (opSorted (e := eI)) A.1)) wNil) (fun (A : (List Int) × Unit) => (opTupL (e := eI)) A.1)) (wCallV (wCons (wVar 3 eC_Ground A76.1) (wCons (wVar 8 (eT eI) A133.2.1) wNil)) (fun (A : (List (List Int)) × (List Int) × Unit) => tw_least_best A.1 A.2.1)) (fun A B => (opNe (e := (eT eI))) A B))) (fRet (v := fun A => A) (wBl false)) sPassW (fun _ => (nSeq (sAsg (K := (fun (back205 : (List Int)) (w : RW) => [some (.val (flsD (List.map PyData.int script))), some (.own (row w)), some (.val ((eT (eT eI)) covers_here31)), some (.val (eC_Ground A76.1)), some (.val (eI A76.2.1)), some (.val ((eXt eI) A76.2.2.1)), some (.val ((eT (eT eI)) due79)), some (.val (eC_Ground A133.1)), some (.val ((eT eI) A133.2.1)), some (.val ((eT eI) moved135)), some (.own (.lst (List.map (eT eI) pits159))), some (.val ((eXt eI) back205)), none, none, none, none, none, none, none, none, none, none])) (wCall (wCons (wMap (R0 := (fun (w : RW) => [some (.val (flsD (List.map PyData.int script))), some (.own (row w)), some (.val ((eT (eT eI)) covers_here31)), some (.val (eC_Ground A76.1)), some (.val (eI A76.2.1)), some (.val ((eXt eI) A76.2.2.1)), some (.val ((eT (eT eI)) due79)), some (.val (eC_Ground A133.1)), some (.val ((eT eI) A133.2.1)), some (.val ((eT eI) moved135)), some (.own (.lst (List.map (eT eI) pits159))), none, none, none, none, none, none, none, none, none, none, none])) (Rb := (fun (block204 : Int) (w : RW) => [some (.val (flsD (List.map PyData.int script))), some (.own (row w)), some (.val ((eT (eT eI)) covers_here31)), some (.val (eC_Ground A76.1)), some (.val (eI A76.2.1)), some (.val ((eXt eI) A76.2.2.1)), some (.val ((eT (eT eI)) due79)), some (.val (eC_Ground A133.1)), some (.val ((eT eI) A133.2.1)), some (.val ((eT eI) moved135)), some (.own (.lst (List.map (eT eI) pits159))), none, none, none, none, none, none, some (.val (eI block204)), none, none, none, none])) (Rc := (fun (block204 : Int) (w : RW) => [some (.val (flsD (List.map PyData.int script))), some (.own (row w)), some (.val ((eT (eT eI)) covers_here31)), some (.val (eC_Ground A76.1)), some (.val (eI A76.2.1)), some (.val ((eXt eI) A76.2.2.1)), some (.val ((eT (eT eI)) due79)), some (.val (eC_Ground A133.1)), some (.val ((eT eI) A133.2.1)), some (.val ((eT eI) moved135)), some (.own (.lst (List.map (eT eI) pits159))), none, none, none, none, none, none, some (.val (eI block204)), none, none, none, none])) (e' := eI) (v := fun block204 A => A) (wRng1 (v := fun (A : Int × Unit) => A.1) (wCons (wVar 4 eI A76.2.1) wNil)) (fun block204 => (wTIx (l := A76.2.2.1) (wVar 17 eI block204)))) wNil) (fun (A : (List Int) × Unit) => (opTupX (e := eI)) A.1))) (fun (back205 : (List Int)) => (nIfRet (wTNot (wTb (wEqO (wNoX (wCallV (wCons (wVar 7 eC_Ground A133.1) (wCons (wVar 11 (eXt eI) back205) wNil)) (fun (A : (List (List Int)) × (List Int) × Unit) => tw_renamed A.1 A.2.1))) (wVar 3 eC_Ground A76.1) (fun A B => tw_Ground___eq__ A B)))) (fRet (v := fun A => A) (wBl false)) sPassW (fun _ => (nSeq (sParW (K := (fun (A208 : (List Int) × (List Int) × Unit) (w : RW) => [some (.val (flsD (List.map PyData.int script))), some (.own (row w)), some (.val ((eT (eT eI)) covers_here31)), some (.val (eC_Ground A76.1)), some (.val (eI A76.2.1)), some (.val ((eXt eI) A76.2.2.1)), some (.val ((eT (eT eI)) due79)), some (.val (eC_Ground A133.1)), some (.val ((eT eI) A133.2.1)), some (.val ((eT eI) moved135)), some (.own (.lst (List.map (eT eI) pits159))), some (.val ((eXt eI) back205)), some (.own (.lst (List.map eI A208.1))), some (.val ((eXt eI) A208.2.1)), none, none, none, none, none, none, none, none])) (wCons (wUn (wVar 4 eI A76.2.1) (fun A => opLRg A)) (wCons (wTupX (e := (eXt eI)) (f := (fun (A : Unit) => ([] : (List Int)))) wNil (fun _ => rfl)) wNil))) (fun (A208 : (List Int) × (List Int) × Unit) => (nSeq (sForW (R1 := (fun (w : RW) => [some (.val (flsD (List.map PyData.int script))), some (.own (row w)), some (.val ((eT (eT eI)) covers_here31)), some (.val (eC_Ground A76.1)), some (.val (eI A76.2.1)), some (.val ((eXt eI) A76.2.2.1)), some (.val ((eT (eT eI)) due79)), some (.val (eC_Ground A133.1)), some (.val ((eT eI) A133.2.1)), some (.val ((eT eI) moved135)), some (.own (.lst (List.map (eT eI) pits159))), some (.val ((eXt eI) back205)), some (.own (.lst (List.map eI A208.1))), some (.val ((eXt eI) A208.2.1)), none, none, none, none, none, none, none, none])) (K0 := (fun (s209 : ((List Int) × (List Int))) (w : RW) => [some (.val (flsD (List.map PyData.int script))), some (.own (row w)), some (.val ((eT (eT eI)) covers_here31)), some (.val (eC_Ground A76.1)), some (.val (eI A76.2.1)), some (.val ((eXt eI) A76.2.2.1)), some (.val ((eT (eT eI)) due79)), some (.val (eC_Ground A133.1)), some (.val ((eT eI) A133.2.1)), some (.val ((eT eI) moved135)), some (.own (.lst (List.map (eT eI) pits159))), some (.val ((eXt eI) back205)), some (.own (.lst (List.map eI s209.1))), some (.val ((eXt eI) s209.2)), none, none, none, none, none, none, none, none])) (Kb := (fun (turn210 : Int) (s209 : ((List Int) × (List Int))) (w : RW) => [some (.val (flsD (List.map PyData.int script))), some (.own (row w)), some (.val ((eT (eT eI)) covers_here31)), some (.val (eC_Ground A76.1)), some (.val (eI A76.2.1)), some (.val ((eXt eI) A76.2.2.1)), some (.val ((eT (eT eI)) due79)), some (.val (eC_Ground A133.1)), some (.val ((eT eI) A133.2.1)), some (.val ((eT eI) moved135)), some (.own (.lst (List.map (eT eI) pits159))), some (.val ((eXt eI) back205)), some (.own (.lst (List.map eI s209.1))), some (.val ((eXt eI) s209.2)), some (.val (eI turn210)), none, none, none, none, none, none, none])) (A208.1, A208.2.1) (wRng1 (v := fun (A : Int × Unit) => A.1) (wCons (wVar 4 eI A76.2.1) wNil)) (fun (turn210 : Int) (s209 : ((List Int) × (List Int))) => (sKillK (sReK (ks := [14]) (K' := (fun (s209 : ((List Int) × (List Int))) (w : RW) => [some (.val (flsD (List.map PyData.int script))), some (.own (row w)), some (.val ((eT (eT eI)) covers_here31)), some (.val (eC_Ground A76.1)), some (.val (eI A76.2.1)), some (.val ((eXt eI) A76.2.2.1)), some (.val ((eT (eT eI)) due79)), some (.val (eC_Ground A133.1)), some (.val ((eT eI) A133.2.1)), some (.val ((eT eI) moved135)), some (.own (.lst (List.map (eT eI) pits159))), some (.val ((eXt eI) back205)), some (.own (.lst (List.map eI s209.1))), some (.val ((eXt eI) s209.2)), none, none, none, none, none, none, none, none])) (fun (A211 : (List Int) × (List Int)) => (A211.2, A211.1)) (sPopCatX (e := eI) (l := s209.1) (t := s209.2) (v := fun (A : Int × Unit) => A.1) (K := (fun (A211 : (List Int) × (List Int)) (w : RW) => [some (.val (flsD (List.map PyData.int script))), some (.own (row w)), some (.val ((eT (eT eI)) covers_here31)), some (.val (eC_Ground A76.1)), some (.val (eI A76.2.1)), some (.val ((eXt eI) A76.2.2.1)), some (.val ((eT (eT eI)) due79)), some (.val (eC_Ground A133.1)), some (.val ((eT eI) A133.2.1)), some (.val ((eT eI) moved135)), some (.own (.lst (List.map (eT eI) pits159))), some (.val ((eXt eI) back205)), some (.own (.lst (List.map eI A211.2))), some (.val ((eXt eI) A211.1)), some (.val (eI turn210)), none, none, none, none, none, none, none])) (wCons (wCallI (rs := fun (A : Unit × Int × Unit) => [Rv.sv (.val (eI A.2.1))]) (row := row) (wCons (wPlc0 1) (wCons (wCall (wCons (wPlc 12 (.lst (List.map eI s209.1))) wNil) (fun (A : Unit × Unit) => (opLenL (e := eI)) s209.1)) wNil)) (fun (A : Unit × Int × Unit) => cr_taken A.2.1)) wNil)))))) (fun (v214 : ((List Int) × (List Int))) => (nSeq (sAsg (K := (fun (wrong217 : (List Int)) (w : RW) => [some (.val (flsD (List.map PyData.int script))), some (.own (row w)), some (.val ((eT (eT eI)) covers_here31)), some (.val (eC_Ground A76.1)), some (.val (eI A76.2.1)), some (.val ((eXt eI) A76.2.2.1)), some (.val ((eT (eT eI)) due79)), some (.val (eC_Ground A133.1)), some (.val ((eT eI) A133.2.1)), some (.val ((eT eI) moved135)), some (.own (.lst (List.map (eT eI) pits159))), some (.val ((eXt eI) back205)), some (.own (.lst (List.map eI v214.1))), some (.val ((eXt eI) v214.2)), none, some (.own (.lst (List.map eI wrong217))), none, none, none, none, none, none])) (wComp (R0 := (fun (w : RW) => [some (.val (flsD (List.map PyData.int script))), some (.own (row w)), some (.val ((eT (eT eI)) covers_here31)), some (.val (eC_Ground A76.1)), some (.val (eI A76.2.1)), some (.val ((eXt eI) A76.2.2.1)), some (.val ((eT (eT eI)) due79)), some (.val (eC_Ground A133.1)), some (.val ((eT eI) A133.2.1)), some (.val ((eT eI) moved135)), some (.own (.lst (List.map (eT eI) pits159))), some (.val ((eXt eI) back205)), some (.own (.lst (List.map eI v214.1))), some (.val ((eXt eI) v214.2)), none, none, none, none, none, none, none, none])) (Rb := (fun (k215 : Int) (w : RW) => [some (.val (flsD (List.map PyData.int script))), some (.own (row w)), some (.val ((eT (eT eI)) covers_here31)), some (.val (eC_Ground A76.1)), some (.val (eI A76.2.1)), some (.val ((eXt eI) A76.2.2.1)), some (.val ((eT (eT eI)) due79)), some (.val (eC_Ground A133.1)), some (.val ((eT eI) A133.2.1)), some (.val ((eT eI) moved135)), some (.own (.lst (List.map (eT eI) pits159))), some (.val ((eXt eI) back205)), some (.own (.lst (List.map eI v214.1))), some (.val ((eXt eI) v214.2)), none, none, none, none, none, none, some (.val (eI k215)), none])) (Rc := (fun (k215 : Int) (w : RW) => [some (.val (flsD (List.map PyData.int script))), some (.own (row w)), some (.val ((eT (eT eI)) covers_here31)), some (.val (eC_Ground A76.1)), some (.val (eI A76.2.1)), some (.val ((eXt eI) A76.2.2.1)), some (.val ((eT (eT eI)) due79)), some (.val (eC_Ground A133.1)), some (.val ((eT eI) A133.2.1)), some (.val ((eT eI) moved135)), some (.own (.lst (List.map (eT eI) pits159))), some (.val ((eXt eI) back205)), some (.own (.lst (List.map eI v214.1))), some (.val ((eXt eI) v214.2)), none, none, none, none, none, none, some (.val (eI k215)), none])) (e' := eI) (v := fun k215 A => A) (wRng1 (v := fun (A : Int × Unit) => A.1) (wCons (wVar 4 eI A76.2.1) wNil)) (fun k215 => (wTb (wBin (wComp (R0 := (fun (w : RW) => [some (.val (flsD (List.map PyData.int script))), some (.own (row w)), some (.val ((eT (eT eI)) covers_here31)), some (.val (eC_Ground A76.1)), some (.val (eI A76.2.1)), some (.val ((eXt eI) A76.2.2.1)), some (.val ((eT (eT eI)) due79)), some (.val (eC_Ground A133.1)), some (.val ((eT eI) A133.2.1)), some (.val ((eT eI) moved135)), some (.own (.lst (List.map (eT eI) pits159))), some (.val ((eXt eI) back205)), some (.own (.lst (List.map eI v214.1))), some (.val ((eXt eI) v214.2)), none, none, none, none, none, none, some (.val (eI k215)), none])) (Rb := (fun (one216 : Int) (w : RW) => [some (.val (flsD (List.map PyData.int script))), some (.own (row w)), some (.val ((eT (eT eI)) covers_here31)), some (.val (eC_Ground A76.1)), some (.val (eI A76.2.1)), some (.val ((eXt eI) A76.2.2.1)), some (.val ((eT (eT eI)) due79)), some (.val (eC_Ground A133.1)), some (.val ((eT eI) A133.2.1)), some (.val ((eT eI) moved135)), some (.own (.lst (List.map (eT eI) pits159))), some (.val ((eXt eI) back205)), some (.own (.lst (List.map eI v214.1))), some (.val ((eXt eI) v214.2)), none, none, none, none, some (.val (eI one216)), none, some (.val (eI k215)), none])) (Rc := (fun (one216 : Int) (w : RW) => [some (.val (flsD (List.map PyData.int script))), some (.own (row w)), some (.val ((eT (eT eI)) covers_here31)), some (.val (eC_Ground A76.1)), some (.val (eI A76.2.1)), some (.val ((eXt eI) A76.2.2.1)), some (.val ((eT (eT eI)) due79)), some (.val (eC_Ground A133.1)), some (.val ((eT eI) A133.2.1)), some (.val ((eT eI) moved135)), some (.own (.lst (List.map (eT eI) pits159))), some (.val ((eXt eI) back205)), some (.own (.lst (List.map eI v214.1))), some (.val ((eXt eI) v214.2)), none, none, none, none, some (.val (eI one216)), none, some (.val (eI k215)), none])) (e' := eI) (v := fun one216 A => A) (wSeq (e := eI) (l := fun A => A) (wBin (wVar 2 (eT (eT eI)) covers_here31) (wBin (wVar 13 (eXt eI) v214.2) (wVar 20 eI k215) (fun A B => (opIxE (e := eI)) A B)) (fun A B => (opIxT (e := (eT eI))) A B))) (fun one216 => (wTb (wBin (wVar 18 eI one216) (wSlX (wVar 13 (eXt eI) v214.2) (fun A => opSlX (e := eI) none (some k215) A)) (fun A B => (opNotInT (e := eI)) A B)))) (fun one216 => (wVar 18 eI one216))) (wLst (e := eI) (f := (fun (A : Unit) => ([] : (List Int)))) wNil) (fun A B => (opNe (e := (eL eI))) A B)))) (fun k215 => (wVar 20 eI k215)))) (fun (wrong217 : (List Int)) => (nIfRet (wTb (wBin (wBin (wCallV (wCons (wVar 3 eC_Ground A76.1) (wCons (wVar 13 (eXt eI) v214.2) wNil)) (fun (A : (List (List Int)) × (List Int) × Unit) => tw_l_told A.1 A.2.1)) (wInr (e := (eT (eT eI))) (f := eS) (wStr "order")) (fun A B => (opEq (e := (eX (eT (eT eI)) eS))) A B)) (wBin (wPlc 15 (.lst (List.map eI wrong217))) (wLst (e := eI) (f := (fun (A : Unit) => ([] : (List Int)))) wNil) (fun A B => (opNe (e := (eL eI))) wrong217 B)) (fun A B => (opNe (e := eB)) A B))) (fRet (v := fun A => A) (wBl false)) sPassW (fun _ => (nSeq (sAsg (K := (fun (odd218 : (List D)) (w : RW) => [some (.val (flsD (List.map PyData.int script))), some (.own (row w)), some (.val ((eT (eT eI)) covers_here31)), some (.val (eC_Ground A76.1)), some (.val (eI A76.2.1)), some (.val ((eXt eI) A76.2.2.1)), some (.val ((eT (eT eI)) due79)), some (.val (eC_Ground A133.1)), some (.val ((eT eI) A133.2.1)), some (.val ((eT eI) moved135)), some (.own (.lst (List.map (eT eI) pits159))), some (.val ((eXt eI) back205)), some (.own (.lst (List.map eI v214.1))), some (.val ((eXt eI) v214.2)), none, some (.own (.lst (List.map eI wrong217))), some (.own (.lst (List.map eA odd218))), none, none, none, none, none])) (wLst (e := eA) (f := (fun (A : Unit × (List Int) × (List Int) × (List Int) × (List Int) × (List Int) × Str × Int × Unit) => [(eU A.1), ((eL eI) A.2.1), ((eT eI) A.2.2.1), ((eT eI) A.2.2.2.1), ((eT eI) A.2.2.2.2.1), ((eT eI) A.2.2.2.2.2.1), (eS A.2.2.2.2.2.2.1), (eI A.2.2.2.2.2.2.2.1)])) (wCons wNon (wCons (wCall (wCons (wVar 5 (eXt eI) A76.2.2.1) wNil) (fun (A : (List Int) × Unit) => (opListX (e := eI)) A.1)) (wCons (wSlX (wVar 5 (eXt eI) A76.2.2.1) (fun A => opSlX (e := eI) (some 1) none A)) (wCons (wBin (wVar 5 (eXt eI) A76.2.2.1) (wTup (e := (eT eI)) (f := (fun (A : Int × Unit) => [A.1])) (wCons (wInt 0) wNil) (fun _ => rfl)) (fun A B => (opAddXP (e := eI)) A B)) (wCons (wIf (wTb (wBin (wVar 4 eI A76.2.1) (wInt 1) (fun A B => opGtI A B))) (wBin (wTup (e := (eT eI)) (f := (fun (A : Int × Unit) => [A.1])) (wCons (wInt 0) wNil) (fun _ => rfl)) (wVar 4 eI A76.2.1) (fun A B => (opRepB (e := eI)) A B)) (wTup (e := (eT eI)) (f := (fun (A : Int × Unit) => [A.1])) (wCons (wInt 1) wNil) (fun _ => rfl))) (wCons (wBin (wSlX (wVar 5 (eXt eI) A76.2.2.1) (fun A => opSlX (e := eI) none (some (-1)) A)) (wTup (e := (eT eI)) (f := (fun (A : Int × Unit) => [A.1])) (wCons (wVar 4 eI A76.2.1) wNil) (fun _ => rfl)) (fun A B => (opCatT (e := eI)) A B)) (wCons (wStr "0") (wCons (wInt 0) wNil)))))))))) (fun (odd218 : (List D)) => (nSeq (sAsg (K := (fun (odd219 : (List D)) (w : RW) => [some (.val (flsD (List.map PyData.int script))), some (.own (row w)), some (.val ((eT (eT eI)) covers_here31)), some (.val (eC_Ground A76.1)), some (.val (eI A76.2.1)), some (.val ((eXt eI) A76.2.2.1)), some (.val ((eT (eT eI)) due79)), some (.val (eC_Ground A133.1)), some (.val ((eT eI) A133.2.1)), some (.val ((eT eI) moved135)), some (.own (.lst (List.map (eT eI) pits159))), some (.val ((eXt eI) back205)), some (.own (.lst (List.map eI v214.1))), some (.val ((eXt eI) v214.2)), none, some (.own (.lst (List.map eI wrong217))), some (.own (.lst (List.map eA odd219))), none, none, none, none, none])) (wBin (wPlc 16 (.lst (List.map eA odd218))) (wLst (e := eA) (f := (fun (A : (List D) × (List Bool) × (List D) × Unit) => [((eT eA) A.1), ((eT eB) A.2.1), ((eT eA) A.2.2.1)])) (wCons (wBin (wUp (e := (eT eI)) (e' := (eT eA)) (f := (List.map eI)) (wSlX (wVar 5 (eXt eI) A76.2.2.1) (fun A => opSlX (e := eI) none (some (-1)) A)) (upT upA)) (wUp (e := (eT eU)) (e' := (eT eA)) (f := (List.map eU)) (wTup (e := (eT eU)) (f := (fun (A : Unit × Unit) => [A.1])) (wCons wNon wNil) (fun _ => rfl)) (upT upA)) (fun A B => (opCatT (e := eA)) A B)) (wCons (wBin (wTup (e := (eT eB)) (f := (fun (A : Bool × Unit) => [A.1])) (wCons (wBl true) wNil) (fun _ => rfl)) (wVar 4 eI A76.2.1) (fun A B => (opRepB (e := eB)) A B)) (wCons (wBin (wUp (e := (eT eI)) (e' := (eT eA)) (f := (List.map eI)) (wSlX (wVar 5 (eXt eI) A76.2.2.1) (fun A => opSlX (e := eI) none (some (-1)) A)) (upT upA)) (wUp (e := (eT (eL eI))) (e' := (eT eA)) (f := (List.map (eL eI))) (wTup (e := (eT (eL eI))) (f := (fun (A : (List Int) × Unit) => [A.1])) (wCons (wLst (e := eI) (f := (fun (A : Unit) => ([] : (List Int)))) wNil) wNil) (fun _ => rfl)) (upT upA)) (fun A B => (opCatT (e := eA)) A B)) wNil)))) (fun A B => (opCatL (e := eA)) odd218 B))) (fun (odd219 : (List D)) => (nF (fRet (v := fun A => A) (wBin (wUp (e := (eL eA)) (e' := eA) (f := (eL eA)) (wFz (e := (eL eA)) (v := fun A => A) (wComp (R0 := (fun (w : RW) => [some (.val (flsD (List.map PyData.int script))), some (.own (row w)), some (.val ((eT (eT eI)) covers_here31)), some (.val (eC_Ground A76.1)), some (.val (eI A76.2.1)), some (.val ((eXt eI) A76.2.2.1)), some (.val ((eT (eT eI)) due79)), some (.val (eC_Ground A133.1)), some (.val ((eT eI) A133.2.1)), some (.val ((eT eI) moved135)), some (.own (.lst (List.map (eT eI) pits159))), some (.val ((eXt eI) back205)), some (.own (.lst (List.map eI v214.1))), some (.val ((eXt eI) v214.2)), none, some (.own (.lst (List.map eI wrong217))), some (.val ((eL eA) odd219)), none, none, none, none, none])) (Rb := (fun (value220 : D) (w : RW) => [some (.val (flsD (List.map PyData.int script))), some (.own (row w)), some (.val ((eT (eT eI)) covers_here31)), some (.val (eC_Ground A76.1)), some (.val (eI A76.2.1)), some (.val ((eXt eI) A76.2.2.1)), some (.val ((eT (eT eI)) due79)), some (.val (eC_Ground A133.1)), some (.val ((eT eI) A133.2.1)), some (.val ((eT eI) moved135)), some (.own (.lst (List.map (eT eI) pits159))), some (.val ((eXt eI) back205)), some (.own (.lst (List.map eI v214.1))), some (.val ((eXt eI) v214.2)), none, some (.own (.lst (List.map eI wrong217))), some (.val ((eL eA) odd219)), none, none, none, none, some (.val (eA value220))])) (Rc := (fun (value220 : D) (w : RW) => [some (.val (flsD (List.map PyData.int script))), some (.own (row w)), some (.val ((eT (eT eI)) covers_here31)), some (.val (eC_Ground A76.1)), some (.val (eI A76.2.1)), some (.val ((eXt eI) A76.2.2.1)), some (.val ((eT (eT eI)) due79)), some (.val (eC_Ground A133.1)), some (.val ((eT eI) A133.2.1)), some (.val ((eT eI) moved135)), some (.own (.lst (List.map (eT eI) pits159))), some (.val ((eXt eI) back205)), some (.own (.lst (List.map eI v214.1))), some (.val ((eXt eI) v214.2)), none, some (.own (.lst (List.map eI wrong217))), some (.val ((eL eA) odd219)), none, none, none, none, some (.val (eA value220))])) (e' := eA) (v := fun value220 A => A) (wSeq (e := eA) (l := fun A => odd219) (R2 := (fun (w : RW) => [some (.val (flsD (List.map PyData.int script))), some (.own (row w)), some (.val ((eT (eT eI)) covers_here31)), some (.val (eC_Ground A76.1)), some (.val (eI A76.2.1)), some (.val ((eXt eI) A76.2.2.1)), some (.val ((eT (eT eI)) due79)), some (.val (eC_Ground A133.1)), some (.val ((eT eI) A133.2.1)), some (.val ((eT eI) moved135)), some (.own (.lst (List.map (eT eI) pits159))), some (.val ((eXt eI) back205)), some (.own (.lst (List.map eI v214.1))), some (.val ((eXt eI) v214.2)), none, some (.own (.lst (List.map eI wrong217))), some (.val ((eL eA) odd219)), none, none, none, none, none])) (wPlc 16 (.lst (List.map eA odd219)))) (fun value220 => (wTb (wBin (wCallV (wCons (wVar 3 eC_Ground A76.1) (wCons (wVar 21 eA value220) wNil)) (fun (A : (List (List Int)) × D × Unit) => tw_l_told_2 A.1 A.2.1)) (wInr (e := (eT (eT eI))) (f := eS) (wStr "order")) (fun A B => (opNe (e := (eX (eT (eT eI)) eS))) A B)))) (fun value220 => (wVar 21 eA value220)))) upA) (wUp (e := (eL eA)) (e' := eA) (f := (eL eA)) (wFz (e := (eL eA)) (v := fun A => A) (wLst (e := eA) (f := (fun (A : Unit) => ([] : (List D)))) wNil)) upA) (fun A B => opEqA A B))))))))))))))))))))))))))))))))))))))))
  try dsimp only [retW, ifW, andW, orW] at h
  unfold t_law
  try dsimp only [retW, ifW, andW, orW]
  exact crLaw (nl := 22) (fun (w : RW) => [some (.val (flsD (List.map PyData.int script))), none, none, none, none, none, none, none, none, none, none, none, none, none, none, none, none, none, none, none, none, none]) h
end Lw

namespace Lw
open PySem Pv Tv Ma
theorem cut_sub {l : List Int} {a b : Option Int} : (cutL l a b).Sublist l := (List.take_sublist _ _).trans (List.drop_sublist _ _)
theorem sp_covers {most : Int} {Q : Cv → Prop} (h0 : 0 < most) (h1 : most ≤ 100) (q : ∀ c, Vcv c → 1 ≤ c.length → (c.length : Int) ≤ most → Q c) : t_l_covers most Q := by
  unfold t_l_covers
  refine takenW_ok (by decide) (by decide) fun way w1 w2 => takenW_ok h0 (by omega) fun r r1 r2 => ?_
  simp only [retW]
  refine rangeW_ok (by omega) (by omega) (forW_inv (fun k c => c.length = k ∧ Vcv c) 0 ⟨rfl, Vcv.nil⟩ ?_ fun c hc => ?_)
  · rintro i x c hx ⟨hl, hv⟩ Q q
    obtain ⟨hi, rfl⟩ := rangeL_get' hx
    simp only [Int.zero_add, Nat.zero_add] at *
    refine rangeW_ok (by omega) (by omega) ?_
    have lot : ∀ m : Lt, m.Sublist (rangeL 0 i) → Lot i m := fun m hm => Lot.range.sub hm
    refine compW_sub (by rw [rangeL_len]; omega) (fun x _ Q q => takenW_ok (by decide) (by decide) fun _ _ _ => q _) (fun _ _ Q q => q) fun m hm => ?_
    have hm : Lot i m := lot m (by simpa using hm)
    refine ifW_inv (Lot i) (fun _ Q q => q _ Lot.nil) (fun _ Q q => q _ hm) fun m hm => ?_
    refine ifW_inv (Lot i) (fun _ Q q => rgW_ok (by omega) (by omega) (q _ (lot _ ?_))) (fun _ Q q => q _ hm) fun m hm => ?_
    · exact cut_sub
    refine ifW_inv (Lot i) (fun _ Q q => rangeW_ok (by omega) (by omega) (compW_f (fun x => decide (2 * x < 1 + r) && decide (1 + r ≤ 2 * i)) (by rw [rangeL_len]; omega) (fun x _ Q q => mulW_l (by decide) (by decide) ?_) (fun _ _ Q q => q) (q _ (lot _ ?_)))) (fun _ Q q => q _ hm) fun m hm => ?_
    · exact andW_ok _ _ (fun Q q => q) (fun _ Q q => mulW_l (by decide) (by decide) q) q
    · exact List.filter_sublist
    refine ifW_inv (Lot i) (fun _ Q q => compW_f (fun x => decide ((i : Int) - x < 3)) (by have := asc_len hm; omega) (fun x _ Q q => q) (fun _ _ Q q => q) (q _ (hm.sub List.filter_sublist))) (fun _ Q q => q _ hm) fun m hm => ?_
    refine appW_ok (by omega) (q _ ⟨by simp [hl], hv.snoc (by rw [hl]; exact hm.2) hm.1⟩)
  · obtain ⟨hl, hv⟩ := hc
    rw [rangeL_len] at hl
    exact q c hv (by omega) (by omega)
theorem sp_is_from {v a b : Int} {Q : Bool → Prop} (q : Q (decide (a ≤ v) && decide (v ≤ b))) : t_is_from v a b Q := q
theorem sp_rises {l : Lt} {Q : Bool → Prop} (hl : l.length ≤ 1000) (hp : l.Pairwise (· < ·)) (q : Q true) : t_rises l Q := by
  refine range2W_ok (by decide) (by decide) (by omega) (by omega) (mapW_ok (fun _ => true) (by rw [rangeL_len]; omega) (fun x hx Q q => ?_) ?_)
  · have hx := mem_rangeL.mp hx
    have h1 : (x - 1).toNat < l.length := by omega
    have h2 : x.toNat < l.length := by omega
    refine ixW_ok (by omega) (List.getElem?_eq_getElem h1) (ixW_ok (by omega) (List.getElem?_eq_getElem h2) ?_)
    have := List.pairwise_iff_getElem.mp hp _ _ h1 h2 (by omega)
    rw [decide_eq_true this]; exact q
  · have e : ((rangeL 1 ((l.length : Int) - 1).toNat).map fun _ => true).all id = true := by simp
    rw [e]; exact q
theorem sp_is_cover {l : Lt} {b : Int} {Q : Bool → Prop} (hl : l.length ≤ 1000) (h1 : ∀ x ∈ l, 0 ≤ x ∧ x < b) (hp : l.Pairwise (· < ·)) (q : Q true) : t_is_cover l b Q := by
  refine andW_ok true true (fun Q q => mapW_ok (fun _ => true) (by omega) (fun x hx Q q => ?_) ?_) (fun _ Q q => sp_rises hl hp q) q
  · have := h1 x hx
    refine sp_is_from ?_
    rw [decide_eq_true this.1, decide_eq_true (by omega)]; exact q
  · have e : (l.map fun _ => true).all id = true := by simp
    rw [e]; exact q
theorem sp_Ground {c : Cv} {Q : Cv → Prop} (hv : Vcv c) (h1 : 1 ≤ c.length) (h2 : c.length ≤ 10) (q : Q c) : t_Ground___init__ c Q := by
  refine ⟨by simp; omega, forW_unit (fun p hp Q q => ?_) q⟩
  obtain ⟨i, hi⟩ := List.getElem?_of_mem hp
  rw [enumL_get] at hi
  cases e : c[i]? with
  | none => rw [e] at hi; simp at hi
  | some l =>
    rw [e] at hi
    simp at hi
    subst hi
    have hb := hv i l e
    have hlen := (List.getElem?_eq_some_iff.mp e).1
    have : Lot i l := ⟨hb.2, hb.1⟩
    have := asc_len this
    exact sp_is_cover (l := l) (b := i) (by omega) hb.1 hb.2 ⟨rfl, q⟩
theorem sp_l_pick {l : Lt} {Q : Int → Prop} (h : l ≠ []) (hl : l.length < 1000000) (q : ∀ x ∈ l, Q x) : t_l_pick l Q := by
  have := List.length_pos_iff.mpr h
  refine takenW_ok (by omega) (by omega) fun r h1 h2 => ?_
  have h3 : r.toNat < l.length := by omega
  exact ixW_ok h1 (List.getElem?_eq_getElem h3) (q _ (List.getElem_mem h3))
theorem ord_nd {n : Nat} {f g : Int → Int} (B : BijO n f g) : ((rangeL 0 n).map f).Nodup := by
  refine nd_map B ?_ fun y hy => by have := mem_rangeK.mp hy; omega
  rw [List.nodup_iff_pairwise_ne]
  unfold rangeL
  rw [List.pairwise_map]
  exact (List.nodup_iff_pairwise_ne.mp List.nodup_range).imp fun {a b} h => by omega
theorem ord_get {n : Nat} {f : Int → Int} {i : Nat} (h : i < n) : ((rangeL 0 n).map f)[i]? = some (f i) := by
  unfold rangeL
  rw [List.map_map, List.getElem?_map, List.getElem?_range h]
  show some (f ((0 : Int) + (i : Int))) = _
  rw [show (0 : Int) + (i : Int) = i by omega]
theorem ord_mem {n : Nat} {f g : Int → Int} (B : BijO n f g) {x : Int} (h : x ∈ (rangeL 0 n).map f) : 0 ≤ x ∧ x < n := by
  obtain ⟨i, hi, rfl⟩ := List.mem_map.mp h
  have := mem_rangeK.mp hi
  exact B.ff i this.1 (by omega)
structure OrdK (c : Cv) (k : Nat) (s : List Int) : Prop where
  len : s.length = k
  nd : s.Nodup
  bd : ∀ x ∈ s, 0 ≤ x ∧ x < c.length
  bk : ∀ (i : Nat) (x : Int), s[i]? = some x → ∀ y ∈ atC c x, y ∈ s.take i
theorem OrdK.left {c : Cv} {k : Nat} {s : List Int} (h : OrdK c k s) (hv : Vcv c) (hk : k < c.length) : ∃ m : Int, (0 ≤ m ∧ m < c.length) ∧ m ∉ s ∧ ∀ y ∈ atC c m, y ∈ s := by
  have asc : ((rangeL 0 c.length).filter fun x => !decide (x ∈ s)).Pairwise (· < ·) := by
    refine List.Pairwise.sublist List.filter_sublist ?_
    unfold rangeL
    rw [List.pairwise_map]
    exact List.pairwise_lt_range.imp fun {a b} h => by omega
  cases e : (rangeL 0 c.length).filter fun x => !decide (x ∈ s) with
  | nil =>
    exfalso
    have all : ∀ x : Int, 0 ≤ x → x < c.length → x ∈ s := fun x x0 x1 => by
      have := List.filter_eq_nil_iff.mp e x (mem_rangeK.mpr ⟨x0, by omega⟩)
      simpa using this
    have lt : Lot c.length (srtI s) := ⟨srtI_asc h.nd, fun y hy => h.bd y (srtI_mem.mp hy)⟩
    have : srtI s = rangeL 0 c.length := by
      refine asc_ext lt.1 ?_ fun x => ⟨fun hx => ?_, fun hx => ?_⟩
      · unfold rangeL
        rw [List.pairwise_map]
        exact List.pairwise_lt_range.imp fun {a b} h => by omega
      · have := lt.2 x hx
        exact mem_rangeK.mpr ⟨this.1, by omega⟩
      · have := mem_rangeK.mp hx
        exact srtI_mem.mpr (all x this.1 (by omega))
    have e2 := congrArg List.length this
    rw [(srtI_perm _).length_eq, rangeL_len, h.len] at e2
    omega
  | cons m r =>
    rw [e] at asc
    have hm : m ∈ (rangeL 0 c.length).filter fun x => !decide (x ∈ s) := by rw [e]; exact .head _
    obtain ⟨m1, m2⟩ := List.mem_filter.mp hm
    have m1 := mem_rangeK.mp m1
    refine ⟨m, ⟨m1.1, by omega⟩, by simpa using m2, fun y hy => Classical.byContradiction fun hn => ?_⟩
    have hb := (cov_lot hv m1.1 (by omega)).1 y hy
    have : y ∈ m :: r := by
      rw [← e]
      exact List.mem_filter.mpr ⟨mem_rangeK.mpr ⟨hb.1, by omega⟩, by simpa using hn⟩
    rcases List.mem_cons.mp this with z | z
    · omega
    · have := (List.pairwise_cons.mp asc).1 y z
      omega
theorem OrdK.snoc {c : Cv} {k : Nat} {s : List Int} (h : OrdK c k s) {m : Int} (h1 : 0 ≤ m ∧ m < c.length) (h2 : m ∉ s) (h3 : ∀ y ∈ atC c m, y ∈ s) : OrdK c (k + 1) (s ++ [m]) := by
  refine ⟨by rw [List.length_append, h.len]; rfl, ?_, fun x hx => ?_, fun i x hi y hy => ?_⟩
  · rw [List.nodup_append]
    exact ⟨h.nd, by simp, fun a ha b hb e => by
      rw [List.mem_singleton] at hb
      subst hb; subst e
      exact h2 ha⟩
  · rcases List.mem_append.mp hx with z | z
    · exact h.bd x z
    · rw [List.mem_singleton] at z
      subst z; exact h1
  · by_cases z : i < s.length
    · rw [List.getElem?_append_left z] at hi
      rw [List.take_append_of_le_length (by omega)]
      exact h.bk i x hi y hy
    · have hl := (List.getElem?_eq_some_iff.mp hi).1
      rw [List.length_append, List.length_singleton] at hl
      have : i = s.length := by omega
      subst this
      rw [List.getElem?_append_right (Nat.le_refl _), Nat.sub_self] at hi
      cases hi
      rw [List.take_left']
      · exact h3 y hy
      · rfl
theorem OrdK.ord {c : Cv} {s : List Int} (h : OrdK c c.length s) (hv : Vcv c) : ordB c (atO s) (posO s) = true := by
  obtain ⟨B, ho⟩ := bij_of h.nd h.len h.bd
  refine ordB_iff.mpr fun i i0 i1 x hx => ?_
  have e : s[i.toNat]? = some (atO s i) := by
    have := ord_get (f := atO s) (show i.toNat < c.length by omega)
    rw [← ho] at this
    rwa [show ((i.toNat : Nat) : Int) = i by omega] at this
  have := h.bk i.toNat _ e x hx
  obtain ⟨j, hj⟩ := List.getElem?_of_mem this
  have hl := (List.getElem?_eq_some_iff.mp hj).1
  rw [List.length_take] at hl
  rw [List.getElem?_take_of_lt (by omega)] at hj
  unfold posO
  rw [idxI_at h.nd hj]
  show ((j : Nat) : Int) < i
  omega
theorem sp_l_order {c : Cv} {Q : List Int → Prop} (hv : Vcv c) (h2 : c.length ≤ 10) (q : ∀ s, OrdK c c.length s → Q s) : t_l_order c Q := by
  unfold t_l_order
  simp only [retW]
  refine rangeW_nat (by omega) (forW_inv (fun k s => OrdK c k s) 0 ⟨rfl, List.nodup_nil, fun x hx => (List.not_mem_nil hx).elim, fun i x h => by simp at h⟩ (fun i x s hx hs Q q => ?_) (fun s hs => q s (by rwa [rangeL_len, Nat.zero_add] at hs)))
  obtain ⟨hi, rfl⟩ := rangeL_get' hx
  rw [Nat.zero_add] at hs q
  have sl := hs.len
  refine rangeW_nat (by omega) (compW_f (fun k => !decide (k ∈ s)) (by rw [rangeL_len]; omega) (fun _ _ Q q => q) (fun _ _ Q q => q) ?_)
  refine compW_f (fun k => (atC c k).all fun y => decide (y ∈ s)) (Nat.le_trans (List.length_filter_le _ _) (by rw [rangeL_len]; omega)) (fun k hk Q q => ?_) (fun _ _ Q q => q) ?_
  · have hb := mem_rangeK.mp (List.mem_filter.mp hk).1
    have := asc_len (cov_n hv hb.1 (by omega))
    refine ixW_ok hb.1 (atC_get hb.1 (by omega)) (compW_f (fun y => !decide (y ∈ s)) (by omega) (fun _ _ Q q => q) (fun _ _ Q q => q) ?_)
    have e : decide (((atC c k).filter fun y => !decide (y ∈ s)) = []) = (atC c k).all fun y => decide (y ∈ s) := by
      rw [Bool.eq_iff_iff, decide_eq_true_iff, List.filter_eq_nil_iff, List.all_eq_true]
      constructor
      · intro h y hy
        have := h y hy
        simpa using this
      · intro h y hy
        have := h y hy
        simpa using this
    rw [e]; exact q
  · obtain ⟨m, m1, m2, m3⟩ := hs.left hv hi
    refine sp_l_pick ?_ ?_ fun x hx => ?_
    · exact List.ne_nil_of_mem (a := m) (List.mem_filter.mpr ⟨List.mem_filter.mpr ⟨mem_rangeK.mpr ⟨m1.1, by omega⟩, by simpa using m2⟩, List.all_eq_true.mpr fun y hy => decide_eq_true (m3 y hy)⟩)
    · refine Nat.lt_of_le_of_lt (Nat.le_trans (List.length_filter_le _ _) (List.length_filter_le _ _)) (by rw [rangeL_len]; omega)
    · obtain ⟨x1, x2⟩ := List.mem_filter.mp hx
      obtain ⟨x0, x1⟩ := List.mem_filter.mp x1
      have xb := mem_rangeK.mp x0
      refine catW_ok (by simp; omega) (q _ (hs.snoc ⟨xb.1, by omega⟩ (by simpa using x1) fun y hy => of_decide_eq_true (List.all_eq_true.mp x2 y hy)))
theorem sp_len {c : Cv} {Q : Int → Prop} (h2 : c.length ≤ 10) (q : Q (c.length : Int)) : t_Ground___len__ c fun n => lenOk n = true ∧ Q n := ⟨lenOk_nat _ (by omega), q⟩
theorem sp_is_block {c : Cv} {x : Int} {Q : Bool → Prop} (h2 : c.length ≤ 10) (q : Q (decide (0 ≤ x) && decide (x ≤ c.length - 1))) : t_is_block c x Q := sp_len h2 q
theorem sp_is_order {c : Cv} {o : List Int} {f g : Int → Int} {Q : Bool → Prop} (hv : Vcv c) (h2 : c.length ≤ 10) (B : BijO c.length f g) (ho : o = (rangeL 0 c.length).map f) (q : Q (ordB c f g)) : t_is_order c o Q := by
  unfold t_is_order
  have hl : o.length = c.length := by rw [ho, List.length_map, rangeL_len]
  have mb : ∀ x ∈ o, 0 ≤ x ∧ x < c.length := fun x hx => ord_mem B (by rw [← ho]; exact hx)
  refine orW_ok false false (fun Q q => ?_) (fun _ Q q => ?_) ?_
  · refine sp_len h2 ?_
    rw [hl, decide_eq_true rfl]
    exact q
  · refine mapW_ok (fun _ => true) (by omega) (fun x hx Q q => sp_is_block h2 ?_) ?_
    · have := mb x hx
      rw [decide_eq_true this.1, decide_eq_true (show x ≤ (c.length : Int) - 1 by omega)]
      exact q
    · rw [List.all_eq_true.mpr (fun x hx => by obtain ⟨_, _, rfl⟩ := List.mem_map.mp hx; rfl)]
      exact q
  · rw [Bool.false_or, if_neg (by decide)]
    refine ⟨Nat.ble_eq_true_of_le (by omega), ?_⟩
    rw [dd_nd (by rw [ho]; exact ord_nd B), if_neg (by simp)]
    have en : ∀ p : Int × Int, p ∈ enumL o → ∃ k : Nat, k < c.length ∧ p = ((k : Int), f k) := fun p hp => by
      obtain ⟨i, hi⟩ := List.getElem?_of_mem hp
      rw [enumL_get] at hi
      obtain ⟨x, hx, rfl⟩ := Option.map_eq_some_iff.mp hi
      have hj := (List.getElem?_eq_some_iff.mp hx).1
      rw [ho, ord_get (by omega)] at hx
      cases hx
      exact ⟨i, by omega, rfl⟩
    have en2 : ∀ k : Nat, k < c.length → ((k : Int), f k) ∈ enumL o := fun k hk => by
      refine List.mem_of_getElem? (i := k) ?_
      rw [enumL_get, ho, ord_get hk]
      rfl
    have fb : ∀ k : Nat, k < c.length → 0 ≤ f k ∧ f k < c.length := fun k hk => B.ff k (by omega) (by omega)
    have hf : ((enumL o).flatMap fun p => (atC c p.2).map fun x => decide (g x < p.1)).length ≤ 16777216 := by
      have := flat_le8 (f := fun p : Int × Int => (atC c p.2).map fun x => decide (g x < p.1)) (k := 10) (l := enumL o) fun p hp => by
        obtain ⟨k, hk, rfl⟩ := en p hp
        have := asc_len (cov_n hv (fb k hk).1 (fb k hk).2)
        rw [List.length_map]
        show (atC c (f k)).length ≤ 10
        omega
      rw [enumL_len8, hl] at this
      omega
    refine comp2W_all (fun p : Int × Int => atC c p.2) (fun p x => decide (g x < p.1)) (fun p hp Q q => ?_) (fun p hp x hx Q q => ?_) hf ?_
    · obtain ⟨k, hk, rfl⟩ := en p hp
      exact ixW_ok (fb k hk).1 (atC_get (fb k hk).1 (fb k hk).2) q
    · obtain ⟨k, hk, rfl⟩ := en p hp
      have := (cov_n hv (fb k hk).1 (fb k hk).2).2 x hx
      exact tix_of B ho this.1 this.2 q
    · have e : (((enumL o).flatMap fun p => (atC c p.2).map fun x => decide (g x < p.1)).all id) = ordB c f g := by
        rw [Bool.eq_iff_iff, ordB_iff, List.all_eq_true]
        constructor
        · intro h i i0 i1 x hx
          have e1 : ((i.toNat : Nat) : Int) = i := by omega
          have := h (decide (g x < i)) (List.mem_flatMap.mpr ⟨_, en2 i.toNat (by omega), by rw [e1]; exact List.mem_map.mpr ⟨x, hx, rfl⟩⟩)
          exact of_decide_eq_true this
        · intro h b hb
          obtain ⟨p, hp, hb⟩ := List.mem_flatMap.mp hb
          obtain ⟨k, hk, rfl⟩ := en p hp
          obtain ⟨x, hx, rfl⟩ := List.mem_map.mp hb
          exact decide_eq_true (h k (by omega) (by omega) x hx)
      rw [e]
      exact q
theorem sp_need_order {c : Cv} {o : List Int} {f g : Int → Int} {Q : Unit ⊕ Str → Prop} (hv : Vcv c) (h2 : c.length ≤ 10) (B : BijO c.length f g) (ho : o = (rangeL 0 c.length).map f) (q1 : ordB c f g = true → Q (.inl ())) (q2 : ordB c f g = false → Q (.inr "BadOrder")) : t_need_order c o Q := by
  unfold t_need_order t_need_ground
  refine sp_is_order hv h2 B ho ?_
  cases e : ordB c f g with
  | true => rw [if_neg (by decide)]; exact q1 e
  | false => rw [if_pos (by decide)]; exact q2 e
theorem due_ok {c : Cv} {o : List Int} {f g : Int → Int} {Q : List (List Int) → Prop} (hv : Vcv c) (h2 : c.length ≤ 10) (B : BijO c.length f g) (ho : o = (rangeL 0 c.length).map f) (q : Q (renO c f g)) :
    mapW o (fun b Q => ixW c b fun r => mapW r (fun x Q => tixW o x fun r => Q r) fun l => sortW eI ltI l fun r => Q r) Q := by
  have hl : o.length = c.length := by rw [ho, List.length_map, rangeL_len]
  refine mapW_ok (fun b => srtI ((atC c b).map g)) (by omega) (fun b hb Q q => ?_) ?_
  · have hb := ord_mem B (by rw [← ho]; exact hb)
    have lt := cov_n hv hb.1 hb.2
    have := asc_len lt
    exact ixW_ok hb.1 (atC_get hb.1 hb.2) (mapW_ok g (by omega) (fun x hx Q q => tix_of B ho (lt.2 x hx).1 (lt.2 x hx).2 q) ⟨srtOk_ints _, q⟩)
  · rw [ho, List.map_map]
    exact q
theorem sp_renamed {c : Cv} {o : List Int} {f g : Int → Int} {Q : List (List Int) ⊕ Str → Prop} (hv : Vcv c) (h1 : 1 ≤ c.length) (h2 : c.length ≤ 10) (B : BijO c.length f g) (ho : o = (rangeL 0 c.length).map f) (q1 : ordB c f g = true → Q (.inl (renO c f g))) (q2 : ordB c f g = false → Q (.inr "BadOrder")) : t_renamed c o Q := by
  unfold t_renamed
  refine sp_need_order hv h2 B ho (fun e => ?_) (fun e => q2 e)
  exact due_ok hv h2 B ho (sp_Ground (renO_V hv B e) (by rw [renO_len]; omega) (by rw [renO_len]; omega) (q1 e))
theorem sp_l_told {c : Cv} {o : List Int} {f g : Int → Int} {Q : List (List Int) ⊕ Str → Prop} (hv : Vcv c) (h1 : 1 ≤ c.length) (h2 : c.length ≤ 10) (B : BijO c.length f g) (ho : o = (rangeL 0 c.length).map f) (q1 : ordB c f g = true → Q (.inl (renO c f g))) (q2 : ordB c f g = false → Q (.inr "order")) : t_l_told c o Q := by
  unfold t_l_told
  refine sp_renamed hv h1 h2 B ho (fun e => q1 e) (fun e => ?_)
  refine ⟨by simp, ?_⟩
  show ite _ _ _
  rw [if_pos (by simp)]
  exact q2 e
theorem sp_l_worths {n : Nat} {Q : List Int → Prop} (h : n ≤ 1000) (q : ∀ w, Wor n w → Q w) : t_l_worths (n : Int) Q := by
  unfold t_l_worths
  refine takenW_ok (by decide) (by decide) fun st s1 s2 => ?_
  simp only [retW]
  have hs : ∀ l : List Int, l = [3, 5, 9, 51, 51, 2] ∨ l = [3, 5, 9, 51, 4, 2] → ∃ x, l[st.toNat]? = some x ∧ 0 < x ∧ x ≤ 51 := by
    intro l hl
    have : st = 0 ∨ st = 1 ∨ st = 2 ∨ st = 3 ∨ st = 4 ∨ st = 5 := by omega
    rcases hl with rfl | rfl <;> rcases this with rfl | rfl | rfl | rfl | rfl | rfl <;> exact ⟨_, rfl, by decide, by decide⟩
  obtain ⟨x, hx, x1, x2⟩ := hs _ (.inl rfl)
  obtain ⟨y, hy, y1, y2⟩ := hs _ (.inr rfl)
  refine rangeW_nat (by omega) ?_
  refine forW_inv (fun k w => Wor k w) 0 ⟨rfl, by simp⟩ ?_ fun w hw => q w (by rw [rangeL_len, Nat.zero_add] at hw; exact hw)
  rintro i z w hz hw Q q
  obtain ⟨hi, rfl⟩ := rangeL_get' hz
  rw [Nat.zero_add] at hw q
  refine ixW_ok s1 hx (takenW_ok x1 (by omega) fun a a1 a2 => ixW_ok s1 hy (takenW_ok y1 (by omega) fun b b1 b2 => ?_))
  refine appW_ok (by rw [hw.len]; omega) (q _ ⟨by simp [hw.len], fun v hv => ?_⟩)
  rcases List.mem_append.mp hv with hv | hv
  · exact hw.bd v hv
  · have hv : v = b - a := by simpa using hv
    omega
theorem sp_pits_of {c : Cv} {Q : List Lt → Prop} (hv : Vcv c) (h2 : c.length ≤ 10) (q : Q (pitsL c)) : t_pits_of c Q := by
  unfold t_pits_of
  simp only [retW]
  refine sp_len h2 ?_
  refine rangeW_nat (by omega) ?_
  refine forW_inv (fun k f => f = (rawL k).filter (isPitB c)) 0 rfl ?_ ?_
  · rintro i x f hx rfl Q q
    obtain ⟨hi, rfl⟩ := rangeL_get' hx
    simp only [Int.zero_add, Nat.zero_add] at *
    have hlen : ((rawL i).filter (isPitB c)).length ≤ 1024 := Nat.le_trans (List.length_filter_le _ _) (rawL_small (by omega))
    refine ixW_ok (by omega) (atC_get (by omega) (by omega)) ?_
    refine compW_ok (fun l => (atC c (i : Int)).all fun o => decide (o ∈ l)) (fun l => l ++ [(i : Int)]) (by omega) (fun l hl Q q => ?_) (fun l hl _ Q q => ?_) ?_
    · have h5 : Lot i (atC c (i : Int)) := ⟨hv.asc (by omega), fun x hx => hv.at (by omega) hx⟩
      have := asc_len h5
      refine mapW_ok (fun o => decide (o ∈ l)) (by omega) (fun _ _ Q q => q) ?_
      rw [List.all_map]; exact q
    · have := asc_len (mem_rawL.mp (List.mem_filter.mp hl).1)
      exact sizW_ok (by simp; omega) q
    · have h9 : ((((rawL i).filter (isPitB c)).filter fun l => (atC c (i : Int)).all fun o => decide (o ∈ l)).map (· ++ [(i : Int)])).length ≤ 1024 := by
        rw [List.length_map]; exact Nat.le_trans (List.length_filter_le _ _) hlen
      refine catW_ok (Nat.le_trans (Nat.add_le_add hlen h9) (by decide)) (q _ ?_)
      exact (raw_pits_succ hv i).symm
  · rintro f rfl
    rw [rangeL_len, Nat.zero_add]
    refine mapG_ok szd (fun x _ Q q => q) ⟨srtOk_pair _, ?_⟩
    rw [sortK_srtS, ← pitsL_eq]
    exact q
theorem sp_all_pits {c : Cv} {Q : List Lt → Prop} (hv : Vcv c) (h2 : c.length ≤ 10) (q : Q (pitsL c)) : t_all_pits c Q := sp_pits_of hv h2 q
theorem sp_need_worths {c : Cv} {w : List Int} {Q : Unit → Prop} (h2 : c.length ≤ 10) (hw : Wor c.length w) (q : Q ()) : t_need_worths c w Q := by
  unfold t_need_worths t_need_ground
  refine sp_len h2 ?_
  refine ⟨by rw [hw.len]; simp, mapW_ok (fun _ => true) (by rw [hw.len]; omega) (fun x hx Q q => ?_) ?_⟩
  · have := hw.bd x hx
    refine sp_is_from ?_
    rw [decide_eq_true this.1, decide_eq_true this.2]; exact q
  · have e : (w.map fun _ => true).all id = true := by simp
    rw [e]; exact q
theorem sp_sum_of {n : Nat} {w : List Int} {l : Lt} {Q : Int → Prop} (hn : n ≤ 1000) (hw : w.length = n) (hl : Lot n l) (q : Q (sumW w l)) : t_sum_of w l Q :=
  mapW_ok (wAt w) (by have := asc_len hl; omega) (fun b hb Q q => ixW_ok (hl.2 b hb).1 (wAt_get (hl.2 b hb).1 (by have := hl.2 b hb; omega)) q) q
theorem sp_greatest_of {n : Nat} {w : List Int} {ps : List Lt} {Q : Int → Prop} (hn : n ≤ 1000) (hw : w.length = n) (hl : ps.length ≤ 16777216) (hne : ps ≠ []) (hp : ∀ p ∈ ps, Lot n p) (q : Q (maxL (ps.map (sumW w)))) : t_greatest_of w ps Q :=
  mapW_ok (sumW w) hl (fun p h Q q => sp_sum_of hn hw (hp p h) q) (maxW_ok (by simpa using hne) q)
theorem sp_best_worth {c : Cv} {w : List Int} {Q : Int → Prop} (hv : Vcv c) (h2 : c.length ≤ 10) (hw : Wor c.length w) (q : Q (most c w)) : t_best_worth c w Q := by
  have hl := pitsL_len h2
  exact sp_need_worths h2 hw (sp_pits_of hv h2 (sp_greatest_of (n := c.length) (by omega) hw.len (by omega) (pitsL_ne c) (fun p hp => (mem_pitsL.mp hp).lot) q))
theorem sp_best_pits {c : Cv} {w : List Int} {Q : List Lt → Prop} (hv : Vcv c) (h2 : c.length ≤ 10) (hw : Wor c.length w) (q : Q (bestL c w)) : t_best_pits c w Q := by
  have hl := pitsL_len h2
  refine sp_pits_of hv h2 (sp_greatest_of (n := c.length) (by omega) hw.len (by omega) (pitsL_ne c) (fun p hp => (mem_pitsL.mp hp).lot) ?_)
  exact compW_f (fun p => decide (sumW w p = most c w)) (by omega) (fun p hp Q q => sp_sum_of (n := c.length) (by omega) hw.len (mem_pitsL.mp hp).lot q) (fun _ _ Q q => q) q
theorem sp_least_best {c : Cv} {w : List Int} {a : Lt} {Q : Lt → Prop} (hv : Vcv c) (h2 : c.length ≤ 10) (hw : Wor c.length w) (ha : (bestL c w)[0]? = some a) (q : Q a) : t_least_best c w Q := sp_need_worths h2 hw (sp_best_pits hv h2 hw (ixW_ok (by decide) ha q))
theorem sp_is_from_2 {v : D} {a b : Int} {Q : Bool → Prop} (h : okB v = true) (q : Q (frB v a b)) : t_is_from_2 v a b Q := by
  unfold t_is_from_2
  cases v with
  | int i =>
    refine andW_ok true (frB (.int i) a b) (fun Q q => isA_int h q) (fun _ Q q => andW_ok true (frB (.int i) a b) (fun Q q => isA_bool h q) (fun _ Q q => ⟨i, rfl, ?_⟩) q) q
    exact andW_ok _ _ (fun Q q => q) (fun _ Q q => q) q
  | bool b => exact andW_ok true false (fun Q q => isA_int h q) (fun _ Q q => andW_ok false true (fun Q q => isA_bool h q) (fun z => by cases z) q) q
  | _ => exact andW_ok false true (fun Q q => isA_int h q) (fun z => by cases z) q
theorem sp_is_block_2 {c : Cv} {x : D} {Q : Bool → Prop} (h2 : c.length ≤ 10) (h : okB x = true) (q : Q (frB x 0 ((c.length : Int) - 1))) : t_is_block_2 c x Q := sp_len h2 (sp_is_from_2 h q)
inductive NoO (n : Nat) : D → Prop
  | tup {v : D} (h : okB v = true) (h2 : tupB v = false) : NoO n v
  | len {l : List D} (h : l.length ≠ n) : NoO n (.tuple l)
  | blk {l : List D} (hl : l.length ≤ 1000) (h : ∀ d ∈ l, okB d = true) {d : D} (hd : d ∈ l) (h2 : frB d 0 ((n : Int) - 1) = false) : NoO n (.tuple l)
  | two {l : List Int} (hl : l.length ≤ 1000) (h : (dd l).length < l.length) : NoO n (eT eI l)
theorem sp_is_order_2 {c : Cv} {v : D} {Q : Bool → Prop} (h2 : c.length ≤ 10) (h : NoO c.length v) (q : Q false) : t_is_order_2 c v Q := by
  unfold t_is_order_2
  have ev : ∀ l : List D, eA (.tuple l) = eT eA l := fun l => by show PyData.tuple l = PyData.tuple (l.map fun d => d); rw [List.map_id']
  have blks : ∀ (l : List D), l.length ≤ 1000 → (∀ d ∈ l, okB d = true) → ∀ Q : Bool → Prop, Q (!(l.all fun d => frB d 0 ((c.length : Int) - 1))) → mapW l (fun one Q => t_is_block_2 c one fun r => Q r) fun l => Q (!(l.all id)) := fun l hl ho Q q => by
    refine mapW_ok (fun d => frB d 0 ((c.length : Int) - 1)) (by omega) (fun x hx Q q => sp_is_block_2 h2 (ho x hx) q) ?_
    rw [List.all_map]
    exact q
  cases h with
  | tup h h3 => exact orW_ok true true (fun Q q => isA_tup h (by rw [h3]; exact q)) (fun z => by cases z) q
  | @len l h =>
    refine orW_ok false true (fun Q q => isA_tup rfl q) (fun _ Q q => ?_) q
    refine orW_ok true true (fun Q q => cvW_ok (e := eA) (e' := eT eA) l (ev l) (sp_len h2 ?_)) (fun z => by cases z) q
    rw [show (!decide ((l.length : Int) = (c.length : Int))) = true by simp; omega]; exact q
  | @blk l hl h d hd h3 =>
    refine orW_ok false true (fun Q q => isA_tup rfl q) (fun _ Q q => ?_) q
    refine orW_ok (!decide ((l.length : Int) = (c.length : Int))) true (fun Q q => cvW_ok (e := eA) (e' := eT eA) l (ev l) (sp_len h2 q)) (fun _ Q q => cvW_ok (e := eA) (e' := eT eA) l (ev l) (blks l hl h Q ?_)) (by rw [Bool.or_true]; exact q)
    have : (l.all fun d => frB d 0 ((c.length : Int) - 1)) = false := by
      rw [Bool.eq_false_iff]
      intro z
      have := List.all_eq_true.mp z d hd
      rw [h3] at this; cases this
    rw [this]; exact q
  | @two l hl h =>
    have e1 : eA (eT eI l) = eT eA (l.map eI) := ev _
    refine orW_ok false ((!decide (((l.map eI).length : Int) = (c.length : Int))) || !((l.map eI).all fun d => frB d 0 ((c.length : Int) - 1))) (fun Q q => isA_tup rfl q) (fun _ Q q => ?_) ?_
    · exact orW_ok _ _ (fun Q q => cvW_ok (e := eA) (e' := eT eA) (l.map eI) e1 (sp_len h2 q)) (fun _ Q q => cvW_ok (e := eA) (e' := eT eA) (l.map eI) e1 (blks _ (by rw [List.length_map]; omega) (fun d hd => by obtain ⟨i, _, rfl⟩ := List.mem_map.mp hd; rfl) Q q)) q
    · rw [Bool.false_or]
      split
      · exact q
      · refine cvW_ok (e := eA) (e' := eT eI) l rfl ⟨Nat.ble_eq_true_of_le (show l.length ≤ 3999 by omega), cvW_ok (e := eA) (e' := eT eA) (l.map eI) e1 ?_⟩
        rw [if_pos (by rw [List.length_map]; simpa using h)]
        exact q
theorem sp_l_told_2 {c : Cv} {v : D} {Q : List (List Int) ⊕ Str → Prop} (h2 : c.length ≤ 10) (h : NoO c.length v) (q : Q (.inr "order")) : t_l_told_2 c v Q := by
  unfold t_l_told_2 t_renamed_2 t_need_order_2 t_need_ground
  refine sp_is_order_2 h2 h ?_
  rw [if_pos (by decide)]
  refine ⟨by simp, ?_⟩
  show ite _ _ _
  rw [if_pos (by simp)]
  exact q
structure MixK (n k : Nat) (l m : List Int) : Prop where
  len : m.length = k
  pm : (m ++ l).Perm (rangeL 0 n)
theorem MixK.sz {n k : Nat} {l m : List Int} (h : MixK n k l m) : k + l.length = n := by
  have := h.pm.length_eq
  rw [List.length_append, rangeL_len, h.len] at this
  exact this
theorem MixK.step {n k : Nat} {l m : List Int} (h : MixK n k l m) {i : Nat} {x : Int} (hx : l[i]? = some x) : MixK n (k + 1) (l.eraseIdx i) (m ++ [x]) := by
  refine ⟨by rw [List.length_append, h.len]; rfl, ?_⟩
  rw [List.append_assoc]
  exact ((erase_perm hx).append_left m).trans h.pm
theorem range_nd (n : Nat) : (rangeL 0 n).Nodup := by
  unfold rangeL
  rw [List.nodup_iff_pairwise_ne, List.pairwise_map]
  exact List.nodup_iff_pairwise_ne.mp List.nodup_range |>.imp fun {a b} h => by omega
theorem okT {l : List (List Int)} (h : l.length ≤ 10) (h2 : ∀ p ∈ l, p.length ≤ 10) : okL (okL (fun _ => True)) l := ⟨by rw [size_eq]; omega, fun p hp => ⟨by rw [size_eq]; have := h2 p hp; omega, fun _ _ => trivial⟩⟩
theorem sIx_from1 {n : Nat} (h : 1 ≤ n) : HT.sIx n 0 (some 1) ≠ 0 := by
  simp only [HT.sIx]
  split <;> omega
theorem sIx_to1 {n : Nat} (h : 1 ≤ n) : HT.sIx n n (some (-1)) ≠ n := by
  simp only [HT.sIx]
  split <;> omega
theorem sIx_toK {n k : Nat} (h : k < n) : HT.sIx n n (some (k : Int)) ≠ n := by
  simp only [HT.sIx]
  split <;> omega
theorem dd_zeros (n : Nat) : (dd (List.replicate n (0 : Int))).length ≤ 1 := by
  have lt : Lot 1 (srtI (dd (List.replicate n (0 : Int)))) := ⟨srtI_asc (dd_nodup _), fun y hy => by
    have := List.mem_replicate.mp (dd_mem.mp (srtI_mem.mp hy))
    omega⟩
  have := asc_len lt
  rwa [(srtI_perm _).length_eq] at this
theorem flat_one {α : Type} (x : α) : ∀ n : Nat, (List.replicate n [x]).flatten = List.replicate n x
  | 0 => rfl
  | n + 1 => by rw [List.replicate_succ, List.flatten_cons, flat_one x n, List.replicate_succ]; rfl
theorem law_t : t_law fun r => r = true := by
  unfold t_law
  refine sp_covers (by decide) (by decide) fun c hv h1 h2' => ?_
  have h2 : c.length ≤ 10 := by omega
  refine sp_Ground hv h1 h2 (sp_l_order hv h2 fun s hs => ?_)
  simp only [retW]
  obtain ⟨B, ho⟩ := bij_of hs.nd hs.len hs.bd
  have hord := hs.ord hv
  generalize hf : atO s = f at *
  generalize hg : posO s = g at *
  have sl : s.length = c.length := hs.len
  have vr := renO_V hv B hord
  have lr := renO_len c f g
  have r1 : 1 ≤ (renO c f g).length := by omega
  have r2 : (renO c f g).length ≤ 10 := by omega
  have B' : BijO (renO c f g).length g f := by rw [lr]; exact B.symm
  refine due_ok hv h2 B ho (sp_l_told hv h1 h2 B ho (fun _ => ?_) (fun e => by rw [hord] at e; cases e))
  refine alike_if rfl ?_ ?_
  · refine okT (by omega) fun p hp => ?_
    obtain ⟨i, hi⟩ := List.getElem?_of_mem hp
    have hb := (List.getElem?_eq_some_iff.mp hi).1
    have : Lot i p := ⟨(vr i p hi).2, (vr i p hi).1⟩
    have := asc_len this
    omega
  refine sp_renamed hv h1 h2 B ho (fun _ => ?_) (fun e => by rw [hord] at e; cases e)
  refine sp_l_worths (by omega) fun w hw => ?_
  have hm := movO_wor B hw
  refine mapW_ok (fun b => wAt w b) (by omega) (fun b hb Q q => ?_) ?_
  · have hb := hs.bd b hb
    exact ixW_ok hb.1 (wAt_get hb.1 (by rw [hw.len]; exact hb.2)) q
  have em : s.map (fun b => wAt w b) = movO c.length w f := by
    rw [ho, List.map_map]
    rfl
  rw [em]
  have hm' : Wor (renO c f g).length (movO c.length w f) := by rw [lr]; exact hm
  have lot : ∀ {p : Lt}, Lot (renO c f g).length p → Lot c.length p := fun h => by rwa [lr] at h
  have mv : ∀ (p : Lt), Lot (renO c f g).length p → ∀ Q : List Int → Prop, Q (pmO f p) → mapW p (fun b Q => ixW s b fun r => Q r) fun l => sortW eI ltI l fun r => Q r := fun p hp Q q => by
    have hp := lot hp
    have := asc_len hp
    refine mapW_ok f (by omega) (fun b hb Q q => ?_) ⟨srtOk_ints _, q⟩
    have hb := hp.2 b hb
    refine ixW_ok hb.1 ?_ q
    rw [ho, ord_get (by omega), show ((b.toNat : Nat) : Int) = b by omega]
  have pl := pitsL_len r2
  refine sp_all_pits vr r2 (mapW_ok (pmO f) (by omega) (fun p hp Q q => mv p (mem_pitsL.mp hp).lot Q q) ?_)
  refine orW_ok false false (fun Q q => ?_) (fun _ Q q => ?_) ?_
  · refine sortWU_ok (.inr (by rw [List.head?_map, pits_head, Option.map_some, show pmO f [] = [] from List.length_eq_zero_iff.mp (srtI_perm _).length_eq])) (sp_all_pits hv h2 (sortWU_ok (.inr (pits_head)) ?_))
    show Q (!decide (sortB (ltLex ltI) ((pitsL (renO c f g)).map (pmO f)) = sortB (ltLex ltI) (pitsL c)))
    rw [pits_same hv B, decide_eq_true rfl]
    exact q
  · refine sp_best_worth vr r2 hm' (sp_best_worth hv h2 hw ?_)
    rw [most_same hv B, decide_eq_true rfl]
    exact q
  rw [Bool.or_false, if_neg (by decide)]
  obtain ⟨a, ha⟩ : ∃ a, (bestL (renO c f g) (movO c.length w f))[0]? = some a := ⟨_, List.getElem?_eq_getElem (List.length_pos_iff.mpr (bestL_ne _ _))⟩
  obtain ⟨b, hb⟩ : ∃ b, (bestL c w)[0]? = some b := ⟨_, List.getElem?_eq_getElem (List.length_pos_iff.mpr (bestL_ne _ _))⟩
  have ma := (mem_bestL.mp (List.mem_of_getElem? ha)).1
  refine sp_least_best vr r2 hm' ha (mv a ma.lot _ (sp_least_best hv h2 hw hb ?_))
  rw [least_same hv B ha hb, decide_eq_true rfl, if_neg (by decide)]
  refine rangeW_nat (by omega) (mapW_ok g (by rw [rangeL_len]; omega) (fun x hx Q q => ?_) ?_)
  · have hx := mem_rangeK.mp hx
    exact tix_of B ho hx.1 (by omega) q
  refine sp_renamed vr r1 r2 B' (by rw [lr]) (fun _ => ?_) (fun e => by rw [ord_back hv B] at e; cases e)
  show t_Ground___eq__ (renO (renO c f g) g f) c _
  unfold t_Ground___eq__
  rw [ren_back hv B, decide_eq_true rfl]
  dsimp only
  rw [if_neg (by decide)]
  refine rgW_ok (by omega) (by omega) ?_
  rw [Int.toNat_natCast]
  refine rangeW_nat (by omega) (forW_inv (fun k (s : List Int × List Int) => MixK c.length k s.1 s.2) 0 ⟨rfl, List.Perm.refl _⟩ (fun i x t hx ht Q q => ?_) (fun t ht => ?_))
  · obtain ⟨hi, rfl⟩ := rangeL_get' hx
    rw [Nat.zero_add] at ht q
    have sz := ht.sz
    refine takenW_ok (by omega) (by omega) fun r r0 r1 => popW_ok r0 (by omega) (List.getElem?_eq_getElem (show r.toNat < t.1.length by omega)) ?_
    have tl := ht.len
    exact catW_ok (by simp; omega) (q _ (ht.step (List.getElem?_eq_getElem (show r.toNat < t.1.length by omega))))
  rw [rangeL_len, Nat.zero_add] at ht
  obtain ⟨lf, m⟩ := t
  have tz := ht.sz
  have e0 : lf = [] := List.length_eq_zero_iff.mp (by simp only at tz; omega)
  subst e0
  have tp := ht.pm
  simp only [List.append_nil] at tp
  have tl : m.length = c.length := ht.len
  have tb : ∀ x ∈ m, 0 ≤ x ∧ x < c.length := fun x hx => by
    have := mem_rangeK.mp (tp.mem_iff.mp hx)
    omega
  have tn : m.Nodup := tp.nodup_iff.mpr (range_nd _)
  obtain ⟨Bm, hom⟩ := bij_of tn tl tb
  have am : ∀ k : Nat, k < c.length → m[k]? = some (atO m k) := fun k hk => by
    have := ord_get (f := atO m) hk
    rwa [← hom] at this
  dsimp only
  refine rangeW_nat (by omega) (compW_f (fun k => !decide (((atC c (atO m k)).filter fun x => !decide (x ∈ m.take k.toNat)) = [])) (by rw [rangeL_len]; omega) (fun k hk Q q => ?_) (fun _ _ Q q => q) ?_)
  · have hk := mem_rangeK.mp hk
    have fb := Bm.ff k hk.1 (by omega)
    have lt := asc_len (cov_n hv fb.1 fb.2)
    have e : m[k.toNat]? = some (atO m k) := by
      have := am k.toNat (by omega)
      rwa [show ((k.toNat : Nat) : Int) = k by omega] at this
    refine ixW_ok hk.1 e (ixW_ok fb.1 (atC_get fb.1 fb.2) (compW_f (fun x => !decide (x ∈ m.take k.toNat)) (by omega) (fun x _ Q q => ⟨fun z => ?_, ?_⟩) (fun _ _ Q q => q) q))
    · have := z.2
      rw [show k = ((k.toNat : Nat) : Int) by omega] at this
      exact sIx_toK (by omega) this
    · rw [cut_to hk.1]; exact q
  have wr : (((rangeL 0 c.length).filter fun k => !decide (((atC c (atO m k)).filter fun x => !decide (x ∈ m.take k.toNat)) = [])) = []) ↔ ordB c (atO m) (posO m) = true := by
    rw [ordB_iff, List.filter_eq_nil_iff]
    have mt : ∀ (k x : Int), 0 ≤ k → k < c.length → 0 ≤ x → x < c.length → (x ∈ m.take k.toNat ↔ posO m x < k) := fun k x k0 k1 x0 x1 => by
      have gx := Bm.gg x x0 x1
      have e := am (posO m x).toNat (by omega)
      rw [show (((posO m x).toNat : Nat) : Int) = posO m x by omega, Bm.fg x x0 x1] at e
      constructor
      · intro h
        obtain ⟨j, hj⟩ := List.getElem?_of_mem h
        have hl := (List.getElem?_eq_some_iff.mp hj).1
        rw [List.length_take] at hl
        rw [List.getElem?_take_of_lt (by omega)] at hj
        unfold posO
        rw [idxI_at tn hj]
        show ((j : Nat) : Int) < k
        omega
      · intro h
        refine List.mem_of_getElem? (i := (posO m x).toNat) ?_
        rw [List.getElem?_take_of_lt (by omega)]
        exact e
    constructor
    · intro h i i0 i1 x hx
      have fb := Bm.ff i i0 i1
      have xb := (cov_n hv fb.1 fb.2).2 x hx
      have := h i (mem_rangeK.mpr ⟨i0, by omega⟩)
      rw [Bool.not_eq_true', Bool.not_eq_false, decide_eq_true_iff, List.filter_eq_nil_iff] at this
      have := this x hx
      exact (mt i x i0 i1 xb.1 xb.2).mp (by simpa using this)
    · intro h i hi
      have hi := mem_rangeK.mp hi
      have fb := Bm.ff i hi.1 (by omega)
      rw [Bool.not_eq_true', Bool.not_eq_false, decide_eq_true_iff, List.filter_eq_nil_iff]
      intro x hx
      have xb := (cov_n hv fb.1 fb.2).2 x hx
      have := (mt i x hi.1 (by omega) xb.1 xb.2).mpr (h i hi.1 (by omega) x hx)
      simpa using this
  generalize ((rangeL 0 c.length).filter fun k => !decide (((atC c (atO m k)).filter fun x => !decide (x ∈ m.take k.toNat)) = [])) = W at wr
  have odd : slXW s (some 1) none fun r284 => (([0] : List Int) ≠ [] ∧ catW s [0] fun r285 => ifW (decide (1 < (c.length : Int))) (fun Q => repTW [0] (c.length : Int) fun r287 => Q r287) (fun Q => Q [1]) fun r286 => slXW s none (some (-1)) fun r288 => catW r288 [(c.length : Int)] fun r289 => retW ([(eU ()), ((eL eI) s), ((eT eI) r284), ((eT eI) r285), ((eT eI) r286), ((eT eI) r289), (eS ("0" : Str)), (eI 0)] : (List D)) fun odd218 => slXW s none (some (-1)) fun r278 => catW ((List.map eI) r278) ((List.map eU) [()]) fun r279 => repTW [true] (c.length : Int) fun r280 => slXW s none (some (-1)) fun r281 => catW ((List.map eI) r281) ((List.map (eL eI)) [([] : (List Int))]) fun r282 => catW odd218 [((eT eA) r279), ((eT eB) r280), ((eT eA) r282)] fun odd219 => compW odd219 (fun (value220 : D) Q => t_l_told_2 c value220 fun r276 => Q (!decide (r276 = (Sum.inr ("order" : Str) : ((List (List Int)) ⊕ Str))))) (fun (value220 : D) Q => Q value220) fun l275 => eqAW ((eL eA) l275) ((eL eA) ([] : (List D))) fun r277 => (r277 = true)) := by
    have from1 : (cutL s (some 1) none).length < c.length := by rw [cut_from1, List.length_drop]; omega
    have to1 := (cut_sub (l := s) (a := none) (b := some (-1))).length_le
    have t1b : ∀ x ∈ cutL s none (some (-1)), 0 ≤ x ∧ x < c.length := fun x hx => hs.bd x ((cut_sub (l := s)).subset hx)
    have sl1 : ∀ Q : List Int → Prop, Q (cutL s none (some (-1))) → slXW s none (some (-1)) Q := fun Q q => ⟨fun z => sIx_to1 (n := s.length) (by omega) z.2, q⟩
    have rep : ∀ {α : Type} (x : α) (Q : List α → Prop), Q (List.replicate c.length x) → repTW [x] (c.length : Int) Q := fun {α} x Q q => ⟨⟨by simp, by omega, by omega, by simp⟩, by rw [Int.toNat_natCast, flat_one]; exact q⟩
    refine ⟨fun z => sIx_from1 (n := s.length) (by omega) z.1, by simp, catW_ok (by simp; omega) ?_⟩
    refine ifW_inv (fun l => NoO c.length (eT eI l)) (fun z Q q => rep 0 _ (q _ ?_)) (fun z Q q => q _ ?_) fun z5 h5 => ?_
    · have z : 1 < c.length := by have := of_decide_eq_true z; omega
      refine .two (by rw [List.length_replicate]; omega) ?_
      have := dd_zeros c.length
      rw [List.length_replicate]; omega
    · have z : ¬ (1 : Int) < c.length := of_decide_eq_false z
      refine .blk (d := eI 1) (by simp) (fun d hd => by
        simp only [List.map_cons, List.map_nil, List.mem_singleton] at hd
        subst hd; rfl) (by simp) ?_
      show (decide ((0 : Int) ≤ 1) && decide ((1 : Int) ≤ (c.length : Int) - 1)) = false
      rw [decide_eq_false (show ¬ (1 : Int) ≤ (c.length : Int) - 1 by omega), Bool.and_false]
    refine sl1 _ (catW_ok (by simp; omega) ?_)
    simp only [retW]
    refine sl1 _ (catW_ok (by simp; omega) (rep true _ (sl1 _ (catW_ok (by simp; omega) (catW_ok (by simp) ?_)))))
    have e1 : ∀ l : List D, eT eA l = PyData.tuple l := fun l => by show PyData.tuple (l.map fun d => d) = _; rw [List.map_id']
    have blk : ∀ d : D, okB d = true → frB d 0 ((c.length : Int) - 1) = false → NoO c.length (PyData.tuple ((cutL s none (some (-1))).map eI ++ [d])) := fun d h h2 => .blk (d := d) (by rw [List.length_append, List.length_map]; simp; omega) (fun y hy => by
      rcases List.mem_append.mp hy with hy | hy
      · obtain ⟨i, _, rfl⟩ := List.mem_map.mp hy; rfl
      · rw [List.mem_singleton] at hy
        subst hy; exact h) (List.mem_append_right _ (List.mem_singleton.mpr rfl)) h2
    refine compW_f (fun _ => false) (by simp) (fun v hm Q q => ?_) (fun _ _ Q q => q) ?_
    · have no : NoO c.length v := by
        simp only [List.cons_append, List.nil_append, List.mem_cons, List.not_mem_nil, or_false] at hm
        rcases hm with rfl | rfl | rfl | rfl | rfl | rfl | rfl | rfl | rfl | rfl | rfl
        · exact .tup rfl rfl
        · exact .tup rfl rfl
        · exact .len (by rw [List.length_map]; omega)
        · exact .len (by rw [List.length_map, List.length_append]; simp; omega)
        · exact h5
        · have := blk (eI (c.length : Int)) rfl (by
            show (decide ((0 : Int) ≤ (c.length : Int)) && decide ((c.length : Int) ≤ (c.length : Int) - 1)) = false
            rw [decide_eq_false (show ¬ (c.length : Int) ≤ (c.length : Int) - 1 by omega), Bool.and_false])
          show NoO c.length (PyData.tuple ((cutL s none (some (-1)) ++ [(c.length : Int)]).map eI))
          rw [List.map_append]
          exact this
        · exact .tup rfl rfl
        · exact .tup rfl rfl
        · rw [e1]; exact blk (eU ()) rfl rfl
        · refine .blk (d := eB true) (by rw [List.length_map, List.length_replicate]; omega) (fun d hd => by
            obtain ⟨i, _, rfl⟩ := List.mem_map.mp hd; rfl) ?_ rfl
          exact List.mem_map.mpr ⟨true, List.mem_replicate.mpr ⟨by omega, rfl⟩, rfl⟩
        · rw [e1]; exact blk (eL eI []) rfl rfl
      refine sp_l_told_2 h2 no ?_
      rw [decide_eq_true rfl]
      exact q
    · rw [List.filter_eq_nil_iff.mpr (fun _ _ => by simp)]
      exact ⟨rfl, rfl⟩
  refine sp_l_told hv h1 h2 Bm hom (fun e => ?_) (fun e => ?_)
  · rw [wr.mpr e, if_neg (by simp)]
    exact odd
  · have : ¬ W = [] := fun z => by rw [wr.mp z] at e; cases e
    rw [if_neg (by simp [this])]
    exact odd
theorem law_true (ns : List Int) (h : ns.length ≤ 63) : ∃ o, c_law [.val (flsD (ns.map .int))] = some (.val (.bool true), o) := by
  obtain ⟨a, o, rfl, e⟩ := tw_law ns _ law_t
  exact ⟨o, e⟩
end Lw

namespace Lw
open PySem PySem.Spec PyProof.Rows L2 Pv
abbrev RO : PySem.W.OpenRow := PySem.W.OpenLaw.row PySem.Challenge.rw_pitlots_k03_whole_renamed
abbrev hk : PySem.W.Hook := He.hookX 6 fa fn [] [] (exK cs)
def ob (s : PySem.W.SharedT) : He.AlX := He.obsX 6 fa fn [] [] (exK cs) (HandSHeadRun.getT s)
theorem ob_eq (s : PySem.W.SharedT) : ob s = hk.obs s.abs := He.obsX_eq (HandSHeadRun.getT_eq s)
def loose : List PySem.Str := [("PitError" : PySem.Str), ("BadGround" : PySem.Str), ("BadOrder" : PySem.Str), ("BadWorths" : PySem.Str), ("BadCovers" : PySem.Str), ("MOST_BLOCKS" : PySem.Str), ("is_from" : PySem.Str), ("rises" : PySem.Str), ("is_cover" : PySem.Str), ("Ground" : PySem.Str), ("need_ground" : PySem.Str), ("is_block" : PySem.Str), ("is_order" : PySem.Str), ("need_order" : PySem.Str), ("renamed" : PySem.Str), ("sized" : PySem.Str), ("pits_of" : PySem.Str), ("all_pits" : PySem.Str), ("MOST_WORTH" : PySem.Str), ("need_worths" : PySem.Str), ("sum_of" : PySem.Str), ("greatest_of" : PySem.Str), ("best_pits" : PySem.Str), ("best_worth" : PySem.Str), ("least_best" : PySem.Str), ("_law_taken" : PySem.Str), ("_law_pick" : PySem.Str), ("_law_alike" : PySem.Str), ("_law_covers" : PySem.Str), ("_law_worths" : PySem.Str), ("_law_order" : PySem.Str), ("_law_told" : PySem.Str)]
theorem run (w : World) : HandSHeadRun.RunEq RO (PySem.W.view RO.prog [37]) hk ob 7000 loose w := by
  intro os
  kernel_rfl
theorem facts {P : Program} {w : World} {K : PySem.W.Frag} {h : Heap} {mg : Str → Option Value} {f : Addr} (X : K.In h) (G : h.Ns mainGlobals mg) (hfa : mg ("law" : Str) = some (.ref f)) (c : He.SaysX fa fn [] [] (exK cs) w h K) :
    ∃ fd : FuncData, (∀ (s : Shared) (v : Value), BindsTo s fd ⟨[v], []⟩ [("_law_script", v)]) ∧ ∀ base : Heap, K.In base → base.Ns mainGlobals mg → FnOk P w K mg base CX0 10 f fd ["_law_script"] (spF ⟨K, ctOf cs K⟩ false 1 c_law) := by
  have hF : Fx fa fn cs K mg := Fx.of X G c
  have e := hfa.symm.trans (hF.glo 48 (x := "law"))
  cases e
  obtain ⟨fd, F⟩ := hF.def_ 27
  have b := FunD.bindsA (ps := ["_law_script"]) F fun _ _ _ _ _ _ us hl => match us, hl with | [_], _ => rfl
  refine ⟨fd, fun s v => b s [v] rfl, fun base _ _ => ?_⟩
  exact body_law hF F
end Lw
open PySem PySem.W PySem.Calls PyProof.Rows
theorem PySem.Challenge.cw_pitlots_k03_whole_renamed_holds : PySem.Challenge.rw_pitlots_k03_whole_renamed.Holds := by
  w_on; o_law
  refine HandSHeadRun.head_any (r := Lw.RO) (q := view Lw.RO.prog [37]) (H := Lw.hk) (ob := Lw.ob) (M := 7000) (loose := Lw.loose) (d := HandSHeadRun.topDef Lw.RO.prog 37) (kwd := []) Lw.ob_eq
    (by kernel_rfl) (fun s => by kernel_rfl) Lw.run (by kernel_rfl) (by kernel_rfl) (by kernel_rfl) (by rfl) (by first | assumption | decide +kernel) (by decide +kernel) ⟨rfl, rfl, rfl, rfl, rfl, by decide +kernel⟩ ?hw ?hc
  case hw => w_witness2
  case hc =>
    refine L2.walk_ofE (l := PySem.Challenge.rw_pitlots_k03_whole_renamed) (n := 63) (k := 10) (x := "_law_script") (CX := L2.CX0) rfl (by decide) (by kernel_rfl) ⟨rfl, by decide, by decide⟩ ?F (fun _ _ _ _ z => z)
    intro w mg fa h Y G hmg0
    obtain ⟨K, KX, c⟩ := Y
    have hmg : mg ("law" : PySem.Str) = some (.ref fa) := by
      have e : (HandSHeadRun.topDef Lw.RO.prog 37).name = ("law" : PySem.Str) := by kernel_rfl
      rw [← e]
      exact hmg0
    obtain ⟨fd, hb, hF⟩ := Lw.facts (P := (PySem.Challenge.rw_pitlots_k03_whole_renamed).prog) (w := w) KX G hmg c
    exact ⟨K, fd, _, KX, hb, fun H a ns hl hO hS => Pv.law_end hO hS (Lw.law_true ns hl), hF⟩


