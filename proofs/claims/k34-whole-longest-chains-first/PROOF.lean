import PyProof.Rows.All
import HandS.Dict
import HandS.More
import KE.KDictKeyed
import HandS.ForMost
import HandS.HeadHook1
import HandS.ForExc
import HandS.Star
import HandS.TupAny
import HandS.Walk
import HandS.IsInst
import HandS.Flow
import HandS.Defaults
import HandS.Wide
import HandS.Nested
import KE.DataEq
import KE.DataCmp
import KE.DataMinMax
import KE.DataIsa
import KE.DataAny
import KE.SortData
import HandS.Strs
import PyProof.Rows.SetFrom
import HandS.SetFor
import KE.OsSetLaws
import PyProof.Draws
import KE.GoesEnum
import KE.GoesMore
import HandS.Style
import HandS.Conv
import HandS.HeadHook4
import HandS.HeadEnd
import HandS.Head2
import HandS.Property
import HandS.ExcIs
import KE.SortKeyHeap
import HandS.SortKw
import HandS.ExcValue
import HandS.TupMul
import HandS.Zip
import HandS.Iter
import HandS.TupLen
import KE.KDictDisplayH
import HandS.Deep
import HandS.TryOnly
import HandS.TryMany
import HandS.ExcOwn
import HandS.ExcBuiltin
import HandS.CallSlots
import PyProof.Rows.SumAny
import KE.DataFind
import HandS.ExcInit
import HandS.ExcField
import KE.KExcSuper
import KE.KSuper
import HandS.DictComp
import HandS.TupSets
import HandS.RaiseMore
import HandS.OwnEq
import HandS.DictTup
import KE.KDictSum
import KE.KDictCopyH
import KE.KDictLetter
import KE.KDictWalk
import HandS.Text
import PyProof.StrBlock2
import KE.KIndexOf
import PyProof.ReprRoads
import PyProof.MaxThree
import PyProof.ListNew
import HandS.HeadWalk
import HandS.Head0
import HandS.Head1
import HandS.HeadHook3
import PySem.Challenge.RW_pitlots_k34_whole_longest_chains_first
set_option Elab.async false
set_option linter.all false
set_option maxRecDepth 100000
set_option maxHeartbeats 0
/-! Pu1: dicts whose keys are numbers in tuples, nested; told as .ext, the keys' tuples are tracked beside it. -/
namespace L2
open PySem PySem.Spec PyProof.Rows
mutual
/-- the value v tells the key -/
inductive NKey (H : Hp) : NestedKey → V → Prop
  | num (i : Int) : NKey H (.num i) (.int i)
  | tup {b : Addr} {vs : List V} {ks : List NestedKey} : H b = some (.tup vs) → NKeys H ks vs → NKey H (.tup ks) (.ref b)
inductive NKeys (H : Hp) : List NestedKey → List V → Prop
  | nil : NKeys H [] []
  | cons {k : NestedKey} {v : V} {ks : List NestedKey} {vs : List V} : NKey H k v → NKeys H ks vs → NKeys H (k :: ks) (v :: vs)
end
mutual
theorem NKey.hash {H : Hp} (w w' : World) : ∀ {k : NestedKey} {v : V}, NKey H k v → k.hash w = k.hash w'
  | _, _, .num i => rfl
  | _, _, .tup _ r => by simp only [NestedKey.hash]; rw [NKeys.hash w w' r]
theorem NKeys.hash {H : Hp} (w w' : World) : ∀ {ks : List NestedKey} {vs : List V}, NKeys H ks vs → NestedKey.hashes w ks = NestedKey.hashes w' ks
  | _, _, .nil => rfl
  | _, _, .cons a b => by simp only [NestedKey.hashes]; rw [NKey.hash w w' a, NKeys.hash w w' b]
end
section
variable {P : Program} {w : World} {H H' : Hp} {h : Heap} {a : Addr}
mutual
theorem NKey.is (ok : HOk P w H h) : ∀ {k : NestedKey} {v : V} {u : Value}, NKey H k v → RelV v u → NestedIs h k u
  | _, _, _, .num i, r => by
    obtain ⟨t, rfl⟩ := (show ∃ t, _ = Value.int i t from r)
    exact .int i t
  | _, _, _, .tup (b := b) (vs := vs) e q, r => by
    cases (show _ = Value.ref b from r)
    obtain ⟨_, its, rv, o, h1, h2, n, h3⟩ := (show ObjOk P w H h b (.tup vs) from ok b _ e)
    exact .tup h1 h2 h3 (by simpa using NKeys.is ok q rv)
theorem NKeys.is (ok : HOk P w H h) : ∀ {ks : List NestedKey} {vs : List V} {us : List Value}, NKeys H ks vs → Vals vs us → NestedAll h ks us
  | _, _, _, .nil, r => by cases r; exact .nil
  | _, _, _, .cons a b, r => by
    cases r with
    | cons r1 r2 => exact .cons (NKey.is ok a r1) (NKeys.is ok b r2)
end
mutual
theorem NKey.mono (s : ∀ b xs, H b = some (.tup xs) → H' b = some (.tup xs)) : ∀ {k : NestedKey} {v : V}, NKey H k v → NKey H' k v
  | _, _, .num i => .num i
  | _, _, .tup e q => .tup (s _ _ e) (NKeys.mono s q)
theorem NKeys.mono (s : ∀ b xs, H b = some (.tup xs) → H' b = some (.tup xs)) : ∀ {ks : List NestedKey} {vs : List V}, NKeys H ks vs → NKeys H' ks vs
  | _, _, .nil => .nil
  | _, _, .cons a b => .cons (NKey.mono s a) (NKeys.mono s b)
end
abbrev Ents := List (NestedKey × Addr × V)
def DNO (a : Addr) (es : Ents) : Heap → Prop := fun h => (a == sysModules) = false ∧ es.length ≤ sizeLine ∧ (es.map (·.1)).Nodup ∧
  ∃ o as ep, h.get? a = some o ∧ o.ExactDict ∧ o.data = .dict as ep ∧ Paired (fun (p : NestedKey × Addr × V) (e : DictEntry) => (∀ w, e.hash = p.1.hash w) ∧ e.key = .ref p.2.1 ∧ RelV p.2.2 e.val) es as.toList
abbrev DN (a : Addr) (es : Ents) : HO := .ext (DNO a es)
def NOk (H : Hp) (es : Ents) : Prop := ∀ p ∈ es, NKey H p.1 (.ref p.2.1) ∧ p.1.depth ≤ 8
abbrev KN : Ents → List (NestedKey × Addr × Value) → Prop := Paired fun p q => p.1 = q.1 ∧ p.2.1 = q.2.1 ∧ RelV p.2.2 q.2.2
theorem KN.keys : ∀ {es : Ents} {xs : List (NestedKey × Addr × Value)}, KN es xs → es.map (·.1) = xs.map (·.1)
  | _, _, .nil => rfl
  | _, _, .cons h t => by rw [List.map_cons, List.map_cons, KN.keys t, h.1]
def valN (es : Ents) (k : NestedKey) : Option V := (es.find? fun x => decide (x.1 = k)).map (·.2.2)
def putN (es : Ents) (k : NestedKey) (b : Addr) (v : V) : Ents := if (valN es k).isSome = true then es.map (fun x => if x.1 = k then (x.1, x.2.1, v) else x) else es ++ [(k, b, v)]
theorem KN.val (k : NestedKey) : ∀ {es : Ents} {xs : List (NestedKey × Addr × Value)}, KN es xs → RelO (valN es k) ((atKey xs k).map (·.2))
  | _, _, .nil => trivial
  | _, _, .cons (a := p) (b := q) h t => by
    have ih := KN.val k t
    unfold valN atKey at ih ⊢
    rw [List.find?_cons, List.find?_cons, h.1]
    by_cases e : q.1 = k
    · simp only [e, decide_true]
      exact h.2.2
    · simp only [e, decide_false]
      exact ih
theorem KN.at (k : NestedKey) {v : V} {u : Value} (r : RelV v u) : ∀ {es : Ents} {xs : List (NestedKey × Addr × Value)}, KN es xs → KN (es.map fun x => if x.1 = k then (x.1, x.2.1, v) else x) (xs.map (putAt k u))
  | _, _, .nil => .nil
  | _, _, .cons (a := p) (b := q) hh t => by
    rw [List.map_cons, List.map_cons]
    refine .cons ?_ (KN.at k r t)
    unfold putAt
    by_cases e : q.1 = k
    · rw [if_pos e, if_pos (hh.1.trans e)]
      exact ⟨hh.1, hh.2.1, r⟩
    · rw [if_neg e, if_neg (fun z => e (hh.1.symm.trans z))]
      exact hh
theorem KN.put (k : NestedKey) {b : Addr} {v : V} {u : Value} (r : RelV v u) {es : Ents} {xs : List (NestedKey × Addr × Value)} (h : KN es xs) : KN (putN es k b v) (storedH xs k b u) := by
  have q := (h.val k).isSome_eq
  rw [Option.isSome_map] at q
  unfold putN storedH
  rw [q]
  split
  · exact KN.at k r h
  · exact Paired.snoc h ⟨rfl, rfl, r⟩
end
section
variable {X : Cx} {pins : List (Addr × Obj)} {σ : St} {H : Hp} {s : Shared} {a : Addr} {y v : V} {u r : Value} {o : Option V} {A : Around} {E : Value → Shared → Prop}
end
section
variable {X : Cx} {o i e value : Expr} {pos pos' tpos : Pos} {td ty tv : TE}
end
end L2

/-! Pv1: pure values, what represents them in the abstract heap, frames. -/
namespace Pv
open PySem PySem.Spec L2

abbrev D := PyData
abbrev objD (c : Int) (fs : List D) : D := .dict [(.none, .int c), (.none, .tuple fs)]
abbrev dctD (t : Bool) (ks : List (List Int)) (ds : List D) : D := .dict [(.bool false, .tuple [.bool t, .list (ks.map fun k => .tuple (k.map .int)), .list ds])]
def tKey (k : List Int) : List Key := k.map Sum.inl
def iKey (k : List Int) : Key := .inl (k.headD 0)
def hoD (t : Bool) (ks : List (List Int)) (vs : List V) : HO := if t = true then .dT ((ks.map tKey).zip vs) else .dK ((ks.map iKey).zip vs)
abbrev flsD (xs : List D) : D := .dict [(.bool true, .list xs)]

abbrev fnD (x : Str) : D := .dict [(.bool true, .str x)]
abbrev tpD (xs : List D) : D := .dict [(.bool true, .tuple xs)]
mutual
/-- the key that data tell: numbers in tuples, nested -/
def nkD : D → Option NestedKey
  | .int i => some (.num i)
  | .tuple xs => (nkDs xs).map .tup
  | _ => none
def nkDs : List D → Option (List NestedKey)
  | [] => some []
  | d :: ds => (nkD d).bind fun k => (nkDs ds).map (k :: ·)
end
def nkE (d : D) : Option NestedKey := (nkD d).bind fun k => if k.depth ≤ 8 then some k else none
def nkL : List D → Option (List NestedKey)
  | [] => some []
  | d :: ds => (nkE d).bind fun k => (nkL ds).map (k :: ·)
abbrev nfnD : D := .dict [(.bool true, .none)]
abbrev dcnD (ks ds : List D) : D := .dict [(.bool false, .list [.list ks, .list ds])]
structure CTab where
  f : Int → Option (Addr × List Str)
  /-- tables of the code objects of which a nested def is made -/
  T : List NdefX.NTab
  /-- the nested def that may be called -/
  nf : Option (Addr → NdefX.NF)
instance : CoeFun CTab (fun _ => Int → Option (Addr × List Str)) := ⟨CTab.f⟩
structure Kx where
  K : PySem.W.Frag
  CT : CTab

def FzL (K : PySem.W.Frag) (F : Hp) (a : Addr) (vs : List V) : Prop := (∃ ob, F a = some (.frz ob (.lst vs))) ∨ SqL K (fun _ => none) a vs
def TpX (F : Hp) (a : Addr) (vs : List V) : Prop := ∃ ob, F a = some (.frz ob (.tup vs)) ∧ ob.cls = .type "tuple" ∧ ob.dict = none
mutual
inductive Rep (k : Kx) (F : Hp) : V → D → Prop
  | non : Rep k F .non .none
  | bl (b : Bool) : Rep k F (.bl b) (.bool b)
  | int (i : Int) : Rep k F (.int i) (.int i)
  | str (x : Str) : Rep k F (.str x) (.str x)
  | lst {a : Addr} {vs : List V} {xs : List D} : F a = some (.lst vs) → RepL k F vs xs → Rep k F (.ref a) (.list xs)
  | tup {a : Addr} {vs : List V} {xs : List D} : F a = some (.tup vs) → RepL k F vs xs → Rep k F (.ref a) (.tuple xs)
  | fls {a : Addr} {vs : List V} {xs : List D} : FzL k.K F a vs → RepL k F vs xs → Rep k F (.ref a) (flsD xs)
  | obj {a dx C : Addr} {c : Int} {ns : List Str} {vs : List V} {fs : List D} : k.CT c = some (C, ns) → F a = some (.ins C dx (ns.zip vs)) → F dx = some (.own a) → vs.length ≤ ns.length → RepL k F vs fs → Rep k F (.ref a) (objD c fs)
  | dnil {a : Addr} : Rd F a (.dK []) → Rep k F (.ref a) (.dict [])
  | dct {a : Addr} {t : Bool} {ks : List (List Int)} {vs : List V} {ds : List D} : Rd F a (hoD t ks vs) → ks.length = vs.length → RepL k F vs ds → Rep k F (.ref a) (dctD t ks ds)
  | fn (x : Str) : Rep k F (.ref (He.ga k.K x)) (fnD x)
  | dcn {a : Addr} {es : Ents} {ks ds : List D} : F a = some (DN a es) → nkL ks = some (es.map (·.1)) → RepL k F (es.map fun e => .ref e.2.1) ks → RepL k F (es.map (·.2.2)) ds → Rep k F (.ref a) (dcnD ks ds)
  | nfn {a c' : Addr} {mk : Addr → NdefX.NF} : k.CT.nf = some mk → F a = some (NdefX.FnO a (mk c')) → F (mk c').c = some (LamX.CodeO (mk c').c (mk c').qual) → Rep k F (.ref a) nfnD
  | xt {a : Addr} {vs : List V} {xs : List D} : TpX F a vs → RepL k F vs xs → Rep k F (.ref a) (tpD xs)
inductive RepL (k : Kx) (F : Hp) : List V → List D → Prop
  | nil : RepL k F [] []
  | cons {v : V} {vs : List V} {d : D} {ds : List D} : Rep k F v d → RepL k F vs ds → RepL k F (v :: vs) (d :: ds)
end

def IsDc : HO → Prop
  | .dK _ => True
  | .dT _ => True
  | _ => False
def nlk : HO → HO
  | .tbl _ => .tbl #[]
  | .frz od (.dK m) => .dK m
  | .frz od (.dT m) => .dT m
  | o => o
def Fx1 : HO → Prop
  | .tbl _ => False
  | .dK _ => False
  | .dT _ => False
  | .frz _ (.dK _) => False
  | .frz _ (.dT _) => False
  | _ => True
def Sub (F F' : Hp) : Prop := ∀ a o, F a = some o → ∃ o', F' a = some o' ∧ nlk o' = nlk o
theorem Sub.refl (F : Hp) : Sub F F := fun _ o h => ⟨o, h, rfl⟩
theorem nlk_fx {o o' : HO} (h : nlk o' = nlk o) (hn : Fx1 o) : o' = o := by
  have e : nlk o = o := by
    cases o <;> first | rfl | exact hn.elim | skip
    rename_i od u
    cases u <;> first | rfl | exact hn.elim
  rw [e] at h
  subst h
  cases o' <;> first | rfl | exact hn.elim | skip
  rename_i od u
  cases u <;> first | rfl | exact hn.elim
theorem nlk_dc {o o' : HO} (h : nlk o' = nlk o) (hd : IsDc o) : o' = o ∨ ∃ od, o' = .frz od o := by
  have e : nlk o = o := by cases o <;> first | rfl | exact hd.elim
  rw [e] at h
  subst h
  cases o' <;> first | exact .inl rfl | exact hd.elim | skip
  rename_i od u
  cases u <;> first | exact .inr ⟨od, rfl⟩ | exact hd.elim
theorem Sub.ex {F F' : Hp} (s : Sub F F') {a : Addr} {o : HO} (h : F a = some o) (hn : Fx1 o := by exact True.intro) : F' a = some o := by
  obtain ⟨o', e, z⟩ := s a o h
  rw [e, nlk_fx z hn]
theorem Sub.some {F F' : Hp} (s : Sub F F') {a : Addr} {o : HO} (h : F a = some o) : ∃ u, F' a = some u := let ⟨u, e, _⟩ := s a o h; ⟨u, e⟩
theorem Sub.trans {F G H : Hp} (a : Sub F G) (b : Sub G H) : Sub F H := fun x o h => by
  obtain ⟨o1, e1, z1⟩ := a x o h
  obtain ⟨o2, e2, z2⟩ := b x o1 e1
  exact ⟨o2, e2, z2.trans z1⟩
def RdK : HO → Prop
  | .lst _ => True
  | .tup _ => True
  | .dK _ => True
  | .dT _ => True
  | _ => False
theorem Sub.rd {F F' : Hp} {a : Addr} {u : HO} (s : Sub F F') (h : Rd F a u) (hk : RdK u := by exact True.intro) : Rd F' a u := by
  rcases h with h | ⟨o, h⟩
  · obtain ⟨o', e, z⟩ := s a u h
    cases u with
    | lst xs => rw [nlk_fx z True.intro] at e; exact .inl e
    | tup xs => rw [nlk_fx z True.intro] at e; exact .inl e
    | dK m => rcases nlk_dc z True.intro with rfl | ⟨od, rfl⟩; exact .inl e; exact .inr ⟨od, e⟩
    | dT m => rcases nlk_dc z True.intro with rfl | ⟨od, rfl⟩; exact .inl e; exact .inr ⟨od, e⟩
    | _ => exact hk.elim
  · obtain ⟨o', e, z⟩ := s a _ h
    cases u with
    | lst xs => rw [nlk_fx z True.intro] at e; exact .inr ⟨o, e⟩
    | tup xs => rw [nlk_fx z True.intro] at e; exact .inr ⟨o, e⟩
    | dK m => rcases nlk_dc (o := .dK m) z True.intro with rfl | ⟨od, rfl⟩; exact .inl e; exact .inr ⟨od, e⟩
    | dT m => rcases nlk_dc (o := .dT m) z True.intro with rfl | ⟨od, rfl⟩; exact .inl e; exact .inr ⟨od, e⟩
    | _ => exact hk.elim
theorem Sub.sqL {K : PySem.W.Frag} {F F' : Hp} {a : Addr} {xs : List V} (s : Sub F F') (h : SqL K F a xs) : SqL K F' a xs := by
  rcases h with h | h
  · exact .inl (s.rd h)
  · exact .inr h
theorem Sub.sqT {K : PySem.W.Frag} {F F' : Hp} {a : Addr} {xs : List V} (s : Sub F F') (h : SqT K F a xs) : SqT K F' a xs := by
  rcases h with h | h
  · exact .inl (s.rd h)
  · exact .inr h
theorem Sub.upd {F : Hp} {p : Addr} {o : HO} (h : F p = none) : Sub F (upd F p o) := fun a u e => ⟨u, by
  rw [upd_ne (ne_of_none e h)]; exact e, rfl⟩
theorem rdK_hoD {t : Bool} {ks : List (List Int)} {vs : List V} : RdK (hoD t ks vs) := by unfold hoD; split <;> trivial

theorem FzL.mono {K : PySem.W.Frag} {F F' : Hp} {a : Addr} {vs : List V} (s : Sub F F') (h : FzL K F a vs) : FzL K F' a vs := h.elim (fun ⟨o, e⟩ => .inl ⟨o, s.ex e⟩) .inr
theorem FzL.sq {K : PySem.W.Frag} {F : Hp} {a : Addr} {vs : List V} (h : FzL K F a vs) : SqL K F a vs := by
  rcases h with ⟨o, e⟩ | (h | ⟨o, h⟩) | h
  · exact .inl (.inr ⟨o, e⟩)
  · cases h
  · cases h
  · exact .inr h
theorem FzL.of {K : PySem.W.Frag} {F : Hp} {a : Addr} {vs : List V} (hO : Only F) (h : SqL K F a vs) : FzL K F a vs := by
  rcases h with (h | ⟨o, h⟩) | h
  · rcases hO a with z | ⟨_, _, z⟩ <;> rw [z] at h <;> cases h
  · exact .inl ⟨o, h⟩
  · exact .inr (.inr h)
theorem TpX.mono {F F' : Hp} {a : Addr} {vs : List V} (s : Sub F F') (h : TpX F a vs) : TpX F' a vs :=
  let ⟨ob, e, c, d⟩ := h
  ⟨ob, s.ex e, c, d⟩
theorem TpX.sqT {K : PySem.W.Frag} {F : Hp} {a : Addr} {vs : List V} (h : TpX F a vs) : SqT K F a vs :=
  let ⟨ob, e, _, _⟩ := h
  .inl (.inr ⟨ob, e⟩)
mutual
theorem Rep.mono {k : Kx} {F F' : Hp} (s : Sub F F') : ∀ {v : V} {d : D}, Rep k F v d → Rep k F' v d
  | _, _, .non => .non
  | _, _, .bl b => .bl b
  | _, _, .int i => .int i
  | _, _, .str x => .str x
  | _, _, .lst h r => .lst (s.ex h) (r.mono s)
  | _, _, .tup h r => .tup (s.ex h) (r.mono s)
  | _, _, .fls h r => .fls (h.mono s) (r.mono s)
  | _, _, .obj h1 h2 h3 h4 r => .obj h1 (s.ex h2) (s.ex h3) h4 (r.mono s)
  | _, _, .dnil h => .dnil (s.rd h)
  | _, _, .dct h hl r => .dct (s.rd h rdK_hoD) hl (r.mono s)
  | _, _, .fn x => .fn x
  | _, _, .nfn e h h2 => .nfn e (s.ex h) (s.ex h2)
  | _, _, .dcn h e r1 r2 => .dcn (s.ex h) e (r1.mono s) (r2.mono s)
  | _, _, .xt h r => .xt (h.mono s) (r.mono s)
theorem RepL.mono {k : Kx} {F F' : Hp} (s : Sub F F') : ∀ {vs : List V} {ds : List D}, RepL k F vs ds → RepL k F' vs ds
  | _, _, .nil => .nil
  | _, _, .cons a b => .cons (a.mono s) (b.mono s)
end
theorem RepL.length {k : Kx} {F : Hp} : ∀ {vs : List V} {ds : List D}, RepL k F vs ds → vs.length = ds.length
  | _, _, .nil => rfl
  | _, _, .cons _ b => by simp [b.length]
theorem RepL.append {k : Kx} {F : Hp} {ws : List V} {es : List D} : ∀ {vs : List V} {ds : List D}, RepL k F vs ds → RepL k F ws es → RepL k F (vs ++ ws) (ds ++ es)
  | _, _, .nil, h => h
  | _, _, .cons a b, h => .cons a (b.append h)
theorem RepL.get {k : Kx} {F : Hp} : ∀ {vs : List V} {ds : List D} {i : Nat} {d : D}, RepL k F vs ds → ds[i]? = some d → ∃ v, vs[i]? = some v ∧ Rep k F v d
  | _, _, _, _, .nil, h => by simp at h
  | _, _, 0, _, .cons a b, h => by simp at h; subst h; exact ⟨_, rfl, a⟩
  | _, _, i + 1, d, .cons a b, h => by
    obtain ⟨v, h1, h2⟩ := RepL.get (i := i) (d := d) b (by simpa using h)
    exact ⟨v, by simpa using h1, h2⟩
theorem RepL.getV {k : Kx} {F : Hp} : ∀ {vs : List V} {ds : List D} {i : Nat} {v : V}, RepL k F vs ds → vs[i]? = some v → ∃ d, ds[i]? = some d ∧ Rep k F v d
  | _, _, _, _, .nil, h => by simp at h
  | _, _, 0, _, .cons a b, h => by simp at h; subst h; exact ⟨_, rfl, a⟩
  | _, _, i + 1, v, .cons a b, h => by
    obtain ⟨d, h1, h2⟩ := RepL.getV (i := i) (v := v) b (by simpa using h)
    exact ⟨d, by simpa using h1, h2⟩
theorem RepL.set {k : Kx} {F : Hp} {v : V} {d : D} (r : Rep k F v d) : ∀ {vs : List V} {ds : List D} (i : Nat), RepL k F vs ds → RepL k F (vs.set i v) (ds.set i d)
  | _, _, _, .nil => .nil
  | _, _, 0, .cons _ b => .cons r b
  | _, _, i + 1, .cons a b => .cons a (b.set r i)
theorem RepL.take {k : Kx} {F : Hp} : ∀ {vs : List V} {ds : List D} (n : Nat), RepL k F vs ds → RepL k F (vs.take n) (ds.take n)
  | _, _, 0, _ => .nil
  | _, _, _ + 1, .nil => .nil
  | _, _, n + 1, .cons a b => .cons a (b.take n)
theorem RepL.drop {k : Kx} {F : Hp} : ∀ {vs : List V} {ds : List D} (n : Nat), RepL k F vs ds → RepL k F (vs.drop n) (ds.drop n)
  | _, _, 0, h => h
  | _, _, _ + 1, .nil => .nil
  | _, _, n + 1, .cons _ b => b.drop n
theorem RepL.rev {k : Kx} {F : Hp} : ∀ {vs : List V} {ds : List D}, RepL k F vs ds → RepL k F vs.reverse ds.reverse
  | _, _, .nil => .nil
  | _, _, .cons a b => by simp only [List.reverse_cons]; exact b.rev.append (.cons a .nil)
/-! ### plain data are the layer's -/
mutual
theorem Rep.dp {k : Kx} {F : Hp} : ∀ {v : V} {d : D}, Rep k F v d → d.plain = true → Dp k.K F v d
  | _, _, .non, _ => .non
  | _, _, .bl b, _ => .bl b
  | _, _, .int i, _ => .int i
  | _, _, .str x, _ => .str x
  | _, _, .lst h r, p => .lst (.inl (.inl h)) (r.dp (by simpa [PyData.plain] using p))
  | _, _, .tup h r, p => .tup (SqT.of h) (r.dp (by simpa [PyData.plain] using p))
  | _, _, .fls h r, p => by simp [PyData.plain] at p
  | _, _, .obj h1 h2 h3 h4 r, p => by simp [PyData.plain] at p
  | _, _, .dnil h, p => by simp [PyData.plain] at p
  | _, _, .dct h hl r, p => by simp [PyData.plain] at p
  | _, _, .fn x, p => by simp [PyData.plain] at p
  | _, _, .dcn h e r1 r2, p => by simp [PyData.plain] at p
  | _, _, .xt h r, p => by simp [PyData.plain] at p
theorem RepL.dp {k : Kx} {F : Hp} : ∀ {vs : List V} {ds : List D}, RepL k F vs ds → PyData.plainAll ds = true → DpAll k.K F vs ds
  | _, _, .nil, _ => .nil
  | _, _, .cons a b, p => by
    simp only [PyData.plainAll, Bool.and_eq_true] at p
    exact .cons (a.dp p.1) (b.dp p.2)
end
mutual
theorem dpMono {K : PySem.W.Frag} {F F' : Hp} (s : Sub F F') : ∀ {v : V} {d : D}, Dp K F v d → Dp K F' v d
  | _, _, .non => .non
  | _, _, .bl b => .bl b
  | _, _, .int i => .int i
  | _, _, .str x => .str x
  | _, _, .lst h r => .lst (s.sqL h) (dpAllMono s r)
  | _, _, .tup h r => .tup (s.sqT h) (dpAllMono s r)
theorem dpAllMono {K : PySem.W.Frag} {F F' : Hp} (s : Sub F F') : ∀ {vs : List V} {ds : List D}, DpAll K F vs ds → DpAll K F' vs ds
  | _, _, .nil => .nil
  | _, _, .cons a b => .cons (dpMono s a) (dpAllMono s b)
end

/-! ### mutable objects, slots -/
inductive OB where
  | lst (xs : List D) | ins (c : Int) (fs : List D) | dct (t : Bool) (ks : List (List Int)) (ds : List D) | dcn (ks ds : List D)
inductive SV where
  | val (d : D) | own (o : OB)
abbrev Rho := List (Option SV)
inductive Rv where
  | sv (s : SV) | plc (i : Nat)
abbrev OB.d : OB → D
  | .lst xs => .list xs
  | .ins c fs => objD c fs
  | .dct t ks ds => dctD t ks ds
  | .dcn ks ds => dcnD ks ds
abbrev SV.d : SV → D
  | .val d => d
  | .own o => o.d

def RepO (k : Kx) (F : Hp) (p : Addr) : OB → HO → Prop
  | .lst xs, ho => ∃ vs, ho = .lst vs ∧ RepL k F vs xs
  | .ins c fs, ho => ∃ (C : Addr) (ns : List Str) (dx : Addr) (vs : List V), k.CT c = some (C, ns) ∧ ho = .ins C dx (ns.zip vs) ∧ F dx = some (.own p) ∧ vs.length ≤ ns.length ∧ RepL k F vs fs
  | .dct t ks ds, ho => ∃ vs, ho = hoD t ks vs ∧ ks.length = vs.length ∧ RepL k F vs ds
  | .dcn ks ds, ho => ∃ es : Ents, ho = DN p es ∧ nkL ks = some (es.map (·.1)) ∧ RepL k F (es.map fun e => .ref e.2.1) ks ∧ RepL k F (es.map (·.2.2)) ds
theorem RepO.mono {k : Kx} {F F' : Hp} {p : Addr} (s : Sub F F') : ∀ {o : OB} {ho : HO}, RepO k F p o ho → RepO k F' p o ho
  | .lst _, _, ⟨vs, e, r⟩ => ⟨vs, e, r.mono s⟩
  | .ins _ _, _, ⟨C, ns, dx, vs, h1, h2, h3, h4, r⟩ => ⟨C, ns, dx, vs, h1, h2, s.ex h3, h4, r.mono s⟩
  | .dct _ _ _, _, ⟨vs, h1, h2, r⟩ => ⟨vs, h1, h2, r.mono s⟩
  | .dcn _ _, _, ⟨es, h1, h2, r1, r2⟩ => ⟨es, h1, h2, r1.mono s, r2.mono s⟩

theorem heap_of_size (o : Obj) (ho : o.isFreed = false) : ∀ n : Nat, ∃ h : Heap, h.objs.size = n ∧ ∀ a o', h.get? a = some o' → o' = o
  | 0 => ⟨{ objs := #[] }, rfl, fun a o' e => by
    have := Heap.lt_size e
    exact absurd this (Nat.not_lt_zero _)⟩
  | n + 1 => by
    obtain ⟨h, e, q⟩ := heap_of_size o ho n
    refine ⟨h.push o, by rw [Heap.size_push, e], fun a o' z => ?_⟩
    by_cases ha : a = h.objs.size
    · subst ha
      rw [Heap.get?_push_size _ ho] at z
      exact (Option.some.inj z).symm
    · rw [Heap.get?_push_ne _ _ _ ha] at z
      exact q a o' z
theorem dn_code {p p' : Addr} {es : Ents} {q : Str} : DN p es ≠ LamX.CodeO p' q := fun z => by
  obtain ⟨h, e, u⟩ := heap_of_size { cls := .none, data := .fields #[.none, .str q 0] } rfl p'
  have z := HO.ext.inj z
  have c : (fun h : Heap => ∃ (oc : Obj) (vs : Array Value) (t : Tok), h.get? p' = some oc ∧ oc.data = .fields vs ∧ vs[1]? = some (.str q t)) (h.push { cls := .none, data := .fields #[.none, .str q 0] }) := ⟨_, _, 0, by rw [← e]; exact Heap.get?_push_size _ rfl, rfl, rfl⟩
  rw [← z] at c
  obtain ⟨_, _, _, o, as, ep, h1, _, h2, _⟩ := c
  by_cases ha : p = h.objs.size
  · subst ha
    rw [Heap.get?_push_size _ rfl] at h1
    cases h1
    cases h2
  · rw [Heap.get?_push_ne _ _ _ ha] at h1
    have := u p o h1
    subst this
    cases h2
def NoT : HO → Prop
  | .tup _ => False
  | .tbl _ => False
  | .ext φ => ∀ p q, HO.ext φ ≠ LamX.CodeO p q
  | _ => True
theorem RepO.nt {k : Kx} {F : Hp} {p : Addr} : ∀ {o : OB} {ho : HO}, RepO k F p o ho → NoT ho
  | .lst _, _, ⟨_, e, _⟩ => by subst e; trivial
  | .ins _ _, _, ⟨_, _, _, _, _, e, _⟩ => by subst e; trivial
  | .dct _ _ _, _, ⟨_, e, _⟩ => by subst e; unfold hoD; split <;> trivial
  | .dcn _ _, _, ⟨_, e, _⟩ => by subst e; exact fun _ _ => dn_code
def NTb : HO → Prop
  | .tbl _ => False
  | _ => True
theorem NoT.ntb {o : HO} (h : NoT o) : NTb o := by cases o <;> first | trivial | exact h.elim
theorem NTb.ne {o : HO} (h : NTb o) : ∀ ps, o ≠ .tbl ps := fun ps z => by rw [z] at h; exact h
def NTC (p : Addr) (o : HO) : Prop := (∀ ps, o ≠ .tbl ps) ∧ ∀ q, o ≠ LamX.CodeO p q
theorem RepO.ntb {k : Kx} {F : Hp} {p : Addr} : ∀ {o : OB} {ho : HO}, RepO k F p o ho → NTb ho
  | .lst _, _, ⟨_, e, _⟩ => by subst e; trivial
  | .ins _ _, _, ⟨_, _, _, _, _, e, _⟩ => by subst e; trivial
  | .dct _ _ _, _, ⟨_, e, _⟩ => by subst e; unfold hoD; split <;> trivial
  | .dcn _ _, _, ⟨_, e, _⟩ => by subst e; trivial
theorem RepO.ntc {k : Kx} {F : Hp} {p : Addr} : ∀ {o : OB} {ho : HO}, RepO k F p o ho → NTC p ho
  | .lst _, _, ⟨_, e, _⟩ => by subst e; exact ⟨fun _ => nofun, fun _ => nofun⟩
  | .ins _ _, _, ⟨_, _, _, _, _, e, _⟩ => by subst e; exact ⟨fun _ => nofun, fun _ => nofun⟩
  | .dct _ _ _, _, ⟨_, e, _⟩ => by subst e; unfold hoD; split <;> exact ⟨fun _ => nofun, fun _ => nofun⟩
  | .dcn _ _, _, ⟨_, e, _⟩ => by subst e; exact ⟨fun _ => nofun, fun _ => dn_code⟩
theorem tabs_new {T : List NdefX.NTab} {H : Hp} {p : Addr} {o : HO} (t : NdefX.TabsN T H) (h : H p = none) : NdefX.TabsN T (upd H p o) := t.ext fun b u e => by rw [upd_ne (ne_of_none e h)]; exact e
theorem tabs_upd {T : List NdefX.NTab} {H : Hp} {p : Addr} {o o' : HO} (t : NdefX.TabsN T H) (h : H p = some o) (n : NTC p o) : NdefX.TabsN T (upd H p o') := fun q hq => by
  obtain ⟨ps, e1, e2, e3⟩ := t q hq
  refine ⟨ps, ?_, e2, fun pos cv hc => ?_⟩
  · rw [upd_ne fun z => by rw [z, h] at e1; exact n.1 ps (Option.some.inj e1)]; exact e1
  · obtain ⟨c, rfl, hc'⟩ := e3 pos cv hc
    exact ⟨c, rfl, by rw [upd_ne fun z => by rw [z, h] at hc'; subst z; exact n.2 _ (Option.some.inj hc')]; exact hc'⟩
theorem tabs_put {T : List NdefX.NTab} {H : Hp} {p : Addr} {o' : HO} (t : NdefX.TabsN T H) (n : ∀ o, H p = some o → NTC p o) : NdefX.TabsN T (upd H p o') := by
  cases h : H p with
  | none => exact tabs_new t h
  | some o => exact tabs_upd t h (n o h)
theorem ntc_lst {p : Addr} {vs : List V} : NTC p (.lst vs) := ⟨fun _ => nofun, fun _ => nofun⟩
structure FR (k : Kx) (F : Hp) (ρ : Rho) (σ : St) (H : Hp) : Prop where
  sub : Sub F H
  len : ρ.length = σ.length
  vals : ∀ (i : Nat) (d : D), ρ[i]? = some (some (.val d)) → ∃ v, σ[i]? = some (some v) ∧ Rep k F v d
  owns : ∀ (i : Nat) (o : OB), ρ[i]? = some (some (.own o)) → ∃ p ho, σ[i]? = some (some (.ref p)) ∧ H p = some ho ∧ F p = none ∧ RepO k F p o ho
  dist : ∀ (i j : Nat) (o o' : OB) (p : Addr), ρ[i]? = some (some (.own o)) → ρ[j]? = some (some (.own o')) → σ[i]? = some (some (.ref p)) → σ[j]? = some (some (.ref p)) → i = j
  tabs : NdefX.TabsN k.CT.T H

def Own (ρ : Rho) (σ : St) (p : Addr) : Prop := ∃ (i : Nat) (o : OB), ρ[i]? = some (some (.own o)) ∧ σ[i]? = some (some (.ref p))
theorem FR.own_none {k : Kx} {F : Hp} {ρ : Rho} {σ : St} {H : Hp} (f : FR k F ρ σ H) {p : Addr} (h : Own ρ σ p) : F p = none := by
  obtain ⟨i, o, e, e2⟩ := h
  obtain ⟨q, ho, s, _, n, _⟩ := f.owns i o e
  rw [e2] at s; cases s; exact n
theorem FR.own_some {k : Kx} {F : Hp} {ρ : Rho} {σ : St} {H : Hp} (f : FR k F ρ σ H) {p : Addr} (h : Own ρ σ p) : ∃ ho, H p = some ho := by
  obtain ⟨i, o, e, e2⟩ := h
  obtain ⟨q, ho, s, h, n, _⟩ := f.owns i o e
  rw [e2] at s; cases s; exact ⟨_, h⟩

structure Tr (I : Addr → Prop) (F H F' H' : Hp) : Prop where
  sub : Sub F F'
  keep : ∀ p o, H p = some o → NTb o → ¬ I p → H' p = some o
  new : ∀ p o, H p = some o → NoT o → F p = none → ¬ I p → F' p = none
  there : ∀ p o, H p = some o → ∃ o', H' p = some o'
theorem Tr.refl {I : Addr → Prop} {F H : Hp} : Tr I F H F H := ⟨Sub.refl _, fun _ _ h _ _ => h, fun _ _ _ _ h _ => h, fun p o h => ⟨o, h⟩⟩
theorem Tr.trans {I J : Addr → Prop} {F H F1 H1 F2 H2 : Hp} (a : Tr I F H F1 H1) (b : Tr J F1 H1 F2 H2) (h : ∀ p, J p → I p ∨ H p = none) : Tr I F H F2 H2 where
  sub := a.sub.trans b.sub
  keep := fun p o e m n => b.keep p o (a.keep p o e m n) m fun j => (h p j).elim n fun z => by rw [e] at z; cases z
  new := fun p o e m f n => b.new p o (a.keep p o e m.ntb n) m (a.new p o e m f n) fun j => (h p j).elim n fun z => by rw [e] at z; cases z
  there := fun p o e => let ⟨o', e'⟩ := a.there p o e; b.there p o' e'
theorem Tr.mono {I J : Addr → Prop} {F H F' H' : Hp} (a : Tr I F H F' H') (h : ∀ p, I p → J p) : Tr J F H F' H' :=
  ⟨a.sub, fun p o e m n => a.keep p o e m fun i => n (h p i), fun p o e m f n => a.new p o e m f fun i => n (h p i), a.there⟩
theorem Tr.newF {I : Addr → Prop} {F H : Hp} {p : Addr} {o : HO} (s : Sub F H) (h : H p = none) : Tr I F H (upd F p o) (upd H p o) where
  sub := Sub.upd (by cases e : F p with
    | none => rfl
    | some u => obtain ⟨z, hz⟩ := s.some e; rw [hz] at h; cases h)
  keep := fun q u e _ _ => by rw [upd_ne (ne_of_none e h)]; exact e
  new := fun q u e _ f _ => by rw [upd_ne (ne_of_none e h)]; exact f
  there := fun q u e => ⟨u, by rw [upd_ne (ne_of_none e h)]; exact e⟩
theorem Tr.newO {I : Addr → Prop} {F H : Hp} {p : Addr} {o : HO} (h : H p = none) : Tr I F H F (upd H p o) where
  sub := Sub.refl _
  keep := fun q u e _ _ => by rw [upd_ne (ne_of_none e h)]; exact e
  new := fun q u e _ f _ => f
  there := fun q u e => ⟨u, by rw [upd_ne (ne_of_none e h)]; exact e⟩
theorem Sub.none_of {F H : Hp} {p : Addr} (s : Sub F H) (h : H p = none) : F p = none := by
  cases e : F p with
  | none => rfl
  | some u => obtain ⟨z, hz⟩ := s.some e; rw [hz] at h; cases h
theorem FR.newF {k : Kx} {F : Hp} {ρ : Rho} {σ : St} {H : Hp} (f : FR k F ρ σ H) {p : Addr} {o : HO} (h : H p = none) : FR k (upd F p o) ρ σ (upd H p o) where
  sub := fun a u e => by
    by_cases ha : a = p
    · subst ha; rw [upd_same] at e ⊢; exact ⟨_, e, rfl⟩
    · rw [upd_ne ha] at e ⊢; exact f.sub a u e
  len := f.len
  vals := fun i d e => let ⟨v, s, r⟩ := f.vals i d e; ⟨v, s, r.mono (Sub.upd (f.sub.none_of h))⟩
  owns := fun i ob e => by
    obtain ⟨q, ho, s, hq, n, r⟩ := f.owns i ob e
    have ne : q ≠ p := ne_of_none hq h
    exact ⟨q, ho, s, by rw [upd_ne ne]; exact hq, by rw [upd_ne ne]; exact n, r.mono (Sub.upd (f.sub.none_of h))⟩
  dist := f.dist
  tabs := tabs_new f.tabs h
theorem FR.newO {k : Kx} {F : Hp} {ρ : Rho} {σ : St} {H : Hp} (f : FR k F ρ σ H) {p : Addr} {o : HO} (h : H p = none) : FR k F ρ σ (upd H p o) where
  sub := fun a u e => by
    obtain ⟨z, hz⟩ := f.sub.some e
    rw [upd_ne (ne_of_none hz h)]; exact f.sub a u e
  len := f.len
  vals := f.vals
  owns := fun i ob e => by
    obtain ⟨q, ho, s, hq, n, r⟩ := f.owns i ob e
    exact ⟨q, ho, s, by rw [upd_ne (ne_of_none hq h)]; exact hq, n, r⟩
  dist := f.dist
  tabs := tabs_new f.tabs h
end Pv

/-! Pv2: simulation of readings by pure functions; operators. -/
namespace Pv
open PySem PySem.Spec L2

def wpo {α : Type} (o : Option α) (Q : α → Prop) : Prop := match o with
  | some a => Q a
  | none => False
theorem wpo_bind {α β : Type} {o : Option α} {f : α → Option β} {Q : β → Prop} : wpo (o.bind f) Q ↔ wpo o fun a => wpo (f a) Q := by
  cases o <;> exact Iff.rfl
theorem wpo.mono {α : Type} {o : Option α} {Q R : α → Prop} (h : wpo o Q) (f : ∀ a, o = some a → Q a → R a) : wpo o R := by
  cases o with
  | none => exact h
  | some a => exact f a rfl h

structure Aft (k : Kx) (ρ : Rho) (σ : L2.St) (F H : Hp) (ρ' : Rho) (F' H' : Hp) : Prop where
  fr : FR k F' ρ' σ H'
  tr : Tr (Own ρ σ) F H F' H'
  ow : ∀ p, Own ρ' σ p → Own ρ σ p
  sl : ∀ (i : Nat) (s : SV), ρ[i]? = some (some s) → ∃ s', ρ'[i]? = some (some s')
section
variable {k : Kx} {ρ ρ1 ρ2 : Rho} {σ : L2.St} {F H F1 H1 F2 H2 : Hp}
theorem Aft.refl (f : FR k F ρ σ H) : Aft k ρ σ F H ρ F H := ⟨f, Tr.refl, fun _ h => h, fun _ s h => ⟨s, h⟩⟩
theorem Aft.trans (a : Aft k ρ σ F H ρ1 F1 H1) (b : Aft k ρ1 σ F1 H1 ρ2 F2 H2) : Aft k ρ σ F H ρ2 F2 H2 :=
  ⟨b.fr, a.tr.trans b.tr fun p j => .inl (a.ow p j), fun p h => a.ow p (b.ow p h), fun i s h => let ⟨s', h'⟩ := a.sl i s h; b.sl i s' h'⟩
theorem Aft.newF (f : FR k F ρ σ H) {p : Addr} {o : HO} (h : H p = none) : Aft k ρ σ F H ρ (upd F p o) (upd H p o) := ⟨f.newF h, Tr.newF f.sub h, fun _ h => h, fun _ s h => ⟨s, h⟩⟩
theorem Aft.newO (f : FR k F ρ σ H) {p : Addr} {o : HO} (h : H p = none) : Aft k ρ σ F H ρ F (upd H p o) := ⟨f.newO h, Tr.newO h, fun _ h => h, fun _ s h => ⟨s, h⟩⟩
end

def RR (k : Kx) (H0 F : Hp) (ρ : Rho) (σ : L2.St) (H : Hp) : Rv → V → Prop
  | .sv (.val d), v => Rep k F v d
  | .sv (.own o), v => ∃ p ho, v = .ref p ∧ H0 p = none ∧ H p = some ho ∧ F p = none ∧ RepO k F p o ho
  | .plc i, v => σ[i]? = some (some v) ∧ ∃ s, ρ[i]? = some (some s)
def RdR (k : Kx) (F H : Hp) (v : V) (d : D) : Prop := Rep k F v d ∨ ∃ p o ho, v = .ref p ∧ H p = some ho ∧ RepO k F p o ho ∧ d = OB.d o
def rdD (ρ : Rho) : Rv → Option D
  | .sv s => some s.d
  | .plc i => match ρ[i]? with
    | some (some s) => some s.d
    | _ => none
section
variable {k : Kx} {ρ ρ0 ρ1 ρ2 : Rho} {σ : L2.St} {F H F0 H0 F1 H1 F2 H2 : Hp} {r : Rv} {v : V} {d : D}
theorem RR.step (f0 : FR k F0 ρ0 σ H0) (a : Aft k ρ0 σ F0 H0 ρ1 F1 H1) (b : Aft k ρ1 σ F1 H1 ρ2 F2 H2) (h : RR k H0 F1 ρ1 σ H1 r v) : RR k H0 F2 ρ2 σ H2 r v := by
  match r, h with
  | .sv (.val d), h => exact Rep.mono b.tr.sub h
  | .sv (.own o), ⟨p, ho, e, n, h1, n1, q⟩ =>
    have np : ¬ Own ρ1 σ p := fun z => by
      obtain ⟨u, hu⟩ := f0.own_some (a.ow p z)
      rw [n] at hu; cases hu
    exact ⟨p, ho, e, n, b.tr.keep p ho h1 q.ntb np, b.tr.new p ho h1 q.nt n1 np, q.mono b.tr.sub⟩
  | .plc i, ⟨e, s, h⟩ => exact ⟨e, b.sl i s h⟩
theorem RR.back (a : Aft k ρ0 σ F0 H0 ρ1 F1 H1) (h : RR k H1 F2 ρ2 σ H2 r v) : RR k H0 F2 ρ2 σ H2 r v := by
  match r, h with
  | .sv (.val d), h => exact h
  | .sv (.own o), ⟨p, ho, e, n, q⟩ =>
    refine ⟨p, ho, e, ?_, q⟩
    cases z : H0 p with
    | none => rfl
    | some u =>
      obtain ⟨u', hu'⟩ := a.tr.there p u z
      rw [n] at hu'; cases hu'
  | .plc i, h => exact h
theorem RR.rd (f : FR k F ρ σ H) (h : RR k H0 F ρ σ H r v) (e : rdD ρ r = some d) : RdR k F H v d := by
  match r, h with
  | .sv (.val d'), h => simp only [rdD, Option.some.injEq] at e; subst e; exact .inl h
  | .sv (.own o), ⟨p, ho, e1, n, h1, n1, q⟩ => simp only [rdD, Option.some.injEq] at e; subst e; exact .inr ⟨p, o, ho, e1, h1, q, rfl⟩
  | .plc i, ⟨e1, s, h1⟩ =>
    simp only [rdD, h1, Option.some.injEq] at e
    subst e
    cases s with
    | val d' =>
      obtain ⟨v', h2, h3⟩ := f.vals i d' h1
      rw [e1] at h2; cases h2; exact .inl h3
    | own o =>
      obtain ⟨p, ho, h2, h3, _, h4⟩ := f.owns i o h1
      rw [e1] at h2; cases h2; exact .inr ⟨p, o, ho, rfl, h3, h4, rfl⟩
/-! ### reading -/
theorem RdR.dp (s : Sub F H) (h : RdR k F H v d) (p : d.plain = true) : Dp k.K H v d := by
  rcases h with h | ⟨q, o, ho, rfl, h1, h2, rfl⟩
  · exact dpMono s (h.dp p)
  · cases o with
    | lst xs =>
      obtain ⟨vs, rfl, r⟩ := h2
      exact .lst (.inl (.inl h1)) (dpAllMono s (r.dp (by simpa [PyData.plain] using p)))
    | ins c fs => simp [OB.d, PyData.plain] at p
    | dct t ks ds => simp [OB.d, PyData.plain] at p
    | dcn ks ds => simp [OB.d, PyData.plain] at p
theorem RdR.lst {xs : List D} (s : Sub F H) (h : RdR k F H v (.list xs)) : ∃ a vs, v = .ref a ∧ H a = some (.lst vs) ∧ RepL k F vs xs := by
  rcases h with h | ⟨q, o, ho, rfl, h1, h2, e⟩
  · cases h with
    | lst h r => exact ⟨_, _, rfl, s.ex h, r⟩
  · cases o with
    | lst ys =>
      cases e
      obtain ⟨vs, rfl, r⟩ := h2
      exact ⟨q, vs, rfl, h1, r⟩
    | ins c fs => cases e
    | dct t ks ds => cases e
    | dcn ks ds => cases e
theorem RdR.tup {xs : List D} (s : Sub F H) (h : RdR k F H v (.tuple xs)) : ∃ a vs, v = .ref a ∧ F a = some (.tup vs) ∧ SqT k.K H a vs ∧ RepL k F vs xs := by
  rcases h with h | ⟨q, o, ho, rfl, h1, h2, e⟩
  · cases h with
    | tup h r => exact ⟨_, _, rfl, h, SqT.of (s.ex h), r⟩
  · cases o with
    | lst ys => cases e
    | ins c fs => cases e
    | dct t ks ds => cases e
    | dcn ks ds => cases e
theorem RdR.fls {xs : List D} (s : Sub F H) (h : RdR k F H v (flsD xs)) : ∃ a vs, v = .ref a ∧ SqL k.K H a vs ∧ RepL k F vs xs := by
  rcases h with h | ⟨q, o, ho, rfl, h1, h2, e⟩
  · cases h with
    | fls h r => exact ⟨_, _, rfl, (h.mono s).sq, r⟩
  · cases o with
    | lst ys => cases e
    | ins c fs => cases e
    | dct t ks ds => cases e
    | dcn ks ds => cases e
theorem RdR.xtp {xs : List D} (s : Sub F H) (h : RdR k F H v (tpD xs)) : ∃ a vs, v = .ref a ∧ TpX F a vs ∧ SqT k.K H a vs ∧ RepL k F vs xs := by
  rcases h with h | ⟨q, o, ho, rfl, h1, h2, e⟩
  · cases h with
    | xt h r => exact ⟨_, _, rfl, h, (h.mono s).sqT, r⟩
  · cases o with
    | lst ys => cases e
    | ins c fs => cases e
    | dct t ks ds => cases e
    | dcn ks ds => cases e
theorem RdR.int {i : Int} (h : RdR k F H v (.int i)) : v = .int i := by
  rcases h with h | ⟨q, o, ho, rfl, h1, h2, e⟩
  · cases h; rfl
  · cases o with
    | lst ys => cases e
    | ins c fs => cases e
    | dct t ks ds => cases e
    | dcn ks ds => cases e
theorem RdR.bl {b : Bool} (h : RdR k F H v (.bool b)) : v = .bl b := by
  rcases h with h | ⟨q, o, ho, rfl, h1, h2, e⟩
  · cases h; rfl
  · cases o with
    | lst ys => cases e
    | ins c fs => cases e
    | dct t ks ds => cases e
    | dcn ks ds => cases e
theorem RdR.str {x : Str} (h : RdR k F H v (.str x)) : v = .str x := by
  rcases h with h | ⟨q, o, ho, rfl, h1, h2, e⟩
  · cases h; rfl
  · cases o with
    | lst ys => cases e
    | ins c fs => cases e
    | dct t ks ds => cases e
    | dcn ks ds => cases e
theorem RdR.non (h : RdR k F H v .none) : v = .non := by
  rcases h with h | ⟨q, o, ho, rfl, h1, h2, e⟩
  · cases h; rfl
  · cases o with
    | lst ys => cases e
    | ins c fs => cases e
    | dct t ks ds => cases e
    | dcn ks ds => cases e
end

abbrev EM := Rho → Option (Rv × Rho)
def SimE (k : Kx) (te : TE) (m : EM) : Prop := ∀ (F : Hp) (ρ : Rho) (σ : L2.St) (H : Hp) (Q : VK), FR k F ρ σ H →
  wpo (m ρ) (fun x => ∀ v F' H', Aft k ρ σ F H x.2 F' H' → RR k H F' x.2 σ H' x.1 v → Q v H') → te σ H Q
def SE (k : Kx) (X : Cx) (e : Expr) (m : EM) : Prop := ∃ te, PE X e te ∧ SimE k te m

/-! ### names, constants -/
def evVar (i : Nat) : EM := fun ρ => match ρ[i]? with
  | some (some (.val d)) => some (.sv (.val d), ρ)
  | some (some (.own _)) => some (.plc i, ρ)
  | _ => none
theorem simVar {k : Kx} {i : Nat} : SimE k (tVar i) (evVar i) := by
  intro F ρ σ H Q f h
  unfold evVar at h
  split at h
  · rename_i d e
    obtain ⟨v, s, r⟩ := f.vals i d e
    exact ⟨v, s, h v F H (Aft.refl f) r⟩
  · rename_i o e
    obtain ⟨p, ho, s, _⟩ := f.owns i o e
    exact ⟨_, s, h _ F H (Aft.refl f) ⟨s, _, e⟩⟩
  · exact h.elim
def evC (d : D) : EM := fun ρ => some (.sv (.val d), ρ)
theorem simC {k : Kx} {v : V} {d : D} (h : ∀ F, Rep k F v d) : SimE k (tC v) (evC d) := fun F ρ σ H Q f q => q v F H (Aft.refl f) (h F)

/-! ### operators on contents -/
def OpSim (k : Kx) (r : R2) (g : D → D → Option SV) : Prop := ∀ (F : Hp) (ρ : Rho) (σ : L2.St) (H : Hp) (x y : V) (dx dy : D) (Q : VK), FR k F ρ σ H → RdR k F H x dx → RdR k F H y dy →
  wpo (g dx dy) (fun s => ∀ v F' H', Aft k ρ σ F H ρ F' H' → RR k H F' ρ σ H' (.sv s) v → Q v H') → r x y H Q
def UnSim (k : Kx) (r : V → Hp → VK → Prop) (g : D → Option SV) : Prop := ∀ (F : Hp) (ρ : Rho) (σ : L2.St) (H : Hp) (x : V) (dx : D) (Q : VK), FR k F ρ σ H → RdR k F H x dx →
  wpo (g dx) (fun s => ∀ v F' H', Aft k ρ σ F H ρ F' H' → RR k H F' ρ σ H' (.sv s) v → Q v H') → r x H Q
def evBin (g : D → D → Option SV) (ma mb : EM) : EM := fun ρ => (ma ρ).bind fun a => (mb a.2).bind fun b => (rdD b.2 a.1).bind fun d1 => (rdD b.2 b.1).bind fun d2 => (g d1 d2).bind fun s => some (.sv s, b.2)
def evUn (g : D → Option SV) (ma : EM) : EM := fun ρ => (ma ρ).bind fun a => (rdD a.2 a.1).bind fun d => (g d).bind fun s => some (.sv s, a.2)
theorem simBin {k : Kx} {r : R2} {g : D → D → Option SV} {ta tb : TE} {ma mb : EM} (hr : OpSim k r g) (ha : SimE k ta ma) (hb : SimE k tb mb) : SimE k (tOp r ta tb) (evBin g ma mb) := by
  intro F ρ σ H Q f h
  unfold evBin at h
  refine ha F ρ σ H _ f ((wpo_bind.mp h).mono fun a _ h => ?_)
  intro v F1 H1 A1 R1
  refine hb F1 a.2 σ H1 _ A1.fr ((wpo_bind.mp h).mono fun b _ h => ?_)
  intro u F2 H2 A2 R2
  have R1' := R1.step f A1 A2
  have h := wpo_bind.mp h
  cases e1 : rdD b.2 a.1 with
  | none => rw [e1] at h; exact h.elim
  | some d1 =>
    rw [e1] at h
    have h := wpo_bind.mp h
    cases e2 : rdD b.2 b.1 with
    | none => rw [e2] at h; exact h.elim
    | some d2 =>
      rw [e2] at h
      refine hr F2 b.2 σ H2 v u d1 d2 Q A2.fr (R1'.rd A2.fr e1) (R2.rd A2.fr e2) ((wpo_bind.mp h).mono fun s _ h => ?_)
      intro z F3 H3 A3 R3
      exact h z F3 H3 ((A1.trans A2).trans A3) (R3.back (A1.trans A2))
theorem simUn {k : Kx} {r : V → Hp → VK → Prop} {g : D → Option SV} {ta : TE} {ma : EM} (hr : UnSim k r g) (ha : SimE k ta ma) : SimE k (tUn r ta) (evUn g ma) := by
  intro F ρ σ H Q f h
  unfold evUn at h
  refine ha F ρ σ H _ f ((wpo_bind.mp h).mono fun a _ h => ?_)
  intro v F1 H1 A1 R1
  have h := wpo_bind.mp h
  cases e1 : rdD a.2 a.1 with
  | none => rw [e1] at h; exact h.elim
  | some d1 =>
    rw [e1] at h
    refine hr F1 a.2 σ H1 v d1 Q A1.fr (R1.rd A1.fr e1) ((wpo_bind.mp h).mono fun s _ h => ?_)
    intro z F3 H3 A3 R3
    exact h z F3 H3 (A1.trans A3) (R3.back A1)
theorem OpSim.sc {k : Kx} {F : Hp} {ρ : Rho} {σ : L2.St} {H : Hp} {Q : VK} {d : D} {v : V} (f : FR k F ρ σ H) (r : Rep k F v d)
    (h : wpo (some (SV.val d)) (fun s => ∀ v F' H', Aft k ρ σ F H ρ F' H' → RR k H F' ρ σ H' (.sv s) v → Q v H')) : Q v H := h v F H (Aft.refl f) r

abbrev AM := Rho → Option (List Rv × Rho)
inductive RRs (k : Kx) (F : Hp) (ρ : Rho) (σ : L2.St) (H : Hp) : Hp → List Rv → List V → Prop
  | nil {H0 : Hp} : RRs k F ρ σ H H0 [] []
  | cons {r : Rv} {v : V} {rs : List Rv} {vs : List V} {H0 H1 : Hp} : RR k H0 F ρ σ H r v → RRs k F ρ σ H H1 rs vs → (∀ p, H0 p ≠ none → H1 p ≠ none) → (∀ o, r = .sv (.own o) → ∃ p, v = .ref p ∧ H1 p ≠ none) → RRs k F ρ σ H H0 (r :: rs) (v :: vs)
def SimA (k : Kx) (ta : TA) (m : AM) : Prop := ∀ (F : Hp) (ρ : Rho) (σ : L2.St) (H : Hp) (Q : List V → Hp → Prop), FR k F ρ σ H →
  wpo (m ρ) (fun x => ∀ vs F' H', Aft k ρ σ F H x.2 F' H' → RRs k F' x.2 σ H' H x.1 vs → Q vs H') → ta σ H Q
def SA (k : Kx) (X : Cx) (es : List Expr) (m : AM) : Prop := ∃ ta, PA X es ta ∧ SimA k ta m
def evNil : AM := fun ρ => some ([], ρ)
def evCons (ma : EM) (mr : AM) : AM := fun ρ => (ma ρ).bind fun a => (mr a.2).bind fun b => some (a.1 :: b.1, b.2)
theorem simNil {k : Kx} : SimA k tNil evNil := fun F ρ σ H Q f h => h [] F H (Aft.refl f) .nil
theorem simCons {k : Kx} {ta : TE} {tr : TA} {ma : EM} {mr : AM} (ha : SimE k ta ma) (hr : SimA k tr mr) : SimA k (tCons ta tr) (evCons ma mr) := by
  intro F ρ σ H Q f h
  unfold evCons at h
  refine ha F ρ σ H _ f ((wpo_bind.mp h).mono fun a _ h => ?_)
  intro v F1 H1 A1 R1
  refine hr F1 a.2 σ H1 _ A1.fr ((wpo_bind.mp h).mono fun b _ h => ?_)
  intro us F2 H2 A2 R2
  refine h (v :: us) F2 H2 (A1.trans A2) (.cons (R1.step f A1 A2) R2 (fun p e => ?_) fun o e => ?_)
  · cases z : H p with
    | none => exact absurd z e
    | some u => obtain ⟨u', hu'⟩ := A1.tr.there p u z; rw [hu']; simp
  · rw [e] at R1
    obtain ⟨p, ho, e1, _, h1, _⟩ := R1
    exact ⟨p, e1, by rw [h1]; simp⟩
def rdAll (ρ : Rho) : List Rv → Option (List D)
  | [] => some []
  | r :: rs => (rdD ρ r).bind fun d => (rdAll ρ rs).bind fun ds => some (d :: ds)
inductive RdRs (k : Kx) (F H : Hp) : List V → List D → Prop
  | nil : RdRs k F H [] []
  | cons {v : V} {vs : List V} {d : D} {ds : List D} : RdR k F H v d → RdRs k F H vs ds → RdRs k F H (v :: vs) (d :: ds)
theorem RRs.rd {k : Kx} {F : Hp} {ρ : Rho} {σ : L2.St} {H : Hp} (f : FR k F ρ σ H) : ∀ {H0 : Hp} {rs : List Rv} {vs : List V} {ds : List D}, RRs k F ρ σ H H0 rs vs → rdAll ρ rs = some ds → RdRs k F H vs ds
  | _, _, _, _, .nil, e => by simp only [rdAll, Option.some.injEq] at e; subst e; exact .nil
  | _, r :: rs, v :: vs, ds, .cons a b _ _, e => by
    simp only [rdAll, Option.bind_eq_some_iff] at e
    obtain ⟨d, e1, ds', e2, e3⟩ := e
    cases e3
    exact .cons (a.rd f e1) (RRs.rd f b e2)
def CallSim (k : Kx) (r : List V → Hp → VK → Prop) (g : List D → Option SV) : Prop := ∀ (F : Hp) (ρ : Rho) (σ : L2.St) (H : Hp) (vs : List V) (ds : List D) (Q : VK), FR k F ρ σ H → RdRs k F H vs ds →
  wpo (g ds) (fun s => ∀ v F' H', Aft k ρ σ F H ρ F' H' → RR k H F' ρ σ H' (.sv s) v → Q v H') → r vs H Q
def evCall (g : List D → Option SV) (ma : AM) : EM := fun ρ => (ma ρ).bind fun a => (rdAll a.2 a.1).bind fun ds => (g ds).bind fun s => some (.sv s, a.2)
theorem simCall {k : Kx} {r : List V → Hp → VK → Prop} {g : List D → Option SV} {ta : TA} {ma : AM} (hr : CallSim k r g) (ha : SimA k ta ma) : SimE k (tCB r ta) (evCall g ma) := by
  intro F ρ σ H Q f h
  unfold evCall at h
  refine ha F ρ σ H _ f ((wpo_bind.mp h).mono fun a _ h => ?_)
  intro vs F1 H1 A1 R1
  have h := wpo_bind.mp h
  cases e1 : rdAll a.2 a.1 with
  | none => rw [e1] at h; exact h.elim
  | some ds =>
    rw [e1] at h
    refine hr F1 a.2 σ H1 vs ds Q A1.fr (R1.rd A1.fr e1) ((wpo_bind.mp h).mono fun s _ h => ?_)
    intro z F3 H3 A3 R3
    exact h z F3 H3 (A1.trans A3) (R3.back A1)
end Pv

/-! Pv3: operators: rules over data, and their pure functions. -/
namespace Pv
open PySem PySem.Spec PySem.SeqAt L2

def rDat (K : PySem.W.Frag) (p : D → D → Bool) (g : D → D → Bool) : R2 := fun x y H Q => ∃ d e, Dp K H x d ∧ Dp K H y e ∧ p d e = true ∧ Q (.bl (g d e)) H
def pEq (d e : D) : Bool := d.plain && e.plain && decide (min d.depth e.depth ≤ 100)
def pLt (d e : D) : Bool := d.plain && e.plain && PySem.W.alike d e && (match d with | .none => false | _ => true) && decide (min d.depth e.depth ≤ 100)
section
variable {X : Cx}
theorem op_dat {f : Value → Value → Sem Value} {p g : D → D → Bool}
    (rule : ∀ (d e : D) (v u : Value) (as bs : List Addr) (s : Shared) (Q : Value → Shared → Prop), p d e = true → Reads s.heap v d as → Reads s.heap u e bs → Q (.bool (g d e)) s → wpAny (model X.prog X.w) X.A (f v u) Q X.xe s) : OpR X f (rDat X.K p g) := by
  intro pins s σ H x y v u Q I rx ry h
  obtain ⟨d, e, hd, he, hp, q⟩ := h
  obtain ⟨as, r1⟩ := Dp.reads I d x v hd rx
  obtain ⟨bs, r2⟩ := Dp.reads I e y u he ry
  exact rule d e v u as bs s _ hp r1 r2 ⟨.bl _, H, I, rfl, q⟩
theorem pEq_ok {d e : D} (h : pEq d e = true) : d.plain = true ∧ e.plain = true ∧ min d.depth e.depth ≤ 100 := by
  simp only [pEq, Bool.and_eq_true, decide_eq_true_eq] at h
  exact ⟨h.1.1, h.1.2, h.2⟩
theorem pLt_ok {d e : D} (h : pLt d e = true) : d.plain = true ∧ e.plain = true ∧ PySem.W.alike d e = true ∧ d ≠ .none ∧ min d.depth e.depth ≤ 100 := by
  simp only [pLt, Bool.and_eq_true, decide_eq_true_eq] at h
  exact ⟨h.1.1.1.1, h.1.1.1.2, h.1.1.2, by rintro rfl; simp at h, h.2⟩
variable (hu : X.A.units + 200 < cLine)
include hu
theorem op_eqP : OpR X (compareOp .Eq) (rDat X.K pEq PyData.eqv) := op_dat fun d e v u as bs s Q hp r1 r2 q => by
  obtain ⟨h1, h2, h3⟩ := pEq_ok hp
  exact eq_plain r1 r2 h1 h2 (by omega) q
theorem op_neP : OpR X (compareOp .NotEq) (rDat X.K pEq fun d e => !PyData.eqv d e) := op_dat fun d e v u as bs s Q hp r1 r2 q => by
  obtain ⟨h1, h2, h3⟩ := pEq_ok hp
  exact ne_plain r1 r2 h1 h2 (by omega) q
theorem op_ltP : OpR X (compareOp .Lt) (rDat X.K pLt PySem.W.dataLt) := op_dat fun d e v u as bs s Q hp r1 r2 q => by
  obtain ⟨_, _, h1, h2, h3⟩ := pLt_ok hp
  exact PySem.W.lt_data r1 r2 h1 h2 (by omega) q
theorem op_gtP : OpR X (compareOp .Gt) (rDat X.K pLt fun d e => PySem.W.dataLt e d) := op_dat fun d e v u as bs s Q hp r1 r2 q => by
  obtain ⟨_, _, h1, h2, h3⟩ := pLt_ok hp
  exact PySem.W.gt_data r1 r2 h1 h2 (by omega) q
theorem op_leP : OpR X (compareOp .LtE) (rDat X.K pLt fun d e => !PySem.W.dataLt e d) := op_dat fun d e v u as bs s Q hp r1 r2 q => by
  obtain ⟨_, _, h1, h2, h3⟩ := pLt_ok hp
  exact PySem.W.le_data r1 r2 h1 h2 (by omega) q
theorem op_geP : OpR X (compareOp .GtE) (rDat X.K pLt fun d e => !PySem.W.dataLt d e) := op_dat fun d e v u as bs s Q hp r1 r2 q => by
  obtain ⟨_, _, h1, h2, h3⟩ := pLt_ok hp
  exact PySem.W.ge_data r1 r2 h1 h2 (by omega) q
def pIn (d e : D) : Bool := match e with
  | .list xs => d.plain && PyData.plainAll xs && decide (min (PyData.depthAll xs) d.depth ≤ 100)
  | .tuple xs => d.plain && PyData.plainAll xs && decide (min (PyData.depthAll xs) d.depth ≤ 100)
  | _ => false
def gIn (d e : D) : Bool := match e with
  | .list xs => xs.any fun y => PyData.eqv y d
  | .tuple xs => xs.any fun y => PyData.eqv y d
  | _ => false
theorem op_inP : OpR X (compareOp .In) (rDat X.K pIn gIn) := op_dat fun d e v u as bs s Q hp r1 r2 q => by
  cases e with
  | list xs =>
    simp only [pIn, Bool.and_eq_true, decide_eq_true_eq] at hp
    exact in_list_data r2 r1 hp.1.2 hp.1.1 (by omega) q
  | tuple xs =>
    simp only [pIn, Bool.and_eq_true, decide_eq_true_eq] at hp
    exact in_tuple_data r2 r1 hp.1.2 hp.1.1 (by omega) q
  | _ => simp [pIn] at hp
theorem op_notInP : OpR X (compareOp .NotIn) (rDat X.K pIn fun d e => !gIn d e) := op_dat fun d e v u as bs s Q hp r1 r2 q => by
  cases e with
  | list xs =>
    simp only [pIn, Bool.and_eq_true, decide_eq_true_eq] at hp
    exact notIn_list_data r2 r1 hp.1.2 hp.1.1 (by omega) q
  | tuple xs =>
    simp only [pIn, Bool.and_eq_true, decide_eq_true_eq] at hp
    exact notIn_tuple_data r2 r1 hp.1.2 hp.1.1 (by omega) q
  | _ => simp [pIn] at hp
end

/-! ### the pure functions -/
def gDat (p g : D → D → Bool) (d e : D) : Option SV := if p d e = true then some (.val (.bool (g d e))) else none
theorem simDat {k : Kx} {p g : D → D → Bool} (hp : ∀ d e, p d e = true → d.plain = true ∧ e.plain = true) : OpSim k (rDat k.K p g) (gDat p g) := by
  intro F ρ σ H x y dx dy Q f rx ry h
  unfold gDat at h
  by_cases e : p dx dy = true
  · rw [if_pos e] at h
    obtain ⟨p1, p2⟩ := hp _ _ e
    exact ⟨dx, dy, rx.dp f.sub p1, ry.dp f.sub p2, e, h _ F H (Aft.refl f) (.bl _)⟩
  · rw [if_neg e] at h; exact h.elim
theorem pIn_plain {d e : D} (h : pIn d e = true) : d.plain = true ∧ e.plain = true := by
  cases e with
  | list xs => simp only [pIn, Bool.and_eq_true] at h; exact ⟨h.1.1, by simpa [PyData.plain] using h.1.2⟩
  | tuple xs => simp only [pIn, Bool.and_eq_true] at h; exact ⟨h.1.1, by simpa [PyData.plain] using h.1.2⟩
  | _ => simp [pIn] at h
abbrev gEqD := gDat pEq PyData.eqv
abbrev gNeD := gDat pEq fun d e => !PyData.eqv d e
abbrev gLtD := gDat pLt PySem.W.dataLt
abbrev gGtD := gDat pLt fun d e => PySem.W.dataLt e d
abbrev gLeD := gDat pLt fun d e => !PySem.W.dataLt e d
abbrev gGeD := gDat pLt fun d e => !PySem.W.dataLt d e
abbrev gInD := gDat pIn gIn
abbrev gNotInD := gDat pIn fun d e => !gIn d e

def gI2 (C : Int → Int → Bool) (g : Int → Int → D) : D → D → Option SV
  | .int i, .int j => if C i j = true then some (.val (g i j)) else none
  | _, _ => none
theorem simI2 {k : Kx} {C : Int → Int → Bool} {C' : Int → Int → Prop} {g : Int → Int → D} {g' : Int → Int → V} (hC : ∀ i j, C i j = true → C' i j) (hg : ∀ F i j, Rep k F (g' i j) (g i j)) : OpSim k (rI C' g') (gI2 C g) := by
  intro F ρ σ H x y dx dy Q f rx ry h
  unfold gI2 at h
  split at h
  · rename_i i j
    by_cases e : C i j = true
    · rw [if_pos e] at h
      exact ⟨i, j, rx.int, ry.int, hC _ _ e, h _ F H (Aft.refl f) (hg F i j)⟩
    · rw [if_neg e] at h; exact h.elim
  · exact h.elim
theorem simI0 {k : Kx} {g : Int → Int → D} {g' : Int → Int → V} (hg : ∀ F i j, Rep k F (g' i j) (g i j)) : OpSim k (rI0 g') (gI2 (fun _ _ => true) g) := by
  intro F ρ σ H x y dx dy Q f rx ry h
  unfold gI2 at h
  split at h
  · rename_i i j
    rw [if_pos rfl] at h
    exact ⟨i, j, rx.int, ry.int, h _ F H (Aft.refl f) (hg F i j)⟩
  · exact h.elim
def cMul (i j : Int) : Bool := Nat.ble i.natAbs 18446744073709551615 || Nat.ble j.natAbs 18446744073709551615
def cDiv (_ j : Int) : Bool := Nat.ble 1 j.toNat && Nat.ble j.toNat 1073741823
def cPos (_ j : Int) : Bool := Nat.ble 1 j.toNat
def cPow (i j : Int) : Bool := decide (0 ≤ j) && (Nat.ble j.toNat 1000000 && Nat.ble i.natAbs 18446744073709551615)
abbrev gSub := gI2 (fun _ _ => true) fun i j => .int (i - j)
abbrev gMulI := gI2 cMul fun i j => .int (i * j)
abbrev gFdiv := gI2 cDiv fun i j => .int (i / j)
abbrev gMod := gI2 cPos fun i j => .int (i % j)
abbrev gPow := gI2 cPow fun i j => .int (i ^ j.toNat)
theorem simSub {k : Kx} : OpSim k (rI0 fun i j => V.int (i - j)) gSub := simI0 fun F i j => .int _
theorem simMulI {k : Kx} : OpSim k (rI CMul fun i j => V.int (i * j)) gMulI := simI2 (fun i j h => by simp [cMul] at h; unfold CMul; omega) fun F i j => .int _
theorem simFdiv {k : Kx} : OpSim k (rI CDiv fun i j => V.int (i / j)) gFdiv := simI2 (fun i j h => by simp [cDiv] at h; unfold CDiv; omega) fun F i j => .int _
theorem simMod {k : Kx} : OpSim k (rI (fun _ j => 0 < j) fun i j => V.int (i % j)) gMod := simI2 (fun i j h => by simp [cPos] at h; omega) fun F i j => .int _
theorem simPow {k : Kx} : OpSim k (rI CPow fun i j => V.int (i ^ j.toNat)) gPow := simI2 (fun i j h => by simp [cPow] at h; unfold CPow; omega) fun F i j => .int _
def gNeg : D → Option SV
  | .int i => some (.val (.int (-i)))
  | _ => none
theorem simNeg {k : Kx} : UnSim k (rU fun i => V.int (-i)) gNeg := by
  intro F ρ σ H x dx Q f rx h
  unfold gNeg at h
  split at h
  · exact ⟨_, rx.int, h _ F H (Aft.refl f) (.int _)⟩
  · exact h.elim
/-! is None -/
/-! a + b -/
def gAdd : D → D → Option SV
  | .int i, .int j => some (.val (.int (i + j)))
  | .list xs, .list ys => if xs.length + ys.length ≤ sizeLine then some (.own (.lst (xs ++ ys))) else none
  | .tuple xs, .tuple ys => if xs.length + ys.length ≤ sizeLine then some (.val (.tuple (xs ++ ys))) else none
  | .str x, .str y => if x.length + y.length ≤ sizeLine then some (.val (.str (x ++ y))) else none
  | _, _ => none
def rAddA (K : PySem.W.Frag) : R2 := fun x y H Q => (((rI0 fun i j => .int (i + j)) x y H Q ∨ rCat x y H Q) ∨ (rCatA K x y H Q)) ∨ (fun x y H Q => ∃ i j, x = V.str i ∧ y = .str j ∧ i.length + j.length ≤ sizeLine ∧ Q (.str (i ++ j)) H) x y H Q
theorem op_addA {X : Cx} : OpR X (binaryOp .Add) (rAddA X.K) := (((op_add.or op_cat).or op_catA).or op_add_str)
theorem simAdd {k : Kx} : OpSim k (rAddA k.K) gAdd := by
  intro F ρ σ H x y dx dy Q f rx ry h
  unfold gAdd at h
  split at h
  · exact .inl (.inl (.inl ⟨_, _, rx.int, ry.int, h _ F H (Aft.refl f) (.int _)⟩))
  · rename_i xs ys
    split at h
    · rename_i hz
      obtain ⟨a, vs, rfl, ha, ra⟩ := rx.lst f.sub
      obtain ⟨b, us, rfl, hb, rb⟩ := ry.lst f.sub
      refine .inl (.inl (.inr ⟨a, b, vs, us, rfl, rfl, ha, hb, by rw [ra.length, rb.length]; exact hz, fun p hp => ?_⟩))
      exact h _ F _ (Aft.newO f hp) ⟨p, _, rfl, hp, upd_same, f.sub.none_of hp, _, rfl, ra.append rb⟩
    · exact h.elim
  · rename_i xs ys
    split at h
    · rename_i hz
      obtain ⟨a, vs, rfl, ha', ha, ra⟩ := rx.tup f.sub
      obtain ⟨b, us, rfl, hb', hb, rb⟩ := ry.tup f.sub
      refine .inl (.inr ⟨a, b, vs, us, rfl, rfl, ha, hb, by rw [ra.length, rb.length]; exact hz, fun e => ?_, fun e1 e2 => ?_, fun e1 e2 p hp => ?_⟩)
      · subst e
        cases ra
        exact h _ F H (Aft.refl f) (Rep.tup hb' rb)
      · subst e2
        cases rb
        rw [List.append_nil] at h
        exact h _ F H (Aft.refl f) (Rep.tup ha' ra)
      · exact h _ _ _ (Aft.newF f hp) (Rep.tup upd_same ((ra.append rb).mono (Sub.upd (f.sub.none_of hp))))
    · exact h.elim
  · split at h
    · rename_i hz
      exact .inr ⟨_, _, rx.str, ry.str, hz, h _ F H (Aft.refl f) (.str _)⟩
    · exact h.elim
  · exact h.elim
/-! a[i] -/
def gIx : D → D → Option SV
  | .list xs, .int i => (atI xs i).map SV.val
  | .tuple xs, .int i => (atI xs i).map SV.val
  | .dict [(.bool true, .list xs)], .int i => (atI xs i).map SV.val
  | .dict [(.bool true, .tuple xs)], .int i => (atI xs i).map SV.val
  | _, _ => none
def rIxA (K : PySem.W.Frag) : R2 := fun x y H Q => rIxL K x y H Q ∨ rIxT K x y H Q
theorem ix_A {X : Cx} : IxR X (rIxA X.K) := ix_list.or ix_tup
theorem RepL.atI {k : Kx} {F : Hp} {vs : List V} {ds : List D} {i : Int} {d : D} (h : RepL k F vs ds) (e : L2.atI ds i = some d) : ∃ v, L2.atI vs i = some v ∧ Rep k F v d := by
  unfold L2.atI at e ⊢
  rw [h.length]
  cases e1 : ixN ds.length i with
  | none => rw [e1] at e; simp at e
  | some j =>
    rw [e1] at e
    exact h.get e
theorem simIx {k : Kx} : OpSim k (rIxA k.K) gIx := by
  intro F ρ σ H x y dx dy Q f rx ry h
  unfold gIx at h
  split at h
  · rename_i xs i
    obtain ⟨a, vs, rfl, ha, ra⟩ := rx.lst f.sub
    cases e : L2.atI xs i with
    | none => rw [e] at h; exact h.elim
    | some d =>
      rw [e] at h
      obtain ⟨v, e1, r1⟩ := ra.atI e
      exact .inl ⟨a, vs, i, v, rfl, ry.int, .inl (.inl ha), e1, h v F H (Aft.refl f) r1⟩
  · rename_i xs i
    obtain ⟨a, vs, rfl, _, ha, ra⟩ := rx.tup f.sub
    cases e : L2.atI xs i with
    | none => rw [e] at h; exact h.elim
    | some d =>
      rw [e] at h
      obtain ⟨v, e1, r1⟩ := ra.atI e
      exact .inr ⟨a, vs, i, v, rfl, ry.int, ha, e1, h v F H (Aft.refl f) r1⟩
  · rename_i xs i
    obtain ⟨a, vs, rfl, ha, ra⟩ := rx.fls f.sub
    cases e : L2.atI xs i with
    | none => rw [e] at h; exact h.elim
    | some d =>
      rw [e] at h
      obtain ⟨v, e1, r1⟩ := ra.atI e
      exact .inl ⟨a, vs, i, v, rfl, ry.int, ha, e1, h v F H (Aft.refl f) r1⟩
  · rename_i xs i
    obtain ⟨a, vs, rfl, _, ha, ra⟩ := rx.xtp f.sub
    cases e : L2.atI xs i with
    | none => rw [e] at h; exact h.elim
    | some d =>
      rw [e] at h
      obtain ⟨v, e1, r1⟩ := ra.atI e
      exact .inr ⟨a, vs, i, v, rfl, ry.int, ha, e1, h v F H (Aft.refl f) r1⟩
  · exact h.elim
end Pv

/-! Pv4: freezing, displays, truth, tests, statements. -/
namespace Pv
open PySem PySem.Spec PySem.SeqAt L2

/-! ### freezing -/
def frz1 (ρ : Rho) : Rv → Option (D × Rho)
  | .sv s => some (s.d, ρ)
  | .plc i => match ρ[i]? with
    | some (some (.own o)) => some (o.d, ρ.set i (some (.val o.d)))
    | some (some (.val d)) => some (d, ρ)
    | _ => none
def frzs : Rho → List Rv → Option (List D × Rho)
  | ρ, [] => some ([], ρ)
  | ρ, r :: rs => (frz1 ρ r).bind fun a => (frzs a.2 rs).bind fun b => some (a.1 :: b.1, b.2)
theorem RepO.rep {k : Kx} {F : Hp} {o : OB} {ho : HO} {p : Addr} (h : RepO k F p o ho) (e : ∃ o, F p = some o ∧ nlk o = nlk ho) : Rep k F (.ref p) o.d := by
  cases o with
  | lst xs =>
    obtain ⟨vs, rfl, r⟩ := h
    obtain ⟨o, e, z⟩ := e
    rw [nlk_fx z True.intro] at e
    exact .lst e r
  | ins c fs =>
    obtain ⟨C, ns, dx, vs, h1, rfl, h3, h4, r⟩ := h
    obtain ⟨o, e, z⟩ := e
    rw [nlk_fx z True.intro] at e
    exact .obj h1 e h3 h4 r
  | dct t ks ds =>
    obtain ⟨vs, rfl, h2, r⟩ := h
    obtain ⟨o, e, z⟩ := e
    refine .dct ?_ h2 r
    rcases nlk_dc z (by unfold hoD; split <;> trivial) with rfl | ⟨od, rfl⟩
    · exact .inl e
    · exact .inr ⟨od, e⟩
  | dcn ks ds =>
    obtain ⟨es, rfl, h2, r1, r2⟩ := h
    obtain ⟨o, e, z⟩ := e
    rw [nlk_fx z True.intro] at e
    exact .dcn e h2 r1 r2
section
variable {k : Kx} {ρ ρ0 ρ1 ρ2 : Rho} {σ : L2.St} {F H F0 H0 F1 H1 F2 H2 : Hp} {r : Rv} {v : V} {d : D}
theorem set_get {α : Type} {l : List α} {i j : Nat} {x y : α} (h : (l.set i x)[j]? = some y) : (j = i ∧ y = x ∧ i < l.length) ∨ (j ≠ i ∧ l[j]? = some y) := by
  by_cases e : j = i
  · subst e
    by_cases hl : j < l.length
    · rw [List.getElem?_set_self hl] at h; cases h; exact .inl ⟨rfl, rfl, hl⟩
    · rw [List.getElem?_eq_none (by simpa using hl)] at h; cases h
  · rw [List.getElem?_set_ne (Ne.symm e)] at h; exact .inr ⟨e, h⟩
theorem Own.set_val {i : Nat} {d : D} {p : Addr} (h : Own (ρ.set i (some (.val d))) σ p) : Own ρ σ p := by
  obtain ⟨j, o, e, e2⟩ := h
  rcases set_get e with ⟨_, h, _⟩ | ⟨_, h⟩
  · cases h
  · exact ⟨j, o, h, e2⟩
theorem FR.freeze (f : FR k F ρ σ H) {i : Nat} {o : OB} (e : ρ[i]? = some (some (.own o))) : ∃ p ho, σ[i]? = some (some (.ref p)) ∧ H p = some ho ∧ F p = none ∧ Rep k (upd F p ho) (.ref p) o.d ∧ FR k (upd F p ho) (ρ.set i (some (.val o.d))) σ H := by
  obtain ⟨p, ho, s, hp, n, ro⟩ := f.owns i o e
  have rp : Rep k (upd F p ho) (.ref p) o.d := RepO.rep (ro.mono (Sub.upd n)) ⟨_, upd_same, rfl⟩
  refine ⟨p, ho, s, hp, n, rp, fun a u q => ?_, by simpa using f.len, fun j d' q => ?_, fun j o' q => ?_, fun j l o1 o2 q e1 e2 e3 e4 => ?_, f.tabs⟩
  · by_cases ha : a = p
    · subst ha; rw [upd_same] at q; cases q; exact ⟨_, hp, rfl⟩
    · rw [upd_ne ha] at q; exact f.sub a u q
  · rcases set_get q with ⟨rfl, h, _⟩ | ⟨_, h⟩
    · cases h; exact ⟨_, s, rp⟩
    · obtain ⟨v, s', r'⟩ := f.vals j d' h
      exact ⟨v, s', r'.mono (Sub.upd n)⟩
  · rcases set_get q with ⟨_, h, _⟩ | ⟨nj, h⟩
    · cases h
    · obtain ⟨p', ho', s', hp', n', ro'⟩ := f.owns j o' h
      have ne : p' ≠ p := fun z => nj (f.dist j i o' o p h e (z ▸ s') s)
      exact ⟨p', ho', s', hp', by rw [upd_ne ne]; exact n', ro'.mono (Sub.upd n)⟩
  · rcases set_get e1 with ⟨_, h, _⟩ | ⟨_, h1⟩
    · cases h
    · rcases set_get e2 with ⟨_, h, _⟩ | ⟨_, h2⟩
      · cases h
      · exact f.dist j l o1 o2 q h1 h2 e3 e4
theorem FR.freezeT (f : FR k F ρ σ H) {p : Addr} {ho : HO} (hp : H p = some ho) (n : F p = none) (no : ¬ Own ρ σ p) : FR k (upd F p ho) ρ σ H := by
  refine ⟨fun a u q => ?_, f.len, fun j d' q => ?_, fun j o' q => ?_, f.dist, f.tabs⟩
  · by_cases ha : a = p
    · subst ha; rw [upd_same] at q; cases q; exact ⟨_, hp, rfl⟩
    · rw [upd_ne ha] at q; exact f.sub a u q
  · obtain ⟨v, s', r'⟩ := f.vals j d' q
    exact ⟨v, s', r'.mono (Sub.upd n)⟩
  · obtain ⟨p', ho', s', hp', n', ro'⟩ := f.owns j o' q
    have ne : p' ≠ p := fun z => no (z ▸ ⟨j, o', q, s'⟩)
    exact ⟨p', ho', s', hp', by rw [upd_ne ne]; exact n', ro'.mono (Sub.upd n)⟩
theorem slots_set {i : Nat} {d : D} : ∀ (j : Nat) (s : SV), ρ[j]? = some (some s) → ∃ s', (ρ.set i (some (SV.val d)))[j]? = some (some s') := fun j s h => by
  by_cases e : j = i
  · subst e
    exact ⟨_, List.getElem?_set_self (List.getElem?_eq_some_iff.mp h).1⟩
  · exact ⟨s, by rw [List.getElem?_set_ne (Ne.symm e)]; exact h⟩
theorem frz1_ok {ρ' : Rho} (f0 : FR k F0 ρ0 σ H0) (A : Aft k ρ0 σ F0 H0 ρ F H) (R : RR k H0 F ρ σ H r v) (e : frz1 ρ r = some (d, ρ')) :
    ∃ F', Aft k ρ0 σ F0 H0 ρ' F' H ∧ Sub F F' ∧ Rep k F' v d ∧ (∀ p, F p = none → F' p ≠ none → v = .ref p ∧ (H0 p ≠ none ∨ ∃ o, r = .sv (.own o))) ∧ (∀ (i : Nat) (s : SV), ρ[i]? = some (some s) → ∃ s', ρ'[i]? = some (some s')) := by
  match r, R with
  | .sv (.val d'), R =>
    simp only [frz1, Option.some.injEq, Prod.mk.injEq] at e
    obtain ⟨rfl, rfl⟩ := e
    exact ⟨F, A, Sub.refl _, R, fun p h1 h2 => absurd h1 h2, fun i s h => ⟨s, h⟩⟩
  | .sv (.own o), ⟨p, ho, e1, n, h1, n1, q⟩ =>
    simp only [frz1, Option.some.injEq, Prod.mk.injEq] at e
    obtain ⟨rfl, rfl⟩ := e
    subst e1
    have no : ¬ Own ρ σ p := fun z => by
      obtain ⟨u, hu⟩ := f0.own_some (A.ow p z)
      rw [n] at hu; cases hu
    have ff := A.fr.freezeT h1 n1 no
    refine ⟨upd F p ho, ⟨ff, ⟨A.tr.sub.trans (Sub.upd n1), A.tr.keep, fun a u e m f nI => ?_, A.tr.there⟩, A.ow, A.sl⟩, Sub.upd n1, RepO.rep (q.mono (Sub.upd n1)) ⟨_, upd_same, rfl⟩, fun a h1 h2 => ?_, fun i s h => ⟨s, h⟩⟩
    · have ne : a ≠ p := fun z => by subst z; rw [n] at e; cases e
      rw [upd_ne ne]; exact A.tr.new a u e m f nI
    · by_cases ha : a = p
      · subst ha; exact ⟨rfl, .inr ⟨o, rfl⟩⟩
      · rw [upd_ne ha] at h2; exact absurd h1 h2
  | .plc i, ⟨e1, s, h1⟩ =>
    cases s with
    | val d' =>
      simp only [frz1, h1, Option.some.injEq, Prod.mk.injEq] at e
      obtain ⟨rfl, rfl⟩ := e
      obtain ⟨v', h2, h3⟩ := A.fr.vals i d' h1
      rw [e1] at h2; cases h2
      exact ⟨F, A, Sub.refl _, h3, fun p h1 h2 => absurd h1 h2, fun i s h => ⟨s, h⟩⟩
    | own o =>
      simp only [frz1, h1, Option.some.injEq, Prod.mk.injEq] at e
      obtain ⟨rfl, rfl⟩ := e
      obtain ⟨p, ho, s, hp, n, rp, ff⟩ := A.fr.freeze h1
      rw [e1] at s; cases s
      have op : Own ρ σ p := ⟨i, o, h1, e1⟩
      refine ⟨upd F p ho, ⟨ff, ⟨A.tr.sub.trans (Sub.upd n), A.tr.keep, fun a u e m f nI => ?_, A.tr.there⟩, fun a z => A.ow a z.set_val, fun j s h => ?_⟩, Sub.upd n, rp, fun a h1 h2 => ?_, slots_set⟩
      · have ne : a ≠ p := fun z => nI (z ▸ A.ow p op)
        rw [upd_ne ne]; exact A.tr.new a u e m f nI
      · obtain ⟨s', h'⟩ := A.sl j s h
        exact slots_set j s' h'
      · by_cases ha : a = p
        · subst ha
          refine ⟨rfl, .inl ?_⟩
          obtain ⟨u, hu⟩ := f0.own_some (A.ow a op)
          rw [hu]; simp
        · rw [upd_ne ha] at h2; exact absurd h1 h2
theorem RRs.frz {ρ' : Rho} {F' : Hp} (sb : Sub F F') (sl : ∀ (i : Nat) (s : SV), ρ[i]? = some (some s) → ∃ s', ρ'[i]? = some (some s')) : ∀ {H1 : Hp} {rs : List Rv} {vs : List V}, RRs k F ρ σ H H1 rs vs → (∀ p, F p = none → F' p ≠ none → H1 p ≠ none) → RRs k F' ρ' σ H H1 rs vs
  | _, _, _, .nil, _ => .nil
  | _, _, _, .cons (r := r) a b c d, hf => by
    refine .cons ?_ (RRs.frz sb sl b fun p h1 h2 => c p (hf p h1 h2)) c d
    match r, a with
    | .sv (.val _), a => exact Rep.mono sb a
    | .sv (.own o), ⟨p, ho, e, n, h1, n1, q⟩ =>
      refine ⟨p, ho, e, n, h1, ?_, q.mono sb⟩
      cases z : F' p with
      | none => rfl
      | some u => exact absurd n (hf p n1 (by rw [z]; simp))
    | .plc i, ⟨e, s, h⟩ => exact ⟨e, sl i s h⟩
theorem frzs_ok (f0 : FR k F0 ρ0 σ H0) : ∀ {rs : List Rv} {vs : List V} {ρ ρ' : Rho} {F Hs : Hp} {ds : List D}, Aft k ρ0 σ F0 H0 ρ F H → (∀ p, H0 p ≠ none → Hs p ≠ none) → RRs k F ρ σ H Hs rs vs → frzs ρ rs = some (ds, ρ') →
    ∃ F', Aft k ρ0 σ F0 H0 ρ' F' H ∧ Sub F F' ∧ RepL k F' vs ds
  | [], _, _, _, F, _, _, A, _, .nil, e => by
    simp only [frzs, Option.some.injEq, Prod.mk.injEq] at e
    obtain ⟨rfl, rfl⟩ := e
    exact ⟨F, A, Sub.refl _, .nil⟩
  | r :: rs, v :: vs, ρ, ρ', F, Hs, ds, A, hs, .cons (H1 := H1) a b c d, e => by
    simp only [frzs, Option.bind_eq_some_iff] at e
    obtain ⟨x, e1, y, e2, e3⟩ := e
    cases e3
    have a' : RR k H0 F ρ σ H r v := by
      match r, a with
      | .sv (.val _), a => exact a
      | .sv (.own o), ⟨p, ho, e, n, q⟩ =>
        refine ⟨p, ho, e, ?_, q⟩
        cases z : H0 p with
        | none => rfl
        | some u => exact absurd n (hs p (by rw [z]; simp))
      | .plc i, h => exact h
    obtain ⟨F1, A1, s1, r1, n1, l1⟩ := frz1_ok f0 A a' e1
    have b' := RRs.frz s1 l1 b fun p h1 h2 => by
      obtain ⟨e5, z⟩ := n1 p h1 h2
      rcases z with z | ⟨o, z⟩
      · exact c p (hs p z)
      · obtain ⟨q, e6, h6⟩ := d o z
        rw [e5] at e6; cases e6; exact h6
    obtain ⟨F2, A2, s2, r2⟩ := frzs_ok f0 A1 (fun p h => c p (hs p h)) b' e2
    exact ⟨F2, A2, s1.trans s2, .cons (r1.mono s2) r2⟩
end
/-! ### displays -/
def evTup (ma : AM) : EM := fun ρ => (ma ρ).bind fun a => (frzs a.2 a.1).bind fun b => if b.1.length ≤ sizeLine then some (.sv (.val (.tuple b.1)), b.2) else none
def evLst (ma : AM) : EM := fun ρ => (ma ρ).bind fun a => (frzs a.2 a.1).bind fun b => if b.1.length ≤ sizeLine then some (.sv (.own (.lst b.1)), b.2) else none
theorem Aft.new {k : Kx} {ρ ρ' : Rho} {σ : L2.St} {F H F' H' : Hp} (A : Aft k ρ σ F H ρ' F' H') {p : Addr} {o : HO} (h : H' p = none) : Aft k ρ σ F H ρ' (upd F' p o) (upd H' p o) := A.trans (Aft.newF A.fr h)
theorem Aft.newOw {k : Kx} {ρ ρ' : Rho} {σ : L2.St} {F H F' H' : Hp} (A : Aft k ρ σ F H ρ' F' H') {p : Addr} {o : HO} (h : H' p = none) : Aft k ρ σ F H ρ' F' (upd H' p o) := A.trans (Aft.newO A.fr h)
theorem Aft.none_of {k : Kx} {ρ ρ' : Rho} {σ : L2.St} {F H F' H' : Hp} (A : Aft k ρ σ F H ρ' F' H') {p : Addr} (h : H' p = none) : H p = none := by
  cases z : H p with
  | none => rfl
  | some u => obtain ⟨u', hu'⟩ := A.tr.there p u z; rw [h] at hu'; cases hu'
theorem simTup {k : Kx} {ta : TA} {ma : AM} (ha : SimA k ta ma) : SimE k (tTup ta) (evTup ma) := by
  intro F ρ σ H Q f h
  unfold evTup at h
  refine ha F ρ σ H _ f ((wpo_bind.mp h).mono fun a _ h => ?_)
  intro vs F1 H1 A1 R1
  have h := wpo_bind.mp h
  cases e1 : frzs a.2 a.1 with
  | none => rw [e1] at h; exact h.elim
  | some b =>
    rw [e1] at h
    obtain ⟨F2, A2, s2, r2⟩ := frzs_ok f A1 (fun _ h => h) R1 e1
    have h : wpo (if b.1.length ≤ sizeLine then some (Rv.sv (.val (.tuple b.1)), b.2) else none) _ := h
    split at h
    · rename_i hz
      refine ⟨by rw [r2.length]; exact hz, fun p hp => ?_⟩
      exact h _ _ _ (A2.new hp) (Rep.tup upd_same (r2.mono (Sub.upd (A2.fr.sub.none_of hp))))
    · exact h.elim
theorem simLst {k : Kx} {ta : TA} {ma : AM} (ha : SimA k ta ma) : SimE k (tLst ta) (evLst ma) := by
  intro F ρ σ H Q f h
  unfold evLst at h
  refine ha F ρ σ H _ f ((wpo_bind.mp h).mono fun a _ h => ?_)
  intro vs F1 H1 A1 R1
  have h := wpo_bind.mp h
  cases e1 : frzs a.2 a.1 with
  | none => rw [e1] at h; exact h.elim
  | some b =>
    rw [e1] at h
    obtain ⟨F2, A2, s2, r2⟩ := frzs_ok f A1 (fun _ h => h) R1 e1
    have h : wpo (if b.1.length ≤ sizeLine then some (Rv.sv (.own (.lst b.1)), b.2) else none) _ := h
    split at h
    · rename_i hz
      refine ⟨by rw [r2.length]; exact hz, fun p hp => ?_⟩
      exact h _ _ _ (A2.newOw hp) ⟨p, _, rfl, A2.none_of hp, upd_same, A2.fr.sub.none_of hp, _, rfl, r2⟩
    · exact h.elim

/-! ### tests -/
abbrev TM := Rho → Option (Bool × Rho)
def SimT (k : Kx) (tt : TT) (m : TM) : Prop := ∀ (F : Hp) (ρ : Rho) (σ : L2.St) (H : Hp) (Q : Bool → Hp → Prop), FR k F ρ σ H →
  wpo (m ρ) (fun x => ∀ F' H', Aft k ρ σ F H x.2 F' H' → Q x.1 H') → tt σ H Q
def ST (k : Kx) (X : Cx) (e : Expr) (m : TM) : Prop := ∃ tt, PT X e tt ∧ SimT k tt m
def toB : D → Option Bool
  | .bool b => some b
  | _ => none
def tvB (ma : EM) : TM := fun ρ => (ma ρ).bind fun a => (rdD a.2 a.1).bind fun d => (toB d).bind fun b => some (b, a.2)
theorem simTvB {k : Kx} {ta : TE} {ma : EM} (ha : SimE k ta ma) : SimT k (fun σ H Q => ta σ H fun x H1 => ∃ c, x = .bl c ∧ Q c H1) (tvB ma) := by
  intro F ρ σ H Q f h
  unfold tvB at h
  refine ha F ρ σ H _ f ((wpo_bind.mp h).mono fun a _ h => ?_)
  intro v F1 H1 A1 R1
  have h := wpo_bind.mp h
  cases e1 : rdD a.2 a.1 with
  | none => rw [e1] at h; exact h.elim
  | some d =>
    rw [e1] at h
    have h := wpo_bind.mp h
    cases e2 : toB d with
    | none => rw [e2] at h; exact h.elim
    | some b =>
      rw [e2] at h
      have : d = .bool b := by cases d <;> simp [toB] at e2; rw [e2]
      subst this
      exact ⟨b, (R1.rd A1.fr e1).bl, h F1 H1 A1⟩
def tvNot (mt : TM) : TM := fun ρ => (mt ρ).bind fun a => some (!a.1, a.2)
theorem simTNot {k : Kx} {tt : TT} {mt : TM} (h : SimT k tt mt) : SimT k (L2.tNot tt) (tvNot mt) := by
  intro F ρ σ H Q f q
  unfold tvNot at q
  refine h F ρ σ H _ f ((wpo_bind.mp q).mono fun a _ q => ?_)
  intro F1 H1 A1
  exact q F1 H1 A1
def tvAnd (ma mb : TM) : TM := fun ρ => (ma ρ).bind fun a => if a.1 = true then mb a.2 else some (false, a.2)
def tvOr (ma mb : TM) : TM := fun ρ => (ma ρ).bind fun a => if a.1 = true then some (true, a.2) else mb a.2
theorem simTAnd {k : Kx} {ta tb : TT} {ma mb : TM} (ha : SimT k ta ma) (hb : SimT k tb mb) : SimT k (L2.tAnd ta tb) (tvAnd ma mb) := by
  intro F ρ σ H Q f q
  unfold tvAnd at q
  refine ha F ρ σ H _ f ((wpo_bind.mp q).mono fun a _ q => ?_)
  intro F1 H1 A1
  split at q
  · rename_i e
    rw [e]
    refine hb F1 a.2 σ H1 _ A1.fr (q.mono fun b _ q => ?_)
    intro F2 H2 A2
    exact q F2 H2 (A1.trans A2)
  · rename_i e
    have e : a.1 = false := by simpa using e
    rw [e]
    exact q F1 H1 A1
theorem simTOr {k : Kx} {ta tb : TT} {ma mb : TM} (ha : SimT k ta ma) (hb : SimT k tb mb) : SimT k (L2.tOr ta tb) (tvOr ma mb) := by
  intro F ρ σ H Q f q
  unfold tvOr at q
  refine ha F ρ σ H _ f ((wpo_bind.mp q).mono fun a _ q => ?_)
  intro F1 H1 A1
  split at q
  · rename_i e
    rw [e]
    exact q F1 H1 A1
  · rename_i e
    have e : a.1 = false := by simpa using e
    rw [e]
    refine hb F1 a.2 σ H1 _ A1.fr (q.mono fun b _ q => ?_)
    intro F2 H2 A2
    exact q F2 H2 (A1.trans A2)
/-! ### and, or, not, conditional expressions as values -/
def evAnd (ma mb : EM) : EM := fun ρ => (tvB ma ρ).bind fun a => if a.1 = true then mb a.2 else some (.sv (.val (.bool false)), a.2)
def evOr (ma mb : EM) : EM := fun ρ => (tvB ma ρ).bind fun a => if a.1 = true then some (.sv (.val (.bool true)), a.2) else mb a.2
def evNot (ma : EM) : EM := fun ρ => (tvB ma ρ).bind fun a => some (.sv (.val (.bool (!a.1))), a.2)
def evIf (mt : TM) (ma mb : EM) : EM := fun ρ => (mt ρ).bind fun a => if a.1 = true then ma a.2 else mb a.2
theorem simAnd {k : Kx} {ta tb : TE} {ma mb : EM} (ha : SimE k ta ma) (hb : SimE k tb mb) : SimE k (tAndV ta tb) (evAnd ma mb) := by
  intro F ρ σ H Q f q
  unfold evAnd at q
  refine simTvB ha F ρ σ H (fun c H1 => if c = true then tb σ H1 Q else Q (.bl false) H1) f ((wpo_bind.mp q).mono fun a _ q => ?_)
  intro F1 H1 A1
  split at q
  · rename_i e
    rw [if_pos e]
    refine hb F1 a.2 σ H1 _ A1.fr (q.mono fun b _ q => ?_)
    intro v F2 H2 A2 R2
    exact q v F2 H2 (A1.trans A2) (R2.back A1)
  · rename_i e
    rw [if_neg e]
    exact q _ F1 H1 A1 (.bl _)
theorem simOr {k : Kx} {ta tb : TE} {ma mb : EM} (ha : SimE k ta ma) (hb : SimE k tb mb) : SimE k (tOrV ta tb) (evOr ma mb) := by
  intro F ρ σ H Q f q
  unfold evOr at q
  refine simTvB ha F ρ σ H (fun c H1 => if c = true then Q (.bl true) H1 else tb σ H1 Q) f ((wpo_bind.mp q).mono fun a _ q => ?_)
  intro F1 H1 A1
  split at q
  · rename_i e
    rw [if_pos e]
    exact q _ F1 H1 A1 (.bl _)
  · rename_i e
    rw [if_neg e]
    refine hb F1 a.2 σ H1 _ A1.fr (q.mono fun b _ q => ?_)
    intro v F2 H2 A2 R2
    exact q v F2 H2 (A1.trans A2) (R2.back A1)
theorem simNot {k : Kx} {ta : TE} {ma : EM} (ha : SimE k ta ma) : SimE k (tNotV ta) (evNot ma) := by
  intro F ρ σ H Q f q
  unfold evNot at q
  refine simTvB ha F ρ σ H (fun c H1 => Q (.bl (!c)) H1) f ((wpo_bind.mp q).mono fun a _ q => ?_)
  intro F1 H1 A1
  exact q _ F1 H1 A1 (.bl _)
theorem simIf {k : Kx} {tt : TT} {ta tb : TE} {mt : TM} {ma mb : EM} (ht : SimT k tt mt) (ha : SimE k ta ma) (hb : SimE k tb mb) : SimE k (tIf tt ta tb) (evIf mt ma mb) := by
  intro F ρ σ H Q f q
  unfold evIf at q
  refine ht F ρ σ H _ f ((wpo_bind.mp q).mono fun a _ q => ?_)
  intro F1 H1 A1
  split at q
  · rename_i e
    rw [if_pos e]
    refine ha F1 a.2 σ H1 _ A1.fr (q.mono fun b _ q => ?_)
    intro v F2 H2 A2 R2
    exact q v F2 H2 (A1.trans A2) (R2.back A1)
  · rename_i e
    rw [if_neg e]
    refine hb F1 a.2 σ H1 _ A1.fr (q.mono fun b _ q => ?_)
    intro v F2 H2 A2 R2
    exact q v F2 H2 (A1.trans A2) (R2.back A1)
/-! chains a < b < c -/
def evChain (g g' : D → D → Option SV) (ma mb mc : EM) : EM := fun ρ => (ma ρ).bind fun a => (mb a.2).bind fun b => (rdD b.2 a.1).bind fun d1 => (rdD b.2 b.1).bind fun d2 => (g d1 d2).bind fun s => (toB s.d).bind fun c =>
  if c = true then (mc b.2).bind fun z => (rdD z.2 b.1).bind fun d2' => (rdD z.2 z.1).bind fun d3 => (g' d2' d3).bind fun s' => some (.sv s', z.2) else some (.sv (.val (.bool false)), b.2)
theorem simChain {k : Kx} {r r' : R2} {g g' : D → D → Option SV} {ta tb tc : TE} {ma mb mc : EM} (hr : OpSim k r g) (hr' : OpSim k r' g') (ha : SimE k ta ma) (hb : SimE k tb mb) (hc : SimE k tc mc) : SimE k (tChain r r' ta tb tc) (evChain g g' ma mb mc) := by
  intro F ρ σ H Q f h
  unfold evChain at h
  refine ha F ρ σ H _ f ((wpo_bind.mp h).mono fun a _ h => ?_)
  intro v F1 H1 A1 R1
  refine hb F1 a.2 σ H1 _ A1.fr ((wpo_bind.mp h).mono fun b _ h => ?_)
  intro u F2 H2 A2 R2
  have R1' := R1.step f A1 A2
  have R2' := R2.back A1
  have A12 := A1.trans A2
  have h := wpo_bind.mp h
  cases e1 : rdD b.2 a.1 with
  | none => rw [e1] at h; exact h.elim
  | some d1 =>
    rw [e1] at h
    have h := wpo_bind.mp h
    cases e2 : rdD b.2 b.1 with
    | none => rw [e2] at h; exact h.elim
    | some d2 =>
      rw [e2] at h
      refine hr F2 b.2 σ H2 v u d1 d2 _ A2.fr (R1'.rd A2.fr e1) (R2.rd A2.fr e2) ((wpo_bind.mp h).mono fun s _ h => ?_)
      intro z F3 H3 A3 R3
      have h := wpo_bind.mp h
      cases e3 : toB s.d with
      | none => rw [e3] at h; exact h.elim
      | some c =>
        rw [e3] at h
        have hs : s = .val (.bool c) := by
          cases s with
          | val d => cases d <;> simp [toB] at e3; rw [e3]
          | own o => cases o <;> simp [toB] at e3
        subst hs
        have hz : z = .bl c := by cases R3; rfl
        refine ⟨c, hz, ?_⟩
        have A123 := A12.trans A3
        have h : wpo (if c = true then (mc b.2).bind fun z => (rdD z.2 b.1).bind fun d2' => (rdD z.2 z.1).bind fun d3 => (g' d2' d3).bind fun s' => some (Rv.sv s', z.2) else some (.sv (.val (.bool false)), b.2)) _ := h
        by_cases ec : c = true
        · rw [if_pos ec] at h ⊢
          refine hc F3 b.2 σ H3 _ A3.fr ((wpo_bind.mp h).mono fun y _ h => ?_)
          intro w F4 H4 A4 R4
          have R2'' := R2'.step f A12 (A3.trans A4)
          have h := wpo_bind.mp h
          cases e4 : rdD y.2 b.1 with
          | none => rw [e4] at h; exact h.elim
          | some d4 =>
            rw [e4] at h
            have h := wpo_bind.mp h
            cases e5 : rdD y.2 y.1 with
            | none => rw [e5] at h; exact h.elim
            | some d5 =>
              rw [e5] at h
              refine hr' F4 y.2 σ H4 u w d4 d5 Q A4.fr (R2''.rd A4.fr e4) (R4.rd A4.fr e5) ((wpo_bind.mp h).mono fun s' _ h => ?_)
              intro x F5 H5 A5 R5
              exact h x F5 H5 ((A123.trans A4).trans A5) (R5.back (A123.trans A4))
        · rw [if_neg ec] at h ⊢
          exact h _ F3 H3 A123 (.bl _)
end Pv

/-! Pv5: statements, loops. -/
namespace Pv
open PySem PySem.Spec PySem.SeqAt L2

structure Ent where
  F : Hp
  H : Hp
  I : Addr → Prop
  pr : List (Nat × V)
structure SInv (k : Kx) (e : Ent) (ρ : Rho) (σ : L2.St) (F H : Hp) : Prop where
  fr : FR k F ρ σ H
  tr : Tr e.I e.F e.H F H
  ow : ∀ p, Own ρ σ p → e.I p ∨ e.H p = none
  pr : ∀ q ∈ e.pr, σ[q.1]? = some (some q.2)
inductive Fl where
  | nx | ret (r : Rv) | bk | ct
abbrev SM := Rho → Option (Fl × Rho)
abbrev excD (x : Str) (fs : List (Str × D)) : D := .dict ((.str x, .none) :: fs.map fun p => (.str p.1, p.2))
def ExcR (k : Kx) (F H : Hp) (x : Str) (fs : List (Str × D)) (cls : Value) (d : Option Addr) : Prop := ∃ vs : List V, cls = .ref (He.ga k.K x) ∧ RepL k F vs (fs.map (·.2)) ∧
  ((d = none ∧ fs = []) ∨ ∃ dd, fs ≠ [] ∧ d = some dd ∧ F dd = none ∧ H dd = some (.xd ((fs.map (·.1)).zip vs)))
def PostX (k : Kx) (e : Ent) (W : WX) (r : Rv) (ρ : Rho) : Prop := ∀ c fs, r = .sv (.val (excD c fs)) → ∀ cls d σ F H, SInv k e ρ σ F H → ExcR k F H c fs cls d → W cls d σ H
def Post (k : Kx) (e : Ent) (Wx : Option WX) (D : Ends) : Fl × Rho → Prop
  | (.nx, ρ) => ∀ σ F H, SInv k e ρ σ F H → D.nx σ H
  | (.ret r, ρ) => (∀ v σ F H, SInv k e ρ σ F H → RR k e.H F ρ σ H r v → D.rt v H) ∧ ∀ W, Wx = some W → PostX k e W r ρ
  | (.bk, ρ) => ∀ σ F H, SInv k e ρ σ F H → D.bk σ H
  | (.ct, ρ) => ∀ σ F H, SInv k e ρ σ F H → D.ct σ H
def SimS (k : Kx) (P : List Nat) (Wx : Option WX) (ts : TS) (m : SM) : Prop := ∀ (e : Ent) (ρ : Rho) (σ : L2.St) (F H : Hp) (D : Ends), (∀ q ∈ e.pr, q.1 ∈ P) → SInv k e ρ σ F H → wpo (m ρ) (Post k e Wx D) → ts D σ H
def SS (k : Kx) (P : List Nat) (Wx : Option WX) (X : Cx) (st : Stmt) (m : SM) : Prop := ∃ ts, PS X st ts ∧ SimS k P Wx ts m
def SSs (k : Kx) (P : List Nat) (Wx : Option WX) (X : Cx) (sts : List Stmt) (m : SM) : Prop := ∃ ts, PSs X sts ts ∧ SimS k P Wx ts m
section
variable {k : Kx} {P : List Nat} {Wx : Option WX} {e : Ent} {ρ ρ' : Rho} {σ : L2.St} {F H F' H' : Hp}
theorem SInv.aft (s : SInv k e ρ σ F H) (A : Aft k ρ σ F H ρ' F' H') : SInv k e ρ' σ F' H' :=
  ⟨A.fr, s.tr.trans A.tr s.ow, fun p h => s.ow p (A.ow p h), s.pr⟩
theorem SInv.back (s : SInv k e ρ σ F H) {r : Rv} {v : V} {ρ2 : Rho} {F2 H2 : Hp} (h : RR k H F2 ρ2 σ H2 r v) : RR k e.H F2 ρ2 σ H2 r v := by
  match r, h with
  | .sv (.val d), h => exact h
  | .sv (.own o), ⟨p, ho, e1, n, q⟩ =>
    refine ⟨p, ho, e1, ?_, q⟩
    cases z : e.H p with
    | none => rfl
    | some u =>
      obtain ⟨u', hu'⟩ := s.tr.there p u z
      rw [n] at hu'; cases hu'
  | .plc i, h => exact h

/-! ### storing to a slot -/
def stoS (P : List Nat) (i : Nat) (ρ : Rho) : Rv → Option Rho
  | .sv s => if i ∈ P then none else some (ρ.set i (some s))
  | .plc j => if i ∈ P then none else (frz1 ρ (.plc j)).bind fun a => some (a.2.set i (some (.val a.1)))
theorem get_set {α : Type} {l : List α} {i j : Nat} {x : α} (h : i ≠ j) : (l.set i x)[j]? = l[j]? := List.getElem?_set_ne h
theorem FR.setVal (f : FR k F ρ σ H) {i : Nat} {v : V} {d : D} (r : Rep k F v d) : FR k F (ρ.set i (some (.val d))) (σ.set i (some v)) H := by
  refine ⟨f.sub, by simpa using f.len, fun j d' q => ?_, fun j o' q => ?_, fun j l o1 o2 q e1 e2 e3 e4 => ?_, f.tabs⟩
  · rcases set_get q with ⟨rfl, h, hl⟩ | ⟨nj, h⟩
    · cases h; exact ⟨v, List.getElem?_set_self (f.len ▸ hl), r⟩
    · rw [get_set (Ne.symm nj)]; exact f.vals j d' h
  · rcases set_get q with ⟨_, h, _⟩ | ⟨nj, h⟩
    · cases h
    · rw [get_set (Ne.symm nj)]; exact f.owns j o' h
  · rcases set_get e1 with ⟨_, h, _⟩ | ⟨n1, h1⟩
    · cases h
    · rcases set_get e2 with ⟨_, h, _⟩ | ⟨n2, h2⟩
      · cases h
      · rw [get_set (Ne.symm n1)] at e3
        rw [get_set (Ne.symm n2)] at e4
        exact f.dist j l o1 o2 q h1 h2 e3 e4
theorem FR.setOwn (f : FR k F ρ σ H) {i : Nat} {p : Addr} {ho : HO} {o : OB} (hp : H p = some ho) (n : F p = none) (r : RepO k F p o ho) (no : ¬ Own ρ σ p) : FR k F (ρ.set i (some (.own o))) (σ.set i (some (.ref p))) H := by
  refine ⟨f.sub, by simpa using f.len, fun j d' q => ?_, fun j o' q => ?_, fun j l o1 o2 q e1 e2 e3 e4 => ?_, f.tabs⟩
  · rcases set_get q with ⟨_, h, _⟩ | ⟨nj, h⟩
    · cases h
    · rw [get_set (Ne.symm nj)]; exact f.vals j d' h
  · rcases set_get q with ⟨rfl, h, hl⟩ | ⟨nj, h⟩
    · cases h; exact ⟨p, ho, List.getElem?_set_self (f.len ▸ hl), hp, n, r⟩
    · rw [get_set (Ne.symm nj)]; exact f.owns j o' h
  · rcases set_get e1 with ⟨a1, b1, c1⟩ | ⟨n1, h1⟩
    · rcases set_get e2 with ⟨a2, b2, c2⟩ | ⟨n2, h2⟩
      · rw [a1, a2]
      · subst a1
        rw [List.getElem?_set_self (f.len ▸ c1)] at e3; cases e3
        rw [get_set (Ne.symm n2)] at e4
        exact absurd ⟨l, o2, h2, e4⟩ no
    · rcases set_get e2 with ⟨a2, b2, c2⟩ | ⟨n2, h2⟩
      · subst a2
        rw [List.getElem?_set_self (f.len ▸ c2)] at e4; cases e4
        rw [get_set (Ne.symm n1)] at e3
        exact absurd ⟨j, o1, h1, e3⟩ no
      · rw [get_set (Ne.symm n1)] at e3
        rw [get_set (Ne.symm n2)] at e4
        exact f.dist j l o1 o2 q h1 h2 e3 e4
theorem Own.of_setVal {i : Nat} {v : V} {d : D} {p : Addr} (h : Own (ρ.set i (some (.val d))) (σ.set i (some v)) p) : Own ρ σ p := by
  obtain ⟨j, o, e1, e2⟩ := h
  rcases set_get e1 with ⟨_, h, _⟩ | ⟨nj, h⟩
  · cases h
  · rw [get_set (Ne.symm nj)] at e2; exact ⟨j, o, h, e2⟩
theorem Own.of_setOwn {i : Nat} {q : Addr} {o : OB} {p : Addr} (h : Own (ρ.set i (some (.own o))) (σ.set i (some (.ref q))) p) : Own ρ σ p ∨ p = q := by
  obtain ⟨j, o', e1, e2⟩ := h
  rcases set_get e1 with ⟨rfl, h, _⟩ | ⟨nj, h⟩
  · rcases set_get e2 with ⟨_, h2, _⟩ | ⟨nn, _⟩
    · cases h2; exact .inr rfl
    · exact absurd rfl nn
  · rw [get_set (Ne.symm nj)] at e2; exact .inl ⟨j, o', h, e2⟩
theorem pr_set (hP : ∀ q ∈ e.pr, q.1 ∈ P) {i : Nat} {v : V} (hi : i ∉ P) (h : ∀ q ∈ e.pr, σ[q.1]? = some (some q.2)) : ∀ q ∈ e.pr, (σ.set i (some v))[q.1]? = some (some q.2) := fun q hq => by
  have ne : i ≠ q.1 := fun z => hi (z ▸ hP q hq)
  rw [get_set ne]; exact h q hq
theorem sto_ok (hP : ∀ q ∈ e.pr, q.1 ∈ P) (s : SInv k e ρ σ F H) {i : Nat} {r : Rv} {v : V} (R : RR k e.H F ρ σ H r v) (no : ∀ o, r = .sv (.own o) → ∀ p, v = .ref p → ¬ Own ρ σ p) (h : stoS P i ρ r = some ρ') :
    ∃ F', SInv k e ρ' (σ.set i (some v)) F' H ∧ Sub F F' := by
  match r, R with
  | .sv (.val d), R =>
    simp only [stoS] at h
    split at h
    · cases h
    · rename_i hi
      cases h
      exact ⟨F, ⟨s.fr.setVal R, s.tr, fun p z => s.ow p z.of_setVal, pr_set hP hi s.pr⟩, Sub.refl _⟩
  | .sv (.own o), ⟨p, ho, e1, n, h1, n1, q⟩ =>
    simp only [stoS] at h
    split at h
    · cases h
    · rename_i hi
      cases h
      subst e1
      refine ⟨F, ⟨s.fr.setOwn h1 n1 q (no o rfl p rfl), s.tr, fun a z => ?_, pr_set hP hi s.pr⟩, Sub.refl _⟩
      rcases z.of_setOwn with z | rfl
      · exact s.ow a z
      · exact .inr n
  | .plc j, ⟨e1, sv, h1⟩ =>
    simp only [stoS] at h
    split at h
    · cases h
    · rename_i hi
      obtain ⟨a, e2, e3⟩ := Option.bind_eq_some_iff.mp h
      cases e3
      obtain ⟨F1, A1, s1, r1, _⟩ := frz1_ok s.fr (Aft.refl s.fr) (r := .plc j) (v := v) ⟨e1, sv, h1⟩ e2
      have s' := s.aft A1
      exact ⟨F1, ⟨s'.fr.setVal r1, s'.tr, fun p z => s'.ow p z.of_setVal, pr_set hP hi s'.pr⟩, s1⟩
end

/-! ### statements -/
section
variable {k : Kx} {P : List Nat} {Wx : Option WX}
def exAsg (P : List Nat) (i : Nat) (me : EM) : SM := fun ρ => (me ρ).bind fun a => (stoS P i a.2 a.1).bind fun ρ' => some (.nx, ρ')
theorem simAsg {te : TE} {me : EM} {i : Nat} (he : SimE k te me) : SimS k P Wx (tAsg te (gName i)) (exAsg P i me) := by
  intro e ρ σ F H D hP s h
  unfold exAsg at h
  refine he F ρ σ H _ s.fr ((wpo_bind.mp h).mono fun a _ h => ?_)
  intro v F1 H1 A1 R1
  have h := wpo_bind.mp h
  cases e1 : stoS P i a.2 a.1 with
  | none => rw [e1] at h; exact h.elim
  | some ρ' =>
    rw [e1] at h
    have s1 := s.aft A1
    obtain ⟨F', s2, _⟩ := sto_ok hP s1 (s.back R1) (fun o ho p hp z => by
      rw [ho] at R1
      obtain ⟨q, _, e2, n, _⟩ := R1
      rw [hp] at e2; cases e2
      obtain ⟨u, hu⟩ := s.fr.own_some (A1.ow p z)
      rw [n] at hu; cases hu) e1
    exact h _ F' H1 s2
def exRet (me : EM) : SM := fun ρ => (me ρ).bind fun a => some (.ret a.1, a.2)
theorem simRet {te : TE} {me : EM} (he : SimE k te me) : SimS k P Wx (tRet te) (exRet me) := by
  intro e ρ σ F H D hP s h
  unfold exRet at h
  refine he F ρ σ H _ s.fr ((wpo_bind.mp h).mono fun a _ h => ?_)
  intro v F1 H1 A1 R1
  exact h.1 v σ F1 H1 (s.aft A1) (s.back R1)
def exRetN : SM := fun ρ => some (.ret (.sv (.val .none)), ρ)
def exExpr (me : EM) : SM := fun ρ => (me ρ).bind fun a => some (.nx, a.2)
theorem simExpr {te : TE} {me : EM} (he : SimE k te me) : SimS k P Wx (tDrop te) (exExpr me) := by
  intro e ρ σ F H D hP s h
  unfold exExpr at h
  refine he F ρ σ H _ s.fr ((wpo_bind.mp h).mono fun a _ h => ?_)
  intro v F1 H1 A1 R1
  exact h σ F1 H1 (s.aft A1)
def exPass : SM := fun ρ => some (.nx, ρ)
theorem simPass : SimS k P Wx tNext exPass := fun e ρ σ F H D hP s h => h σ F H s
def exBad : SM := fun _ => none
theorem simBad {ts : TS} : SimS k P Wx ts exBad := fun e ρ σ F H D hP s h => h.elim
def exSeq (m n : SM) : SM := fun ρ => (m ρ).bind fun a => match a.1 with
  | .nx => n a.2
  | fl => some (fl, a.2)
theorem simSeq {t u : TS} {m n : SM} (hm : SimS k P Wx t m) (hn : SimS k P Wx u n) : SimS k P Wx (tSeq t u) (exSeq m n) := by
  intro e ρ σ F H D hP s h
  unfold exSeq at h
  refine hm e ρ σ F H _ hP s ((wpo_bind.mp h).mono fun a _ h => ?_)
  obtain ⟨fl, ρ1⟩ := a
  cases fl with
  | nx => exact fun σ1 F1 H1 s1 => hn e ρ1 σ1 F1 H1 D hP s1 h
  | ret r => exact h
  | bk => exact h
  | ct => exact h
def exIf (mt : TM) (m n : SM) : SM := fun ρ => (mt ρ).bind fun a => if a.1 = true then m a.2 else n a.2
theorem simIfS {tt : TT} {t u : TS} {mt : TM} {m n : SM} (ht : SimT k tt mt) (hm : SimS k P Wx t m) (hn : SimS k P Wx u n) : SimS k P Wx (tIfS tt t u) (exIf mt m n) := by
  intro e ρ σ F H D hP s h
  unfold exIf at h
  refine ht F ρ σ H _ s.fr ((wpo_bind.mp h).mono fun a _ h => ?_)
  intro F1 H1 A1
  split at h
  · rename_i c
    rw [if_pos c]; exact hm e a.2 σ F1 H1 D hP (s.aft A1) h
  · rename_i c
    rw [if_neg c]; exact hn e a.2 σ F1 H1 D hP (s.aft A1) h
def kill (ks : List Nat) (ρ : Rho) : Rho := ks.foldl (fun ρ i => ρ.set i none) ρ
theorem FR.kill1 {F H : Hp} {ρ : Rho} {σ : L2.St} (f : FR k F ρ σ H) (i : Nat) : FR k F (ρ.set i none) σ H := by
  refine ⟨f.sub, by simpa using f.len, fun j d' q => ?_, fun j o' q => ?_, fun j l o1 o2 q e1 e2 e3 e4 => ?_, f.tabs⟩
  · rcases set_get q with ⟨_, h, _⟩ | ⟨nj, h⟩
    · cases h
    · exact f.vals j d' h
  · rcases set_get q with ⟨_, h, _⟩ | ⟨nj, h⟩
    · cases h
    · exact f.owns j o' h
  · rcases set_get e1 with ⟨_, h, _⟩ | ⟨n1, h1⟩
    · cases h
    · rcases set_get e2 with ⟨_, h, _⟩ | ⟨n2, h2⟩
      · cases h
      · exact f.dist j l o1 o2 q h1 h2 e3 e4
theorem Own.kill1 {ρ : Rho} {σ : L2.St} {i : Nat} {p : Addr} (h : Own (ρ.set i none) σ p) : Own ρ σ p := by
  obtain ⟨j, o, e1, e2⟩ := h
  rcases set_get e1 with ⟨_, h, _⟩ | ⟨nj, h⟩
  · cases h
  · exact ⟨j, o, h, e2⟩
theorem SInv.kill {e : Ent} {σ : L2.St} {F H : Hp} : ∀ (ks : List Nat) {ρ : Rho}, SInv k e ρ σ F H → SInv k e (kill ks ρ) σ F H
  | [], _, s => s
  | i :: ks, ρ, s => SInv.kill ks (ρ := ρ.set i none) ⟨s.fr.kill1 i, s.tr, fun p h => s.ow p h.kill1, s.pr⟩
def exKill (ks : List Nat) (m : SM) : SM := fun ρ => (m ρ).bind fun a => match a.1 with
  | .ret r => some (.ret r, a.2)
  | fl => some (fl, kill ks a.2)
theorem simKill {t : TS} {m : SM} (ks : List Nat) (hm : SimS k P Wx t m) : SimS k P Wx t (exKill ks m) := by
  intro e ρ σ F H D hP s h
  unfold exKill at h
  refine hm e ρ σ F H _ hP s ((wpo_bind.mp h).mono fun a _ h => ?_)
  obtain ⟨fl, ρ1⟩ := a
  cases fl with
  | nx => exact fun σ1 F1 H1 s1 => h σ1 F1 H1 (s1.kill ks)
  | ret r => exact h
  | bk => exact fun σ1 F1 H1 s1 => h σ1 F1 H1 (s1.kill ks)
  | ct => exact fun σ1 F1 H1 s1 => h σ1 F1 H1 (s1.kill ks)
/-! while -/
def exWhile (mt : TM) (mb : SM) : Nat → SM
  | 0, _ => none
  | n + 1, ρ => (mt ρ).bind fun a => if a.1 = true then (mb a.2).bind fun b => (match b.1 with
      | .nx => exWhile mt mb n b.2
      | .ct => exWhile mt mb n b.2
      | .bk => some (.nx, b.2)
      | .ret r => some (.ret r, b.2)) else some (.nx, a.2)
theorem simWhile {tt : TT} {tb : TS} {mt : TM} {mb : SM} (ht : SimT k tt mt) (hb : SimS k P Wx tb mb) (n : Nat) : SimS k P Wx (tWhile tt tb) (exWhile mt mb n) := by
  intro e ρ σ F H D hP s h
  refine ⟨fun m σ H => ∃ ρ F, SInv k e ρ σ F H ∧ wpo (exWhile mt mb m ρ) (Post k e Wx D), ⟨n, ρ, F, s, h⟩, ?_⟩
  rintro m σ H ⟨ρ, F, s, h⟩
  cases m with
  | zero => exact h.elim
  | succ m =>
    unfold exWhile at h
    refine ht F ρ σ H _ s.fr ((wpo_bind.mp h).mono fun a _ h => ?_)
    intro F1 H1 A1
    split at h
    · rename_i c
      rw [if_pos c]
      refine ⟨fun σ H => ∃ ρ F, SInv k e ρ σ F H ∧ wpo (exWhile mt mb m ρ) (Post k e Wx D), fun σ' H' ⟨ρ', F', s', h'⟩ => ⟨m, Nat.lt_succ_self m, ρ', F', s', h'⟩, ?_⟩
      refine hb e a.2 σ F1 H1 _ hP (s.aft A1) ((wpo_bind.mp h).mono fun b _ h => ?_)
      obtain ⟨fl, ρ1⟩ := b
      cases fl with
      | nx => exact fun σ1 F1 H1 s1 => ⟨ρ1, F1, s1, h⟩
      | ret r => exact h
      | bk => exact h
      | ct => exact fun σ1 F1 H1 s1 => ⟨ρ1, F1, s1, h⟩
    · rename_i c
      rw [if_neg c]
      exact h σ F1 H1 (s.aft A1)
end
end Pv

/-! Pv6: what is walked; for; comprehensions. -/
namespace Pv
open PySem PySem.Spec PySem.SeqAt L2

/-! ### a list or a tuple -/
def iSeq (K : PySem.W.Frag) (tl : TE) : TI := fun σ H R => tl σ H fun x H1 => (∃ a, x = .ref a ∧ (∃ xs, SqL K H1 a xs) ∧ R (Itl K a) H1) ∨ (∃ a, x = .ref a ∧ (∃ xs, SqT K H1 a xs) ∧ R (Itt K a) H1)
theorem pi_seq {X : Cx} {tg l : Expr} {tl : TE} (hl : PE X l tl) : PI X tg l (iSeq X.K tl) := by
  constructor
  intro pins s σ H R I w
  refine thn (hl.run pins s σ H _ I w) fun u t g => ?_
  obtain ⟨x, G, J, rx, ⟨a, ea, ⟨xs, ha⟩, w⟩ | ⟨a, ea, ⟨xs, ha⟩, w⟩⟩ := g
  · subst ea
    obtain rfl : u = Value.ref a := rx
    obtain ⟨_, _, hp, _⟩ := J.list ha
    exact wpAny_pyIter_list hp.isList (pi_one (tk := t.toks) J _ (turn_list a _) ⟨_, Heap.get?_push_size _ rfl, rfl, rfl⟩ w)
  · subst ea
    obtain rfl : u = Value.ref a := rx
    obtain ⟨us, _, hp, _⟩ := J.tuple ha
    exact wpAny_pyIter_tuple (items := us.toArray) hp (pi_one (tk := t.toks) J _ (turn_tuple a _) ⟨_, Heap.get?_push_size _ rfl, rfl, rfl⟩ w)

/-! ### walks give data -/
def LkK (F H H' : Hp) : Prop := ∀ a od u, F a ≠ none → H a = some (.frz od u) → H' a = some (.frz od u)
def YOk (k : Kx) (F H : Hp) (x : V) (H' : Hp) (d : D) : Prop := (H' = H ∧ Rep k F x d) ∨ (∃ T o, H T = none ∧ H' = upd H T o ∧ Rep k (upd F T o) x d) ∨ (∃ T ws, H' = H ∧ H T = some (.tup ws) ∧ Rep k (upd F T (.tup ws)) x d) ∨ ∃ q qs T o, H q = some (.tup qs) ∧ H T = none ∧ H' = upd H T o ∧ Rep k (upd (upd F q (.tup qs)) T o) x d
theorem FR.adm {k : Kx} {F : Hp} {ρ : Rho} {σ : L2.St} {H : Hp} (f : FR k F ρ σ H) {T : Addr} {ws : List V} (h : H T = some (.tup ws)) : Sub F (upd F T (.tup ws)) ∧ FR k (upd F T (.tup ws)) ρ σ H := by
  have sb : Sub F (upd F T (.tup ws)) := fun a o e => by
    by_cases ha : a = T
    · subst ha
      obtain ⟨o', e', z⟩ := f.sub a o e
      rw [h] at e'; cases e'
      exact ⟨_, upd_same, z⟩
    · exact ⟨o, by rw [upd_ne ha]; exact e, rfl⟩
  refine ⟨sb, fun a o e => ?_, f.len, fun i d e => let ⟨v, q, r⟩ := f.vals i d e; ⟨v, q, r.mono sb⟩, fun i o e => ?_, f.dist, f.tabs⟩
  · by_cases ha : a = T
    · subst ha; rw [upd_same] at e; cases e; exact ⟨_, h, rfl⟩
    · rw [upd_ne ha] at e; exact f.sub a o e
  · obtain ⟨p, ho, q, hp, n, r⟩ := f.owns i o e
    have ne : p ≠ T := fun z => by
      subst z; rw [h] at hp; cases hp; exact r.nt.elim
    exact ⟨p, ho, q, hp, by rw [upd_ne ne]; exact n, r.mono sb⟩
theorem Aft.adm {k : Kx} {F : Hp} {ρ : Rho} {σ : L2.St} {H : Hp} (f : FR k F ρ σ H) {T : Addr} {ws : List V} (h : H T = some (.tup ws)) : Aft k ρ σ F H ρ (upd F T (.tup ws)) H :=
  ⟨(f.adm h).2, ⟨(f.adm h).1, fun _ _ e _ _ => e, fun p o e m n _ => by
    have ne : p ≠ T := fun z => by subst z; rw [h] at e; cases e; exact m.elim
    rw [upd_ne ne]; exact n, fun p o e => ⟨o, e⟩⟩, fun _ h => h, fun _ s h => ⟨s, h⟩⟩
theorem YOk.aft {k : Kx} {F : Hp} {ρ : Rho} {σ : L2.St} {H H' : Hp} {x : V} {d : D} (y : YOk k F H x H' d) (f : FR k F ρ σ H) : ∃ F', Aft k ρ σ F H ρ F' H' ∧ Rep k F' x d := by
  rcases y with ⟨rfl, r⟩ | ⟨T, o, n, rfl, r⟩ | ⟨T, ws, rfl, e, r⟩ | ⟨q, qs, T, o, e, n, rfl, r⟩
  · exact ⟨F, Aft.refl f, r⟩
  · exact ⟨_, Aft.newF f n, r⟩
  · exact ⟨_, Aft.adm f e, r⟩
  · exact ⟨_, (Aft.adm f e).trans (Aft.newF (f.adm e).2 n), r⟩
structure WalkD (k : Kx) (J : It) (F : Hp) (ds : List D) : Prop where
  w : ∃ G Y, Walk J ds.length G Y ∧ (∀ F' H', Sub F F' → Sub F' H' → G H') ∧
    ∀ (i : Nat) (d : D) (F' H' : Hp) (x : V) (H'' : Hp), ds[i]? = some d → Sub F F' → Sub F' H' → Y i H' x H'' → YOk k F' H' x H'' d
structure WalkL (k : Kx) (J : It) (F H : Hp) (ds : List D) : Prop where
  w : ∃ G Y, Walk J ds.length G Y ∧ (∀ F' H', Sub F F' → Sub F' H' → LkK F H H' → G H') ∧
    ∀ (i : Nat) (d : D) (F' H' : Hp) (x : V) (H'' : Hp), ds[i]? = some d → Sub F F' → Sub F' H' → LkK F H H' → Y i H' x H'' → YOk k F' H' x H'' d
theorem WalkD.l {k : Kx} {J : It} {F H : Hp} {ds : List D} (w : WalkD k J F ds) : WalkL k J F H ds :=
  let ⟨G, Y, a, b, c⟩ := w.w
  ⟨G, Y, a, fun F' H' s1 s2 _ => b F' H' s1 s2, fun i d F' H' x H'' e s1 s2 _ y => c i d F' H' x H'' e s1 s2 y⟩
abbrev IM := Rho → Option (List D × Rho)
def SimI (k : Kx) (wi : TI) (m : IM) : Prop := ∀ (F : Hp) (ρ : Rho) (σ : L2.St) (H : Hp) (R : It → Hp → Prop), FR k F ρ σ H →
  wpo (m ρ) (fun x => ∀ J F' H', Aft k ρ σ F H x.2 F' H' → WalkD k J F' x.1 → R J H') → wi σ H R
def seqD : D → Option (List D)
  | .list xs => some xs
  | .tuple xs => some xs
  | .dict [(.bool true, .list xs)] => some xs
  | .dict [(.bool true, .tuple xs)] => some xs
  | _ => none
def ivSeq (me : EM) : IM := fun ρ => (me ρ).bind fun a => (frz1 a.2 a.1).bind fun b => (seqD b.1).bind fun xs => some (xs, b.2)
theorem walkD_list {k : Kx} {F : Hp} {a : Addr} {vs : List V} {xs : List D} (h : SqL k.K F a vs) (r : RepL k F vs xs) : WalkD k (Itl k.K a) F xs := by
  refine ⟨fun H => SqL k.K H a vs, YAt vs, r.length ▸ walk_list, fun F' H' s1 s2 => s2.sqL (s1.sqL h), fun i d F' H' x H'' e s1 s2 y => .inl ⟨y.1, ?_⟩⟩
  obtain ⟨v, e1, r1⟩ := r.get e
  rw [y.2] at e1; cases e1
  exact r1.mono s1
theorem walkD_tup {k : Kx} {F : Hp} {a : Addr} {vs : List V} {xs : List D} (h : SqT k.K F a vs) (r : RepL k F vs xs) : WalkD k (Itt k.K a) F xs := by
  refine ⟨fun H => SqT k.K H a vs, YAt vs, r.length ▸ walk_tup, fun F' H' s1 s2 => s2.sqT (s1.sqT h), fun i d F' H' x H'' e s1 s2 y => .inl ⟨y.1, ?_⟩⟩
  obtain ⟨v, e1, r1⟩ := r.get e
  rw [y.2] at e1; cases e1
  exact r1.mono s1
theorem simSeqI {k : Kx} {tl : TE} {me : EM} (he : SimE k tl me) : SimI k (iSeq k.K tl) (ivSeq me) := by
  intro F ρ σ H R f h
  unfold ivSeq at h
  refine he F ρ σ H _ f ((wpo_bind.mp h).mono fun a _ h => ?_)
  intro v F1 H1 A1 R1
  have h := wpo_bind.mp h
  cases e1 : frz1 a.2 a.1 with
  | none => rw [e1] at h; exact h.elim
  | some b =>
    rw [e1] at h
    obtain ⟨F2, A2, s2, r2, _⟩ := frz1_ok f A1 R1 e1
    have h := wpo_bind.mp h
    obtain ⟨d, ρ2⟩ := b
    dsimp only at h r2 A2
    unfold seqD at h
    split at h
    · cases r2 with
      | lst h2 r3 => exact .inl ⟨_, rfl, ⟨_, .inl (.inl (A2.fr.sub.ex h2))⟩, h _ F2 H1 A2 (walkD_list (.inl (.inl h2)) r3)⟩
    · cases r2 with
      | tup h2 r3 => exact .inr ⟨_, rfl, ⟨_, A2.fr.sub.sqT (SqT.of h2)⟩, h _ F2 H1 A2 (walkD_tup (SqT.of h2) r3)⟩
    · cases r2 with
      | fls h2 r3 => exact .inl ⟨_, rfl, ⟨_, A2.fr.sub.sqL h2.sq⟩, h _ F2 H1 A2 (walkD_list h2.sq r3)⟩
    · cases r2 with
      | xt h2 r3 => exact .inr ⟨_, rfl, ⟨_, A2.fr.sub.sqT h2.sqT⟩, h _ F2 H1 A2 (walkD_tup h2.sqT r3)⟩
    · exact h.elim
/-! range -/
def rngD (lo : Int) (n : Nat) : List D := (List.range n).map fun (i : Nat) => .int (lo + (i : Int))
theorem walkD_range {k : Kx} {F : Hp} {lo : Int} {n : Nat} : WalkD k (Itr lo n) F (rngD lo n) := by
  have hl : (rngD lo n).length = n := by simp [rngD]
  refine ⟨fun _ => True, YFn fun i => .int (lo + i), by rw [hl]; exact walk_range, fun _ _ _ _ => trivial, fun i d F' H' x H'' e s1 s2 y => .inl ⟨y.1, ?_⟩⟩
  rw [y.2]
  have hi : i < n := by
    have := (List.getElem?_eq_some_iff.mp e).1
    omega
  simp [rngD, hi] at e
  rw [← e]
  exact .int _
def big62 (i : Int) : Bool := Nat.ble i.natAbs 4611686018427387903
theorem big62_ok {i : Int} (h : big62 i = true) : -(2 ^ 62) ≤ i ∧ i < 2 ^ 62 := by
  simp [big62] at h
  omega
def rng1 : List D → Option (List D)
  | [.int j] => if big62 j = true then some (rngD 0 j.toNat) else none
  | _ => none
def rng2 : List D → Option (List D)
  | [.int i, .int j] => if (big62 i && big62 j) = true then some (rngD i (j - i).toNat) else none
  | _ => none
def ivArgs (g : List D → Option (List D)) (ma : AM) : IM := fun ρ => (ma ρ).bind fun a => (rdAll a.2 a.1).bind fun ds => (g ds).bind fun xs => some (xs, a.2)
theorem simRng1 {k : Kx} {ta : TA} {ma : AM} (ha : SimA k ta ma) : SimI k (iRng1 ta) (ivArgs rng1 ma) := by
  intro F ρ σ H R f h
  unfold ivArgs at h
  refine ha F ρ σ H _ f ((wpo_bind.mp h).mono fun a _ h => ?_)
  intro vs F1 H1 A1 R1
  have h := wpo_bind.mp h
  cases e1 : rdAll a.2 a.1 with
  | none => rw [e1] at h; exact h.elim
  | some ds =>
    rw [e1] at h
    have rd := R1.rd A1.fr e1
    replace h : wpo (rng1 ds) _ := wpo_bind.mp h
    unfold rng1 at h
    split at h
    · rename_i j
      split at h
      · rename_i hb
        replace hb := big62_ok hb
        cases rd with
        | cons r1 r2 =>
          cases r2
          rw [r1.int]
          exact ⟨j, rfl, hb.1, hb.2, h _ F1 H1 A1 walkD_range⟩
      · exact h.elim
    · exact h.elim
theorem simRng2 {k : Kx} {ta : TA} {ma : AM} (ha : SimA k ta ma) : SimI k (iRng2 ta) (ivArgs rng2 ma) := by
  intro F ρ σ H R f h
  unfold ivArgs at h
  refine ha F ρ σ H _ f ((wpo_bind.mp h).mono fun a _ h => ?_)
  intro vs F1 H1 A1 R1
  have h := wpo_bind.mp h
  cases e1 : rdAll a.2 a.1 with
  | none => rw [e1] at h; exact h.elim
  | some ds =>
    rw [e1] at h
    have rd := R1.rd A1.fr e1
    replace h : wpo (rng2 ds) _ := wpo_bind.mp h
    unfold rng2 at h
    split at h
    · rename_i i j
      split at h
      · rename_i hb
        rw [Bool.and_eq_true] at hb
        replace hb := And.intro (big62_ok hb.1) (big62_ok hb.2)
        cases rd with
        | cons r1 r2 =>
          cases r2 with
          | cons r2 r3 =>
            cases r3
            rw [r1.int, r2.int]
            exact ⟨i, j, rfl, ⟨hb.1.1, hb.1.2, hb.2.1, hb.2.2⟩, h _ F1 H1 A1 walkD_range⟩
      · exact h.elim
    · exact h.elim

/-! ### targets -/
abbrev GM := D → Rho → Option Rho
def Sls (ρ ρ' : Rho) : Prop := ∀ (i : Nat) (s : SV), ρ[i]? = some (some s) → ∃ s', ρ'[i]? = some (some s')
def Agr (ts : List Nat) (σ σ' : L2.St) : Prop := σ'.length = σ.length ∧ ∀ j : Nat, j ∉ ts → σ'[j]? = σ[j]?
def SimG (k : Kx) (P ts : List Nat) (g : TG) (m : GM) : Prop := ∀ (e : Ent) (ρ : Rho) (σ : L2.St) (F H : Hp) (v : V) (d : D) (Q : L2.St → Hp → Prop), (∀ q ∈ e.pr, q.1 ∈ P) → SInv k e ρ σ F H → Rep k F v d →
  wpo (m d ρ) (fun ρ' => ∀ σ', SInv k e ρ' σ' F H → Agr ts σ σ' → (∀ p, Own ρ' σ' p → Own ρ σ p) → Sls ρ ρ' → Q σ' H) → g v σ H Q
def tgName (P : List Nat) (i : Nat) : GM := fun d ρ => if i ∈ P then none else some (ρ.set i (some (.val d)))
theorem simGName {k : Kx} {P : List Nat} {i : Nat} : SimG k P [i] (gName i) (tgName P i) := by
  intro e ρ σ F H v d Q hP s r h
  unfold tgName at h
  split at h
  · exact h.elim
  · rename_i hi
    exact h _ ⟨s.fr.setVal r, s.tr, fun p z => s.ow p z.of_setVal, pr_set hP hi s.pr⟩ ⟨by simp, fun j hj => get_set fun z => hj (by simp [z])⟩ (fun p z => z.of_setVal) slots_set
abbrev GsM := List D → Rho → Option Rho
def SimGs (k : Kx) (P ts : List Nat) (g : TGs) (m : GsM) : Prop := ∀ (e : Ent) (ρ : Rho) (σ : L2.St) (F H : Hp) (vs : List V) (ds : List D) (Q : L2.St → Hp → Prop), (∀ q ∈ e.pr, q.1 ∈ P) → SInv k e ρ σ F H → RepL k F vs ds →
  wpo (m ds ρ) (fun ρ' => ∀ σ', SInv k e ρ' σ' F H → Agr ts σ σ' → (∀ p, Own ρ' σ' p → Own ρ σ p) → Sls ρ ρ' → Q σ' H) → g vs σ H Q
def tgNil : GsM := fun ds ρ => match ds with
  | [] => some ρ
  | _ => none
def tgCons (m : GM) (n : GsM) : GsM := fun ds ρ => match ds with
  | d :: r => (m d ρ).bind fun ρ1 => n r ρ1
  | [] => none
theorem simGsNil {k : Kx} {P : List Nat} : SimGs k P [] gNil tgNil := by
  intro e ρ σ F H vs ds Q hP s r h
  unfold tgNil at h
  cases r with
  | nil => exact ⟨rfl, h σ s ⟨rfl, fun _ _ => rfl⟩ (fun _ z => z) fun _ s h => ⟨s, h⟩⟩
  | cons => exact h.elim
theorem simGsCons {k : Kx} {P ts us : List Nat} {g : TG} {u : TGs} {m : GM} {n : GsM} (h1 : SimG k P ts g m) (h2 : SimGs k P us u n) : SimGs k P (ts ++ us) (gCons g u) (tgCons m n) := by
  intro e ρ σ F H vs ds Q hP s r h
  unfold tgCons at h
  cases r with
  | nil => exact h.elim
  | cons r1 r2 =>
    refine ⟨_, _, rfl, h1 e ρ σ F H _ _ _ hP s r1 ((wpo_bind.mp h).mono fun ρ1 _ h => ?_)⟩
    intro σ' s' a1 o1 l1
    refine h2 e ρ1 σ' F H _ _ Q hP s' r2 (h.mono fun ρ2 _ h => ?_)
    intro σ2 s2 a2 o2 l2
    exact h σ2 s2 ⟨a2.1.trans a1.1, fun j hj => (a2.2 j fun z => hj (List.mem_append_right _ z)).trans (a1.2 j fun z => hj (List.mem_append_left _ z))⟩ (fun p z => o1 p (o2 p z)) fun i s h => let ⟨s', h'⟩ := l1 i s h; l2 i s' h'
def tgTup (n : Nat) (m : GsM) : GM := fun d ρ => match d with
  | .tuple xs => if xs.length = n then m xs ρ else none
  | _ => none
theorem simGTup {k : Kx} {P ts : List Nat} {n : Nat} {g : TGs} {m : GsM} (h1 : SimGs k P ts g m) : SimG k P ts (gTup k.K n g) (tgTup n m) := by
  intro e ρ σ F H v d Q hP s r h
  unfold tgTup at h
  split at h
  · split at h
    · rename_i hl
      cases r with
      | tup h2 r3 => exact ⟨_, _, rfl, s.fr.sub.sqT (SqT.of h2), by rw [r3.length]; exact hl, h1 e ρ σ F H _ _ Q hP s r3 h⟩
    · exact h.elim
  · exact h.elim

/-! ### for -/
def goFor (mg : GM) (mb : SM) : List D → SM
  | [], ρ => some (.nx, ρ)
  | d :: ds, ρ => (mg d ρ).bind fun ρ1 => (mb ρ1).bind fun b => (match b.1 with
      | .nx => goFor mg mb ds b.2
      | .ct => goFor mg mb ds b.2
      | .bk => some (.nx, b.2)
      | .ret r => some (.ret r, b.2))
def exFor (mi : IM) (mg : GM) (mb : SM) : SM := fun ρ => (mi ρ).bind fun a => goFor mg mb a.1 a.2
theorem SInv.newF {k : Kx} {e : Ent} {ρ : Rho} {σ : L2.St} {F H : Hp} {T : Addr} {o : HO} (s : SInv k e ρ σ F H) (h : H T = none) : SInv k e ρ σ (upd F T o) (upd H T o) := s.aft (Aft.newF s.fr h)
abbrev Ent.new (e : Ent) (ρ : Rho) (σ : L2.St) (F H : Hp) : Ent := ⟨F, H, Own ρ σ, e.pr⟩
section
variable {k : Kx} {e : Ent} {ρ ρ' : Rho} {σ σ' : L2.St} {F H F' H' : Hp}
theorem SInv.fresh (s : SInv k e ρ σ F H) : SInv k (e.new ρ σ F H) ρ σ F H := ⟨s.fr, Tr.refl, fun p h => .inl h, s.pr⟩
theorem SInv.unfresh (s : SInv k e ρ σ F H) (s' : SInv k (e.new ρ σ F H) ρ' σ' F' H') : SInv k e ρ' σ' F' H' :=
  ⟨s'.fr, s.tr.trans s'.tr s.ow, fun p h => (s'.ow p h).elim (s.ow p) fun z => .inr (by
    cases q : e.H p with
    | none => rfl
    | some u => obtain ⟨u', hu⟩ := s.tr.there p u q; exact absurd hu (by rw [show H p = none from z]; simp)), s'.pr⟩
theorem SInv.backR (s : SInv k e ρ σ F H) {r : Rv} {v : V} (h : RR k H F' ρ' σ' H' r v) : RR k e.H F' ρ' σ' H' r v := by
  match r, h with
  | .sv (.val d), h => exact h
  | .sv (.own o), ⟨p, ho, e1, n, q⟩ =>
    refine ⟨p, ho, e1, ?_, q⟩
    cases z : e.H p with
    | none => rfl
    | some u => obtain ⟨u', hu'⟩ := s.tr.there p u z; rw [n] at hu'; cases hu'
  | .plc i, h => exact h
theorem Post.fresh (s : SInv k e ρ σ F H) {Wx : Option WX} {D : Ends} : ∀ {x : Fl × Rho}, Post k e Wx D x → Post k (e.new ρ σ F H) Wx D x
  | (.nx, _), h => fun σ' F' H' s' => h σ' F' H' (s.unfresh s')
  | (.ret _, _), h => ⟨fun v σ' F' H' s' r => h.1 v σ' F' H' (s.unfresh s') (s.backR r), fun W hW c fs er cls d σ' F' H' s' x => h.2 W hW c fs er cls d σ' F' H' (s.unfresh s') x⟩
  | (.bk, _), h => fun σ' F' H' s' => h σ' F' H' (s.unfresh s')
  | (.ct, _), h => fun σ' F' H' s' => h σ' F' H' (s.unfresh s')
end
theorem simFor_at {k : Kx} {P ts : List Nat} {Wx : Option WX} {wi : TI} {g : TG} {tb : TS} {mi : IM} {mg : GM} {mb : SM} (hg : SimG k P ts g mg) (hb : SimS k P Wx tb mb) {e : Ent} {ρ : Rho} {σ : L2.St} {F H : Hp} {D : Ends} (hP : ∀ q ∈ e.pr, q.1 ∈ P) (s : SInv k e ρ σ F H)
    (hi : ∀ R : It → Hp → Prop, wpo (mi ρ) (fun x => ∀ J F' H', Aft k ρ σ F H x.2 F' H' → WalkL k J F' H' x.1 → R J H') → wi σ H R) (h : wpo (exFor mi mg mb ρ) (Post k e Wx D)) : tFor wi g tb D σ H := by
  unfold exFor at h
  refine hi _ ((wpo_bind.mp h).mono fun a _ h => ?_)
  intro J F1 H1 A1 W
  obtain ⟨G, Y, w, hG, hY⟩ := W.w
  have s0 : SInv k e a.2 σ F1 H1 := s.aft A1
  let e0 : Ent := e.new a.2 σ F1 H1
  have lk : ∀ {ρ' : Rho} {σ' : L2.St} {F' H' : Hp}, SInv k e0 ρ' σ' F' H' → LkK F1 H1 H' := fun {ρ' σ' F' H'} s' b od u h1 h2 => s'.tr.keep b _ h2 trivial fun z => h1 (s0.fr.own_none z)
  refine for_it w (fun i σ H => ∃ ρ F, SInv k e0 ρ σ F H ∧ wpo (goFor mg mb (a.1.drop i) ρ) (Post k e0 Wx D)) ⟨a.2, F1, s0.fresh, h.mono fun _ _ => Post.fresh s0⟩ (fun i σ H hi ⟨ρ, F, s', _⟩ => hG F H s'.tr.sub s'.fr.sub (lk s')) ?_ ?_
  · rintro i x σ H H' hi ⟨ρ, F, s', h⟩ y
    have e1 : a.1[i]? = some a.1[i] := List.getElem?_eq_getElem hi
    rw [List.drop_eq_getElem_cons hi] at h
    unfold goFor at h
    have fin : ∀ (F2 H2 : Hp), SInv k e0 ρ σ F2 H2 → Rep k F2 x a.1[i] → g x σ H2 fun σ2 H2 => tb { D with nx := fun σ H => ∃ ρ F, SInv k e0 ρ σ F H ∧ wpo (goFor mg mb (a.1.drop (i + 1)) ρ) (Post k e0 Wx D), ct := fun σ H => ∃ ρ F, SInv k e0 ρ σ F H ∧ wpo (goFor mg mb (a.1.drop (i + 1)) ρ) (Post k e0 Wx D), bk := D.nx } σ2 H2 := by
      intro F2 H2 s2 rp
      refine hg e0 ρ σ F2 H2 x _ _ hP s2 rp ((wpo_bind.mp h).mono fun ρ1 _ h => ?_)
      intro σ3 s3 _ _ _
      refine hb e0 ρ1 σ3 F2 H2 _ hP s3 ((wpo_bind.mp h).mono fun b _ h => ?_)
      obtain ⟨fl, ρ2⟩ := b
      cases fl with
      | nx => exact fun σ1 F1 H1 s1 => ⟨ρ2, F1, s1, h⟩
      | ret r => exact h
      | bk => exact h
      | ct => exact fun σ1 F1 H1 s1 => ⟨ρ2, F1, s1, h⟩
    obtain ⟨F2, A2, rp⟩ := (hY i _ F H x H' e1 s'.tr.sub s'.fr.sub (lk s') y).aft s'.fr
    exact fin F2 H' (s'.aft A2) rp
  · rintro σ H ⟨ρ, F, s', h⟩
    rw [List.drop_length] at h
    exact h σ F H s'
theorem simFor {k : Kx} {P ts : List Nat} {Wx : Option WX} {wi : TI} {g : TG} {tb : TS} {mi : IM} {mg : GM} {mb : SM} (hi : SimI k wi mi) (hg : SimG k P ts g mg) (hb : SimS k P Wx tb mb) : SimS k P Wx (tFor wi g tb) (exFor mi mg mb) :=
  fun e ρ σ F H D hP s h => simFor_at hg hb hP s (fun R q => hi F ρ σ H R s.fr (q.mono fun x _ q J F1 H1 A W => q J F1 H1 A W.l)) h
end Pv

/-! Pv7: list comprehensions. -/
namespace Pv
open PySem PySem.Spec PySem.SeqAt L2

def goComp (mg : GM) (mt : TM) (me : EM) (vs : List Nat) : List D → Rho → Option (List D × Rho)
  | [], ρ => some ([], ρ)
  | d :: r, ρ => (mg d ρ).bind fun ρ1 => (mt ρ1).bind fun b => if b.1 = true then (me b.2).bind fun x => (frz1 x.2 x.1).bind fun y => (goComp mg mt me vs r (kill vs y.2)).bind fun z => some (y.1 :: z.1, z.2)
      else goComp mg mt me vs r (kill vs b.2)
def restore (vs : List Nat) (ρ1 ρ : Rho) : Rho := vs.foldl (fun ρ v => ρ.set v ρ1[v]?.join) ρ
def evComp (mi : IM) (mg : GM) (mt : TM) (me : EM) (vs : List Nat) : EM := fun ρ => (mi ρ).bind fun a => if a.1.length ≤ sizeLine then (goComp mg mt me vs a.1 (kill vs a.2)).bind fun z => some (.sv (.own (.lst z.1)), restore vs a.2 z.2) else none

/-! slots -/
theorem kill_get : ∀ {vs : List Nat} {ρ : Rho} {i : Nat} {s : SV}, (kill vs ρ)[i]? = some (some s) → ρ[i]? = some (some s) ∧ i ∉ vs
  | [], _, _, _, h => ⟨h, by simp⟩
  | v :: vs, ρ, i, s, h => by
    obtain ⟨h1, h2⟩ := kill_get (vs := vs) (ρ := ρ.set v none) h
    rcases set_get h1 with ⟨_, h, _⟩ | ⟨ne, h⟩
    · cases h
    · exact ⟨h, by simp only [List.mem_cons, not_or]; exact ⟨ne, h2⟩⟩
theorem kill_len : ∀ {vs : List Nat} {ρ : Rho}, (kill vs ρ).length = ρ.length
  | [], _ => rfl
  | v :: vs, ρ => by
    show (kill vs (ρ.set v none)).length = _
    rw [kill_len]; simp
theorem wipe_ne {σ : L2.St} {i : Nat} : ∀ {vs : List Nat}, i ∉ vs → (wipe σ vs)[i]? = σ[i]?
  | [], _ => rfl
  | v :: vs, h => by
    simp only [List.mem_cons, not_or] at h
    unfold wipe
    rw [List.getElem?_set_ne (Ne.symm h.1)]
    exact wipe_ne h.2
theorem wipe_in {σ : L2.St} {i : Nat} : ∀ {vs : List Nat}, i ∈ vs → (wipe σ vs)[i]? = if i < σ.length then some none else none
  | v :: vs, h => by
    unfold wipe
    by_cases e : i = v
    · subst e
      by_cases hl : i < σ.length
      · rw [List.getElem?_set_self (by rw [wipe_length]; exact hl), if_pos hl]
      · rw [List.getElem?_eq_none (by rw [List.length_set, wipe_length]; omega), if_neg hl]
    · rw [List.getElem?_set_ne (Ne.symm e)]
      rcases List.mem_cons.mp h with h | h
      · exact absurd h e
      · exact wipe_in h
theorem wipe_agr {σ σ' : L2.St} {ts vs : List Nat} (h : Agr ts σ σ') (hs : ∀ t ∈ ts, t ∈ vs) : wipe σ' vs = wipe σ vs := by
  apply List.ext_getElem?
  intro i
  by_cases hi : i ∈ vs
  · rw [wipe_in hi, wipe_in hi, h.1]
  · rw [wipe_ne hi, wipe_ne hi]
    exact h.2 i fun z => hi (hs i z)
theorem wipe_wipe {σ : L2.St} {vs : List Nat} : wipe (wipe σ vs) vs = wipe σ vs := by
  apply List.ext_getElem?
  intro i
  by_cases hi : i ∈ vs
  · rw [wipe_in hi, wipe_in hi, wipe_length]
  · rw [wipe_ne hi]
theorem restore_get {ρ1 : Rho} : ∀ {vs : List Nat} {ρ : Rho} {i : Nat} {s : SV}, (restore vs ρ1 ρ)[i]? = some (some s) → (i ∈ vs ∧ ρ1[i]? = some (some s)) ∨ (i ∉ vs ∧ ρ[i]? = some (some s))
  | [], _, _, _, h => .inr ⟨by simp, h⟩
  | v :: vs, ρ, i, s, h => by
    rcases restore_get (vs := vs) (ρ := ρ.set v ρ1[v]?.join) h with ⟨h1, h2⟩ | ⟨h1, h2⟩
    · exact .inl ⟨List.mem_cons_of_mem _ h1, h2⟩
    · rcases set_get h2 with ⟨e, h, _⟩ | ⟨ne, h⟩
      · subst e
        refine .inl ⟨List.mem_cons_self, ?_⟩
        cases z : ρ1[i]? with
        | none => rw [z] at h; cases h
        | some x => rw [z] at h; cases x with
          | none => cases h
          | some s' => cases h; rfl
      · exact .inr ⟨by simp only [List.mem_cons, not_or]; exact ⟨ne, h1⟩, h⟩
theorem restore_len {ρ1 : Rho} : ∀ {vs : List Nat} {ρ : Rho}, (restore vs ρ1 ρ).length = ρ.length
  | [], _ => rfl
  | v :: vs, ρ => by
    show (restore vs ρ1 (ρ.set v ρ1[v]?.join)).length = _
    rw [restore_len]; simp
theorem restore_in {ρ1 : Rho} {i : Nat} {s : SV} (h1 : ρ1[i]? = some (some s)) : ∀ {vs : List Nat} {ρ : Rho}, i < ρ.length → (i ∈ vs ∨ ρ[i]? = some (some s)) → (restore vs ρ1 ρ)[i]? = some (some s)
  | [], _, _, h => h.elim (fun z => by cases z) id
  | v :: vs, ρ, hl, h => by
    refine restore_in h1 (vs := vs) (ρ := ρ.set v ρ1[v]?.join) (by simpa using hl) ?_
    by_cases e : i = v
    · subst e
      exact .inr (by rw [List.getElem?_set_self hl, h1]; rfl)
    · rcases h with h | h
      · rcases List.mem_cons.mp h with h | h
        · exact absurd h e
        · exact .inl h
      · exact .inr (by rw [List.getElem?_set_ne (Ne.symm e)]; exact h)
theorem restore_out {ρ1 : Rho} {i : Nat} : ∀ {vs : List Nat} {ρ : Rho}, i ∉ vs → (restore vs ρ1 ρ)[i]? = ρ[i]?
  | [], _, _ => rfl
  | v :: vs, ρ, h => by
    simp only [List.mem_cons, not_or] at h
    show (restore vs ρ1 (ρ.set v ρ1[v]?.join))[i]? = _
    rw [restore_out h.2, List.getElem?_set_ne (Ne.symm h.1)]
theorem kill_out {i : Nat} : ∀ {ws : List Nat} {ρ : Rho}, i ∉ ws → (kill ws ρ)[i]? = ρ[i]?
  | [], _, _ => rfl
  | w :: ws, ρ, hw => by
    simp only [List.mem_cons, not_or] at hw
    show (kill ws (ρ.set w none))[i]? = _
    rw [kill_out hw.2, List.getElem?_set_ne (Ne.symm hw.1)]
section
variable {k : Kx} {F H F1 H1 : Hp} {ρ ρ1 : Rho} {σ : L2.St} {vs : List Nat}
theorem FR.wiped (f : FR k F ρ σ H) : FR k F (kill vs ρ) (wipe σ vs) H := by
  refine ⟨f.sub, by rw [kill_len, wipe_length]; exact f.len, fun j d q => ?_, fun j o q => ?_, fun j l o1 o2 q e1 e2 e3 e4 => ?_, f.tabs⟩
  · obtain ⟨h1, h2⟩ := kill_get q
    rw [wipe_ne h2]; exact f.vals j d h1
  · obtain ⟨h1, h2⟩ := kill_get q
    rw [wipe_ne h2]; exact f.owns j o h1
  · obtain ⟨h1, h2⟩ := kill_get e1
    obtain ⟨h3, h4⟩ := kill_get e2
    rw [wipe_ne h2] at e3
    rw [wipe_ne h4] at e4
    exact f.dist j l o1 o2 q h1 h3 e3 e4
theorem Own.wiped {p : Addr} (h : Own (kill vs ρ) (wipe σ vs) p) : Own ρ σ p := by
  obtain ⟨j, o, e1, e2⟩ := h
  obtain ⟨h1, h2⟩ := kill_get e1
  rw [wipe_ne h2] at e2
  exact ⟨j, o, h1, e2⟩
theorem FR.restored (f1 : FR k F1 ρ1 σ H1) (tr : Tr (Own (kill vs ρ1) (wipe σ vs)) F1 H1 F H) (ow : ∀ p, Own ρ (wipe σ vs) p → Own (kill vs ρ1) (wipe σ vs) p) (f : FR k F ρ (wipe σ vs) H) : FR k F (restore vs ρ1 ρ) σ H := by
  have out : ∀ (j : Nat) (o : OB) (p : Addr), j ∈ vs → ρ1[j]? = some (some (.own o)) → σ[j]? = some (some (.ref p)) → ¬ Own (kill vs ρ1) (wipe σ vs) p := fun j o p hj e1 e2 z => by
    obtain ⟨l, o', e3, e4⟩ := z
    obtain ⟨h1, h2⟩ := kill_get e3
    rw [wipe_ne h2] at e4
    exact h2 (f1.dist l j o' o p h1 e1 e4 e2 ▸ hj)
  refine ⟨f.sub, by rw [restore_len, f.len, wipe_length], fun j d q => ?_, fun j o q => ?_, fun j l o1 o2 q e1 e2 e3 e4 => ?_, f.tabs⟩
  · rcases restore_get q with ⟨h1, h2⟩ | ⟨h1, h2⟩
    · obtain ⟨v, e, r⟩ := f1.vals j d h2
      exact ⟨v, e, r.mono tr.sub⟩
    · obtain ⟨v, e, r⟩ := f.vals j d h2
      rw [wipe_ne h1] at e
      exact ⟨v, e, r⟩
  · rcases restore_get q with ⟨h1, h2⟩ | ⟨h1, h2⟩
    · obtain ⟨p, ho, e, hp, n, r⟩ := f1.owns j o h2
      have no := out j o p h1 h2 e
      exact ⟨p, ho, e, tr.keep p ho hp r.ntb no, tr.new p ho hp r.nt n no, r.mono tr.sub⟩
    · obtain ⟨p, ho, e, r⟩ := f.owns j o h2
      rw [wipe_ne h1] at e
      exact ⟨p, ho, e, r⟩
  · rcases restore_get e1 with ⟨h1, h2⟩ | ⟨h1, h2⟩
    · rcases restore_get e2 with ⟨h3, h4⟩ | ⟨h3, h4⟩
      · exact f1.dist j l o1 o2 q h2 h4 e3 e4
      · exact absurd (ow q ⟨l, o2, h4, by rw [wipe_ne h3]; exact e4⟩) (out j o1 q h1 h2 e3)
    · rcases restore_get e2 with ⟨h3, h4⟩ | ⟨h3, h4⟩
      · exact absurd (ow q ⟨j, o1, h2, by rw [wipe_ne h1]; exact e3⟩) (out l o2 q h3 h4 e4)
      · exact f.dist j l o1 o2 q h2 h4 (by rw [wipe_ne h1]; exact e3) (by rw [wipe_ne h3]; exact e4)
theorem Own.restored (ow : ∀ p, Own ρ (wipe σ vs) p → Own (kill vs ρ1) (wipe σ vs) p) {p : Addr} (h : Own (restore vs ρ1 ρ) σ p) : Own ρ1 σ p := by
  obtain ⟨j, o, e1, e2⟩ := h
  rcases restore_get e1 with ⟨h1, h2⟩ | ⟨h1, h2⟩
  · exact ⟨j, o, h2, e2⟩
  · exact (ow p ⟨j, o, h2, by rw [wipe_ne h1]; exact e2⟩).wiped
end
theorem ntc_none {H : Hp} {T : Addr} (h : H T = none) : ∀ u, H T = some u → NTC T u := fun u e => by rw [h] at e; cases e
theorem ntc_at {H : Hp} {T : Addr} {vs : List V} (h : H T = some (.lst vs)) : ∀ u, H T = some u → NTC T u := fun u e => by rw [h] at e; cases e; exact ntc_lst
theorem SInv.temp {k : Kx} {e : Ent} {ρ : Rho} {σ : L2.St} {F H : Hp} {T : Addr} {o : HO} (s : SInv k e ρ σ F H) (n : e.H T = none) (f : F T = none) (no : ¬ Own ρ σ T) (ht : ∀ u, H T = some u → NTC T u) : SInv k e ρ σ F (upd H T o) := by
  refine ⟨⟨fun a u q => ?_, s.fr.len, s.fr.vals, fun i ob q => ?_, s.fr.dist, tabs_put s.fr.tabs ht⟩, ⟨s.tr.sub, fun p u q m nI => ?_, s.tr.new, fun p u q => ?_⟩, s.ow, s.pr⟩
  · rw [upd_ne (fun z => by rw [z, f] at q; cases q)]; exact s.fr.sub a u q
  · obtain ⟨p, ho, e1, e2, e3, e4⟩ := s.fr.owns i ob q
    have ne : p ≠ T := fun z => no (by rw [← z]; exact ⟨i, ob, q, e1⟩)
    exact ⟨p, ho, e1, by rw [upd_ne ne]; exact e2, e3, e4⟩
  · rw [upd_ne (fun z => by rw [z, n] at q; cases q)]; exact s.tr.keep p u q m nI
  · rw [upd_ne (fun z => by rw [z, n] at q; cases q)]; exact s.tr.there p u q
structure CI (k : Kx) (e : Ent) (ρ0 ρ : Rho) (σ : L2.St) (F H : Hp) (T : Addr) (acc : List V) (ds : List D) : Prop where
  s : SInv k e ρ σ F H
  ow : ∀ p, Own ρ σ p → Own ρ0 σ p
  sl : ∀ (i : Nat) (x : SV), ρ0[i]? = some (some x) → ∃ x', ρ[i]? = some (some x')
  hT : H T = some (.lst acc)
  fT : F T = none
  r : RepL k F acc ds
theorem CI.aft {k : Kx} {e : Ent} {ρ0 ρ ρ' : Rho} {σ : L2.St} {F H F' H' : Hp} {T : Addr} {acc : List V} {ds : List D} (c : CI k e ρ0 ρ σ F H T acc ds) (nO : ¬ Own ρ0 σ T) (A : Aft k ρ σ F H ρ' F' H') : CI k e ρ0 ρ' σ F' H' T acc ds :=
  ⟨c.s.aft A, fun p z => c.ow p (A.ow p z), fun i x q => let ⟨x', q'⟩ := c.sl i x q; A.sl i x' q', A.tr.keep T _ c.hT trivial fun z => nO (c.ow T z), A.tr.new T _ c.hT trivial c.fT fun z => nO (c.ow T z), c.r.mono A.tr.sub⟩
theorem simComp_at {k : Kx} {ts vs : List Nat} {wi : TI} {g : TG} {tt : TT} {te : TE} {mi : IM} {mg : GM} {mt : TM} {me : EM} (hg : SimG k [] ts g mg) (ht : SimT k tt mt) (he : SimE k te me) (hv : ∀ t ∈ ts, t ∈ vs) {F : Hp} {ρ : Rho} {σ : L2.St} {H : Hp} {Q : VK} (f : FR k F ρ σ H)
    (hi : ∀ R : It → Hp → Prop, wpo (mi ρ) (fun x => ∀ J F' H', Aft k ρ σ F H x.2 F' H' → WalkL k J F' H' x.1 → R J H') → wi σ H R)
    (h : wpo (evComp mi mg mt me vs ρ) (fun x => ∀ v F' H', Aft k ρ σ F H x.2 F' H' → RR k H F' x.2 σ H' x.1 v → Q v H')) : tLc wi g tt te vs σ H Q := by
  unfold evComp at h
  refine hi _ ((wpo_bind.mp h).mono fun a _ h => ?_)
  intro J F1 H1 A1 W T hT
  obtain ⟨G, Y, w, hG, hY⟩ := W.w
  split at h
  · rename_i hz
    let e : Ent := ⟨F1, H1, Own (kill vs a.2) (wipe σ vs), []⟩
    have s0 : SInv k e (kill vs a.2) (wipe σ vs) F1 H1 := ⟨A1.fr.wiped, Tr.refl, fun p z => .inl z, fun q hq => by cases hq⟩
    have nT : F1 T = none := A1.fr.sub.none_of hT
    have eT : e.H T = none := hT
    have noT : ¬ Own (kill vs a.2) (wipe σ vs) T := fun z => by
      obtain ⟨u, hu⟩ := s0.fr.own_some z
      rw [hT] at hu; cases hu
    have lk : ∀ {ρ' : Rho} {F' H' : Hp}, SInv k e ρ' (wipe σ vs) F' H' → LkK F1 H1 H' := fun {ρ' F' H'} s' b od u h1 h2 => s'.tr.keep b _ h2 trivial fun z => h1 (s0.fr.own_none z)
    let C : List D → List D × Rho → Prop := fun ds z => ∀ v F' H', Aft k ρ σ F H (restore vs a.2 z.2) F' H' → RR k H F' (restore vs a.2 z.2) σ H' (.sv (.own (.lst (ds ++ z.1)))) v → Q v H'
    refine lc_it w (fun i H => ∃ ρ F acc ds, CI k e (kill vs a.2) ρ (wipe σ vs) F H T acc ds ∧ acc.length ≤ i ∧ wpo (goComp mg mt me vs (a.1.drop i) ρ) (C ds)) ?_ ?_ ?_ ?_
    · exact ⟨kill vs a.2, F1, [], [], ⟨s0.temp hT nT noT (ntc_none hT), fun p z => z, fun i x q => ⟨x, q⟩, upd_same, nT, .nil⟩, Nat.zero_le _, (wpo_bind.mp h).mono fun z _ h => fun v F' H' A R => h v F' H' A R⟩
    · rintro i H hi ⟨ρ', F', acc, ds, c, _⟩
      exact hG F' H c.s.tr.sub c.s.fr.sub (lk c.s)
    · rintro i x H H' hi ⟨ρ', F', acc, ds, c, hl, h⟩ y
      have e1 : a.1[i]? = some a.1[i] := List.getElem?_eq_getElem hi
      rw [List.drop_eq_getElem_cons hi] at h
      unfold goComp at h
      have fin : ∀ (F2 H2 : Hp), CI k e (kill vs a.2) ρ' (wipe σ vs) F2 H2 T acc ds → Rep k F2 x a.1[i] → g x (wipe σ vs) H2 fun σ2 H2 => wipe σ2 vs = wipe σ vs ∧ tt σ2 H2 fun b H3 =>
          if b = true then te σ2 H3 fun y H4 => ∃ acc, H4 T = some (.lst acc) ∧ acc.length < sizeLine ∧ ∃ ρ F acc' ds, CI k e (kill vs a.2) ρ (wipe σ vs) F (upd H4 T (.lst (acc ++ [y]))) T acc' ds ∧ acc'.length ≤ i + 1 ∧ wpo (goComp mg mt me vs (a.1.drop (i + 1)) ρ) (C ds)
          else ∃ ρ F acc ds, CI k e (kill vs a.2) ρ (wipe σ vs) F H3 T acc ds ∧ acc.length ≤ i + 1 ∧ wpo (goComp mg mt me vs (a.1.drop (i + 1)) ρ) (C ds) := by
        intro F2 H2 c rp
        refine hg e ρ' (wipe σ vs) F2 H2 x _ _ (fun q hq => by cases hq) c.s rp ((wpo_bind.mp h).mono fun ρ1 em h => ?_)
        intro σ3 s3 ag ow3 sl3
        have ew : wipe σ3 vs = wipe σ vs := (wipe_agr ag hv).trans wipe_wipe
        refine ⟨ew, ht F2 ρ1 σ3 H2 _ s3.fr ((wpo_bind.mp h).mono fun b _ h => ?_)⟩
        intro F3 H3 A3
        have s3' := s3.aft A3
        have no3 : ¬ Own ρ1 σ3 T := fun z => noT (c.ow T (ow3 T z))
        have hT3 := A3.tr.keep T _ c.hT trivial no3
        have fT3 := A3.tr.new T _ c.hT trivial c.fT no3
        -- the slots outside of vs stay
        have slk : ∀ {ρ4 : Rho}, (∀ (i : Nat) (x : SV), ρ1[i]? = some (some x) → ∃ x', ρ4[i]? = some (some x')) → ∀ (i : Nat) (x : SV), (kill vs a.2)[i]? = some (some x) → ∃ x', (kill vs ρ4)[i]? = some (some x') := by
          intro ρ4 h4 j x0 q
          obtain ⟨q1, q2⟩ := kill_get q
          obtain ⟨x1, q3⟩ := c.sl j x0 q
          obtain ⟨x2, q4⟩ := sl3 j x1 q3
          obtain ⟨x3, q5⟩ := h4 j x2 q4
          exact ⟨x3, by rw [kill_out q2]; exact q5⟩
        have wip : ∀ {ρ4 : Rho} {F4 H4 : Hp}, SInv k e ρ4 σ3 F4 H4 → SInv k e (kill vs ρ4) (wipe σ vs) F4 H4 := fun {ρ4 F4 H4} s4 => by
          rw [← ew]
          exact ⟨s4.fr.wiped, s4.tr, fun p z => s4.ow p z.wiped, fun q hq => by cases hq⟩
        have wow : ∀ {ρ4 : Rho}, (∀ p, Own ρ4 σ3 p → Own ρ1 σ3 p) → ∀ p, Own (kill vs ρ4) (wipe σ vs) p → Own (kill vs a.2) (wipe σ vs) p := fun {ρ4} h4 p z => by
          rw [← ew] at z
          exact c.ow p (ow3 p (h4 p z.wiped))
        split at h
        · rename_i eb
          rw [if_pos eb]
          refine he F3 b.2 σ3 H3 _ s3'.fr ((wpo_bind.mp h).mono fun z _ h => ?_)
          intro v F4 H4 A4 R4
          have h := wpo_bind.mp h
          cases ef : frz1 z.2 z.1 with
          | none => rw [ef] at h; exact h.elim
          | some y =>
            rw [ef] at h
            obtain ⟨F5, A5, s5, r5, _⟩ := frz1_ok s3'.fr A4 R4 ef
            have no3' : ¬ Own b.2 σ3 T := fun z => no3 (A3.ow T z)
            have hT5 := A5.tr.keep T _ hT3 trivial no3'
            have fT5 := A5.tr.new T _ hT3 trivial fT3 no3'
            have sub5 : Sub F2 F5 := A3.tr.sub.trans A5.tr.sub
            have s5' := s3'.aft A5
            have no5 : ¬ Own (kill vs y.2) (wipe σ vs) T := fun z => noT (wow (fun p q => A3.ow p (A5.ow p q)) T z)
            refine ⟨acc, hT5, by omega, kill vs y.2, F5, acc ++ [v], ds ++ [y.1], ⟨(wip s5').temp eT fT5 no5 (ntc_at hT5), wow fun p q => A3.ow p (A5.ow p q), slk fun i x q => let ⟨x', q'⟩ := A3.sl i x q; A5.sl i x' q', upd_same, fT5, (c.r.mono sub5).append (.cons r5 .nil)⟩, by simp; omega, ?_⟩
            refine (wpo_bind.mp h).mono fun z _ h => ?_
            intro v F' H' A R
            rw [List.append_assoc] at R
            exact h v F' H' A R
        · rename_i eb
          rw [if_neg eb]
          exact ⟨kill vs b.2, F3, acc, ds, ⟨wip s3', wow A3.ow, slk A3.sl, hT3, fT3, c.r.mono A3.tr.sub⟩, by omega, h⟩
      obtain ⟨F2, A2, rp⟩ := (hY i _ F' H x H' e1 c.s.tr.sub c.s.fr.sub (lk c.s) y).aft c.s.fr
      exact fin F2 H' (c.aft noT A2) rp
    · rintro H' ⟨ρ', F', acc, ds, c, hl, h⟩
      rw [List.drop_length] at h
      have h : C ds ([], ρ') := h
      refine h _ F' H' ?_ ?_
      · refine A1.trans ⟨FR.restored A1.fr c.s.tr c.ow c.s.fr, ⟨c.s.tr.sub, fun p o q mt nI => c.s.tr.keep p o q mt fun z => nI z.wiped, fun p o q m f nI => c.s.tr.new p o q m f fun z => nI z.wiped, c.s.tr.there⟩, fun p z => z.restored c.ow, fun i s q => ?_⟩
        by_cases hi : i ∈ vs
        · refine ⟨s, restore_in q ?_ (.inl hi)⟩
          have l1 := (List.getElem?_eq_some_iff.mp q).1
          have l2 : ρ'.length = (wipe σ vs).length := c.s.fr.len
          rw [wipe_length] at l2
          show i < ρ'.length
          have l3 := A1.fr.len
          omega
        · obtain ⟨x', q'⟩ := c.sl i s (by rw [kill_out hi]; exact q)
          exact ⟨x', by rw [restore_out hi]; exact q'⟩
      · exact ⟨T, _, rfl, A1.none_of hT, c.hT, c.fT, acc, rfl, by rw [List.append_nil]; exact c.r⟩
  · exact h.elim
theorem simComp {k : Kx} {ts vs : List Nat} {wi : TI} {g : TG} {tt : TT} {te : TE} {mi : IM} {mg : GM} {mt : TM} {me : EM} (hi : SimI k wi mi) (hg : SimG k [] ts g mg) (ht : SimT k tt mt) (he : SimE k te me) (hv : ∀ t ∈ ts, t ∈ vs) :
    SimE k (tLc wi g tt te vs) (evComp mi mg mt me vs) := fun F ρ σ H Q f h => simComp_at hg ht he hv f (fun R q => hi F ρ σ H R f (q.mono fun x _ q J F1 H1 A W => q J F1 H1 A W.l)) h
end Pv

/-! Pv8: defs and their calls. -/
namespace Pv
open PySem PySem.Spec PySem.SeqAt L2

abbrev CM := List SV → Option (SV × SV)
def ArgR (k : Kx) (F H : Hp) : SV → V → Prop
  | .val d, v => Rep k F v d
  | .own o, v => ∃ p ho, v = .ref p ∧ H p = some ho ∧ F p = none ∧ RepO k F p o ho
inductive ArgsR (k : Kx) (F H : Hp) : List SV → List V → Prop
  | nil : ArgsR k F H [] []
  | cons {s : SV} {v : V} {ss : List SV} {vs : List V} : ArgR k F H s v → ArgsR k F H ss vs → (∀ o, s = .own o → ∀ (j : Nat) (o' : OB), ss[j]? = some (.own o') → vs[j]? ≠ some v) → ArgsR k F H (s :: ss) (v :: vs)
def ArgOwn (ss : List SV) (vs : List V) (p : Addr) : Prop := ∃ (i : Nat) (o : OB), ss[i]? = some (.own o) ∧ vs[i]? = some (.ref p)
def ArgGiv (io : Bool) (ss : List SV) (vs : List V) (p : Addr) : Prop := ∃ (i : Nat) (o : OB), (io = true → i ≠ 0) ∧ ss[i]? = some (.own o) ∧ vs[i]? = some (.ref p)
def ResR (k : Kx) (A : Addr → Prop) (H F' H' : Hp) : SV → V → Prop
  | .val d, v => Rep k F' v d
  | .own o, v => ∃ p ho, v = .ref p ∧ (H p = none ∨ A p) ∧ H' p = some ho ∧ F' p = none ∧ RepO k F' p o ho
structure SubT (k : Kx) (F H : Hp) : Prop where
  sub : Sub F H
  tabs : NdefX.TabsN k.CT.T H
def spF (k : Kx) (io : Bool) (np : Nat) (cm : CM) : Sp := fun vs H Q _ => ∃ F args, SubT k F H ∧ ArgsR k F H args vs ∧ vs.length = np ∧
  wpo (cm args) (fun x => ∀ v F' H', SubT k F' H' → Tr (ArgOwn args vs) F H F' H' → ResR k (ArgGiv io args vs) H F' H' x.1 v → (io = true → ∃ u, vs[0]? = some u ∧ ArgR k F' H' x.2 u) → Q v H')
def excOut (k : Kx) (F H : Hp) (args : List SV) (vs : List V) (W : Value → Option Addr → Hp → Prop) (x : SV × SV) : Prop := ∀ c fs, x.1 = .val (excD c fs) → ∀ cls d F' H', SubT k F' H' → Tr (ArgOwn args vs) F H F' H' → ExcR k F' H' c fs cls d → W cls d H'
def retS (io : Bool) (ρ : Rho) : Rv → Option (SV × Rho)
  | .sv s => some (s, ρ)
  | .plc j => match ρ[j]? with
    | some (some (.val d)) => some (.val d, ρ)
    | some (some (.own o)) => if io = true then (match ρ[(0 : Nat)]? with
        | some (some (.own _)) => if j = 0 then some (.val o.d, ρ.set j (some (.val o.d))) else some (.own o, ρ)
        | _ => some (.val o.d, ρ.set j (some (.val o.d)))) else some (.own o, ρ)
    | _ => none
def out0 (io : Bool) (ρ : Rho) : Option SV := if io = true then (match ρ[(0 : Nat)]? with
    | some (some s) => some s
    | _ => none) else some (.val .none)
def runB (io : Bool) (nl : Nat) (mb : SM) : CM := fun args => (mb (args.map some ++ List.replicate (nl - args.length) none)).bind fun a => match a.1 with
  | .nx => (out0 io a.2).bind fun o => some (.val .none, o)
  | .ret r => (retS io a.2 r).bind fun b => (out0 io b.2).bind fun o => some (b.1, o)
  | _ => none
section
variable {k : Kx} {F H : Hp}
theorem ArgsR.len : ∀ {ss : List SV} {vs : List V}, ArgsR k F H ss vs → ss.length = vs.length
  | _, _, .nil => rfl
  | _, _, .cons _ b _ => by simp [b.len]
theorem ArgsR.get : ∀ {ss : List SV} {vs : List V} {i : Nat} {s : SV}, ArgsR k F H ss vs → ss[i]? = some s → ∃ v, vs[i]? = some v ∧ ArgR k F H s v
  | _, _, _, _, .nil, h => by simp at h
  | _, _, 0, _, .cons a _ _, h => by simp at h; subst h; exact ⟨_, rfl, a⟩
  | _, _, i + 1, s, .cons _ b _, h => by
    obtain ⟨v, h1, h2⟩ := ArgsR.get (i := i) (s := s) b (by simpa using h)
    exact ⟨v, by simpa using h1, h2⟩
theorem ArgsR.dist : ∀ {ss : List SV} {vs : List V} {i j : Nat} {o o' : OB} {v : V}, ArgsR k F H ss vs → ss[i]? = some (.own o) → ss[j]? = some (.own o') → vs[i]? = some v → vs[j]? = some v → i = j
  | _, _, _, _, _, _, _, .nil, h, _, _, _ => by simp at h
  | _, _, 0, 0, _, _, _, .cons _ _ _, _, _, _, _ => rfl
  | _, _, 0, j + 1, o, o', v, .cons _ _ c, h1, h2, h3, h4 => by
    simp at h1 h3; subst h3
    exact absurd (by simpa using h4) (c o h1 j o' (by simpa using h2))
  | _, _, i + 1, 0, o, o', v, .cons _ _ c, h1, h2, h3, h4 => by
    simp at h2 h4; subst h4
    exact absurd (by simpa using h3) (c o' h2 i o (by simpa using h1))
  | _, _, i + 1, j + 1, o, o', v, .cons _ b _, h1, h2, h3, h4 => by
    have := ArgsR.dist (i := i) (j := j) b (by simpa using h1) (by simpa using h2) (by simpa using h3) (by simpa using h4)
    omega
theorem start_get {α : Type} {l : List α} {n : Nat} {i : Nat} {x : α} (h : (l.map some ++ List.replicate n none)[i]? = some (some x)) : l[i]? = some x := by
  by_cases hi : i < l.length
  · rw [List.getElem?_append_left (by simpa using hi), List.getElem?_map] at h
    cases e : l[i]? with
    | none => rw [e] at h; cases h
    | some y => rw [e] at h; cases h; rfl
  · rw [List.getElem?_append_right (by simpa using hi), List.getElem?_replicate] at h
    split at h <;> cases h
theorem start_of {α : Type} {l : List α} {n : Nat} {i : Nat} {x : α} (h : l[i]? = some x) : (l.map some ++ List.replicate n none)[i]? = some (some x) := by
  have hi : i < l.length := (List.getElem?_eq_some_iff.mp h).1
  rw [List.getElem?_append_left (by simpa using hi), List.getElem?_map, h]; rfl
theorem runB_gen {Wx : Option WX} {io : Bool} {np nl : Nat} {ts : TS} {mb : SM} {N : List Str} (hN : N.length = nl) (hio : io = true → 0 < np) (hb : SimS k (if io = true then [0] else []) Wx ts mb) {vs : List V} {Q : VK} {args : List SV} (sb : SubT k F H) (ar : ArgsR k F H args vs) (hl : vs.length = np)
    (h : wpo (runB io nl mb args) (fun x => (∀ v F' H', SubT k F' H' → Tr (ArgOwn args vs) F H F' H' → ResR k (ArgGiv io args vs) H F' H' x.1 v → (io = true → ∃ u, vs[0]? = some u ∧ ArgR k F' H' x.2 u) → Q v H') ∧ ∀ W, Wx = some W → excOut k F H args vs (fun cls d H' => ∀ σ, W cls d σ H') x)) :
    ts { nx := fun _ H' => Q .non H', rt := Q } (L2.start N vs) H := by
  unfold runB at h
  have al := ar.len
  let e : Ent := ⟨F, H, ArgOwn args vs, if io = true then (match vs[0]? with | some u => [(0, u)] | none => []) else []⟩
  have s0 : SInv k e (args.map some ++ List.replicate (nl - args.length) none) (L2.start N vs) F H := by
    refine ⟨⟨sb.sub, ?_, fun i d q => ?_, fun i o q => ?_, fun i j o o' p e1 e2 e3 e4 => ?_, sb.tabs⟩, Tr.refl, fun p z => .inl ?_, fun q hq => ?_⟩
    · unfold L2.start; simp; omega
    · obtain ⟨v, h1, h2⟩ := ar.get (start_get q)
      exact ⟨v, start_of h1, h2⟩
    · obtain ⟨v, h1, p, ho, rfl, h2⟩ := ar.get (start_get q)
      exact ⟨p, ho, start_of h1, h2⟩
    · exact ar.dist (start_get e1) (start_get e2) (start_get e3) (start_get e4)
    · obtain ⟨i, o, e1, e2⟩ := z
      exact ⟨i, o, start_get e1, start_get e2⟩
    · have hq : q ∈ (if io = true then (match vs[0]? with | some u => [(0, u)] | none => []) else [] : List (Nat × V)) := hq
      split at hq
      · split at hq
        · rename_i u hu
          simp at hq; subst hq
          exact start_of hu
        · cases hq
      · cases hq
  have hP : ∀ q ∈ e.pr, q.1 ∈ (if io = true then [0] else [] : List Nat) := fun q hq => by
    have hq : q ∈ (if io = true then (match vs[0]? with | some u => [(0, u)] | none => []) else [] : List (Nat × V)) := hq
    split at hq
    · rename_i hio
      rw [if_pos hio]
      split at hq
      · simp at hq; subst hq; simp
      · cases hq
    · cases hq
  -- what is given back
  have outs : ∀ {ρ : Rho} {σ : L2.St} {F' H' : Hp} {s : SV}, SInv k e ρ σ F' H' → out0 io ρ = some s → (io = true → ∃ u, vs[0]? = some u ∧ ArgR k F' H' s u) := by
    intro ρ σ F' H' s si ho hi
    unfold out0 at ho
    rw [if_pos hi] at ho
    split at ho
    · rename_i s' hs
      cases ho
      have h0 : 0 < σ.length := by rw [← si.fr.len]; exact (List.getElem?_eq_some_iff.mp hs).1
      cases hu : vs[0]? with
      | none =>
        have := hio hi
        rw [List.getElem?_eq_none_iff] at hu
        omega
      | some u =>
        refine ⟨u, rfl, ?_⟩
        have hp : σ[0]? = some (some u) := si.pr (0, u) (by
          show _ ∈ (if io = true then (match vs[0]? with | some u => [(0, u)] | none => []) else [] : List (Nat × V))
          rw [if_pos hi, hu]; simp)
        cases s with
        | val d =>
          obtain ⟨v, h1, h2⟩ := si.fr.vals 0 d hs
          rw [hp] at h1; cases h1; exact h2
        | own o =>
          obtain ⟨p, ho, h1, h2⟩ := si.fr.owns 0 o hs
          rw [hp] at h1; cases h1; exact ⟨p, ho, rfl, h2⟩
    · cases ho
  refine hb e _ _ F H _ hP s0 ((wpo_bind.mp h).mono fun a _ h => ?_)
  obtain ⟨fl, ρ1⟩ := a
  cases fl with
  | nx =>
    intro σ F' H' s'
    have h := wpo_bind.mp h
    cases eo : out0 io ρ1 with
    | none => rw [eo] at h; exact h.elim
    | some o =>
      rw [eo] at h
      exact h.1 .non F' H' ⟨s'.fr.sub, s'.fr.tabs⟩ s'.tr .non (outs s' eo)
  | ret r =>
    refine ⟨?_, fun W hW c fs er cls d σ F' H' s' x => ?_⟩
    rotate_left
    · subst er
      have h := wpo_bind.mp h
      have h : wpo ((out0 io ρ1).bind fun o => some ((SV.val (excD c fs), o) : SV × SV)) _ := h
      have h := wpo_bind.mp h
      cases eo : out0 io ρ1 with
      | none => rw [eo] at h; exact h.elim
      | some o =>
        rw [eo] at h
        exact h.2 W hW c fs rfl cls d F' H' ⟨s'.fr.sub, s'.fr.tabs⟩ s'.tr x σ
    replace h : wpo (match Fl.ret r with
      | .nx => (out0 io ρ1).bind fun o => some ((SV.val .none, o) : SV × SV)
      | .ret r => (retS io ρ1 r).bind fun b => (out0 io b.2).bind fun o => some (b.1, o)
      | _ => none) (fun x => ∀ v F' H', SubT k F' H' → Tr (ArgOwn args vs) F H F' H' → ResR k (ArgGiv io args vs) H F' H' x.1 v → (io = true → ∃ u, vs[0]? = some u ∧ ArgR k F' H' x.2 u) → Q v H') := h.mono fun x _ q => q.1
    intro v σ F' H' s' R
    have h := wpo_bind.mp h
    cases er : retS io ρ1 r with
    | none => rw [er] at h; exact h.elim
    | some b =>
      rw [er] at h
      have h := wpo_bind.mp h
      cases eo : out0 io b.2 with
      | none => rw [eo] at h; exact h.elim
      | some o =>
        rw [eo] at h
        have h : ∀ v F' H', SubT k F' H' → Tr (ArgOwn args vs) F H F' H' → ResR k (ArgGiv io args vs) H F' H' b.1 v → (io = true → ∃ u, vs[0]? = some u ∧ ArgR k F' H' o u) → Q v H' := h
        have frz : ∀ (j : Nat) (ob : OB), σ[j]? = some (some v) → ρ1[j]? = some (some (.own ob)) → b = (.val ob.d, ρ1.set j (some (.val ob.d))) → Q v H' := fun j ob R1 R2 eb => by
          subst eb
          obtain ⟨F2, A2, _, r2, _⟩ := frz1_ok (r := .plc j) (v := v) s'.fr (Aft.refl s'.fr) ⟨R1, _, R2⟩ (show frz1 ρ1 (.plc j) = some (ob.d, ρ1.set j (some (.val ob.d))) by simp [frz1, R2])
          have s2 := s'.aft A2
          exact h v F2 H' ⟨s2.fr.sub, s2.fr.tabs⟩ s2.tr r2 (outs s2 eo)
        have giv : ∀ (j : Nat) (ob : OB), σ[j]? = some (some v) → ρ1[j]? = some (some (.own ob)) → (io = true → j ≠ 0 ∧ ∃ o0, ρ1[0]? = some (some (.own o0))) → b = (.own ob, ρ1) → Q v H' := fun j ob R1 R2 hj eb => by
          subst eb
          obtain ⟨p, ho, h1, h2, h3, h4⟩ := s'.fr.owns j ob R2
          rw [R1] at h1; cases h1
          refine h (.ref p) F' H' ⟨s'.fr.sub, s'.fr.tabs⟩ s'.tr ⟨p, ho, rfl, ?_, h2, h3, h4⟩ (outs s' eo)
          rcases s'.ow p ⟨j, ob, R2, R1⟩ with ⟨i, o', q1, q2⟩ | z
          · refine .inr ⟨i, o', fun hi ei => ?_, q1, q2⟩
            subst ei
            obtain ⟨nj, o0, h0⟩ := hj hi
            have hp : σ[0]? = some (some (.ref p)) := s'.pr (0, .ref p) (by
              show _ ∈ (if io = true then (match vs[0]? with | some u => [(0, u)] | none => []) else [] : List (Nat × V))
              rw [if_pos hi, q2]; simp)
            exact nj (s'.fr.dist j 0 ob o0 p R2 h0 R1 hp)
          · exact .inl z
        match r, R, er with
        | .sv (.val d), R, er =>
          cases er
          exact h v F' H' ⟨s'.fr.sub, s'.fr.tabs⟩ s'.tr R (outs s' eo)
        | .sv (.own ob), ⟨p, ho, e1, e2, e3⟩, er =>
          cases er
          exact h v F' H' ⟨s'.fr.sub, s'.fr.tabs⟩ s'.tr ⟨p, ho, e1, .inl e2, e3⟩ (outs s' eo)
        | .plc j, ⟨R1, sv, R2⟩, er =>
          cases sv with
          | val d =>
            simp only [retS, R2, Option.some.injEq] at er
            subst er
            obtain ⟨v', h1, h2⟩ := s'.fr.vals j d R2
            rw [R1] at h1; cases h1
            exact h v F' H' ⟨s'.fr.sub, s'.fr.tabs⟩ s'.tr h2 (outs s' eo)
          | own ob =>
            simp only [retS, R2] at er
            split at er
            · rename_i hi
              split at er
              · rename_i o0 h0
                split at er
                · cases er; exact frz j ob R1 R2 rfl
                · rename_i nj
                  cases er; exact giv j ob R1 R2 (fun _ => ⟨nj, o0, h0⟩) rfl
              · cases er; exact frz j ob R1 R2 rfl
            · rename_i hi
              cases er; exact giv j ob R1 R2 (fun z => absurd z hi) rfl
  | bk => exact h.elim
  | ct => exact h.elim
theorem runB_ok {io : Bool} {np nl : Nat} {ts : TS} {mb : SM} {N : List Str} (hN : N.length = nl) (hio : io = true → 0 < np) (hb : SimS k (if io = true then [0] else []) none ts mb) {vs : List V} {Q : VK} {E : XK} (h : spF k io np (runB io nl mb) vs H Q E) :
    ts { nx := fun _ H' => Q .non H', rt := Q } (L2.start N vs) H := by
  obtain ⟨F, args, sb, ar, hl, h⟩ := h
  exact runB_gen hN hio hb sb ar hl (h.mono fun x _ q => ⟨q, fun W hW => nomatch hW⟩)
end
end Pv

/-! Pv9: a def called. -/
namespace Pv
open PySem PySem.Spec PySem.SeqAt L2

def flat0 : D → Bool
  | .none => true
  | .bool _ => true
  | .int _ => true
  | .str _ => true
  | _ => false
mutual
def nl : D → Bool
  | .none => true
  | .bool _ => true
  | .int _ => true
  | .str _ => true
  | .tuple xs => nlAll xs
  | .list _ => false
  | .dict kvs => (match kvs with
    | [(.bool true, .list xs)] => xs.all flat0
    | [(.bool true, .tuple xs)] => xs.all flat0
    | _ => false)
def nlAll : List D → Bool
  | [] => true
  | x :: xs => nl x && nlAll xs
end
def nlS : SV → Bool
  | .val d => nl d
  | .own (.lst xs) => nlAll xs
  | .own (.ins _ fs) => nlAll fs
  | .own (.dct _ _ _) => false
  | .own (.dcn _ _) => false
def Mu : HO → Prop
  | .lst _ => True
  | .ins _ _ _ => True
  | .dK _ => True
  | .dT _ => True
  | .frz _ (.dK _) => True
  | .frz _ (.dT _) => True
  | .ext _ => True
  | _ => False
theorem Mu.sub {F F' : Hp} (s : Sub F F') {p : Addr} {o : HO} (e : F p = some o) (m : Mu o) : ∃ o, F' p = some o ∧ Mu o := by
  obtain ⟨o', e', z⟩ := s p o e
  refine ⟨o', e', ?_⟩
  cases o with
  | lst xs => rw [nlk_fx z True.intro]; trivial
  | ins a b c => rw [nlk_fx z True.intro]; trivial
  | ext a => rw [nlk_fx z True.intro]; trivial
  | dK x => rcases nlk_dc z True.intro with rfl | ⟨od, rfl⟩ <;> trivial
  | dT x => rcases nlk_dc z True.intro with rfl | ⟨od, rfl⟩ <;> trivial
  | frz od u =>
    cases u with
    | dK x => rcases nlk_dc (o := .dK x) z True.intro with rfl | ⟨od, rfl⟩ <;> trivial
    | dT x => rcases nlk_dc (o := .dT x) z True.intro with rfl | ⟨od, rfl⟩ <;> trivial
    | _ => exact m.elim
  | _ => exact m.elim
theorem rep_flat {k : Kx} {F F2 : Hp} {v : V} {d : D} (h : flat0 d = true) (r : Rep k F v d) : Rep k F2 v d := by
  cases r <;> first | exact .non | exact .bl _ | exact .int _ | exact .str _ | simp [flat0] at h
theorem repL_flat {k : Kx} {F F2 : Hp} : ∀ {vs : List V} {ds : List D}, ds.all flat0 = true → RepL k F vs ds → RepL k F2 vs ds
  | _, _, _, .nil => .nil
  | _, _, h, .cons a b => by
    simp only [List.all_cons, Bool.and_eq_true] at h
    exact .cons (rep_flat h.1 a) (repL_flat h.2 b)
section
variable {k : Kx} {F F2 : Hp} {B : Addr → Prop} (hB : ∀ a, B a → ∃ o, F a = some o ∧ Mu o) (h2 : ∀ a, ¬ B a → F2 a = F a)
include hB h2
mutual
theorem nl_del : ∀ {v : V} {d : D}, nl d = true → Rep k F v d → Rep k F2 v d
  | _, _, _, .non => .non
  | _, _, _, .bl b => .bl b
  | _, _, _, .int i => .int i
  | _, _, _, .str x => .str x
  | _, _, h, .lst _ _ => by simp [nl] at h
  | _, .tuple xs, h, .tup (a := a) e r => by
    have h' : nlAll xs = true := by simpa [nl] using h
    refine .tup ?_ (nlAll_del h' r)
    rw [h2 a fun z => by obtain ⟨o, q, m⟩ := hB a z; rw [e] at q; cases q; exact m.elim]; exact e
  | _, .dict [(.bool true, .list xs)], h, .fls (a := a) e r => by
    have h' : xs.all flat0 = true := by simpa [nl] using h
    refine .fls ?_ (repL_flat h' r)
    rcases e with ⟨ob, e⟩ | e
    · exact .inl ⟨ob, by rw [h2 a fun z => by obtain ⟨o, q, m⟩ := hB a z; rw [e] at q; cases q; exact m.elim]; exact e⟩
    · exact .inr e
  | _, .dict [(.bool true, .tuple xs)], h, .xt (a := a) e r => by
    have h' : xs.all flat0 = true := by simpa [nl] using h
    refine .xt ?_ (repL_flat h' r)
    obtain ⟨ob, e, c1, c2⟩ := e
    exact ⟨ob, by rw [h2 a fun z => by obtain ⟨o, q, m⟩ := hB a z; rw [e] at q; cases q; exact m.elim]; exact e, c1, c2⟩
  | _, _, h, .obj _ _ _ _ _ => by simp [nl] at h
  | _, _, h, .dnil _ => by simp [nl] at h
  | _, _, h, .dct _ _ _ => by simp [nl] at h
  | _, _, h, .fn _ => by simp [nl] at h
  | _, _, h, .nfn _ _ _ => by simp [nl] at h
  | _, _, h, .dcn _ _ _ _ => by simp [nl] at h
theorem nlAll_del : ∀ {vs : List V} {ds : List D}, nlAll ds = true → RepL k F vs ds → RepL k F2 vs ds
  | _, _, _, .nil => .nil
  | _, _, h, .cons a b => by
    simp only [nlAll, Bool.and_eq_true] at h
    exact .cons (nl_del h.1 a) (nlAll_del h.2 b)
end
end
def passB (ρ : Rho) : List Rv → Option (List SV)
  | [] => some []
  | .sv s :: rs => (passB ρ rs).bind fun ss => some (s :: ss)
  | .plc j :: rs => match ρ[j]? with
    | some (some s) => (passB ρ rs).bind fun ss => some (.val s.d :: ss)
    | _ => none
def frAll (ρ : Rho) : List Rv → Rho
  | [] => ρ
  | .sv _ :: rs => frAll ρ rs
  | .plc j :: rs => match ρ[j]? with
    | some (some (.own o)) => frAll (ρ.set j (some (.val o.d))) rs
    | _ => frAll ρ rs
def plcs : List Rv → List Nat
  | [] => []
  | .sv _ :: rs => plcs rs
  | .plc j :: rs => j :: plcs rs
def evCallL (np : Nat) (cm : CM) (ma : AM) : EM := fun ρ => (ma ρ).bind fun a => (passB a.2 a.1).bind fun as => if as.length = np then (cm as).bind fun x => some (.sv x.1, if nlS x.1 = true then a.2 else frAll a.2 a.1) else none
def evCallI (np : Nat) (cm : CM) (ma : AM) : EM := fun ρ => (ma ρ).bind fun a => match a.1 with
  | .plc j :: rs => (match a.2[j]? with
    | some (some (.own o)) => if j ∈ plcs rs then none else (passB a.2 rs).bind fun as => if as.length + 1 = np then (cm (.own o :: as)).bind fun x =>
        some (.sv x.1, (if (nlS x.1 && nlS x.2) = true then a.2 else frAll a.2 rs).set j (some x.2)) else none
    | _ => none)
  | _ => none
theorem mem_plcs {j : Nat} : ∀ {rs : List Rv}, j ∈ plcs rs ↔ Rv.plc j ∈ rs
  | [] => by simp [plcs]
  | .sv _ :: rs => by simp [plcs, mem_plcs (rs := rs)]
  | .plc i :: rs => by simp [plcs, mem_plcs (rs := rs)]
theorem frAll_len : ∀ {rs : List Rv} {ρ : Rho}, (frAll ρ rs).length = ρ.length
  | [], _ => rfl
  | .sv _ :: rs, ρ => by unfold frAll; exact frAll_len
  | .plc j :: rs, ρ => by
    unfold frAll
    split
    · rw [frAll_len]; simp
    · exact frAll_len
theorem frAll_get : ∀ {rs : List Rv} {ρ : Rho} {i : Nat} {s : SV}, (frAll ρ rs)[i]? = some (some s) → (ρ[i]? = some (some s) ∧ ∀ o, s = .own o → Rv.plc i ∉ rs) ∨ (∃ o, Rv.plc i ∈ rs ∧ ρ[i]? = some (some (.own o)) ∧ s = .val o.d)
  | [], _, _, _, h => .inl ⟨h, fun _ _ => by simp⟩
  | .sv _ :: rs, ρ, i, s, h => by
    unfold frAll at h
    rcases frAll_get h with ⟨h1, h2⟩ | ⟨o, h1, h2⟩
    · exact .inl ⟨h1, fun o e => by simp only [List.mem_cons, not_or]; exact ⟨by simp, h2 o e⟩⟩
    · exact .inr ⟨o, List.mem_cons_of_mem _ h1, h2⟩
  | .plc j :: rs, ρ, i, s, h => by
    unfold frAll at h
    split at h
    · rename_i o ho
      rcases frAll_get h with ⟨h1, h2⟩ | ⟨o', h1, h2, h3⟩
      · rcases set_get h1 with ⟨e1, e2, _⟩ | ⟨ne, h1⟩
        · subst e1
          cases e2
          exact .inr ⟨o, List.mem_cons_self, ho, rfl⟩
        · exact .inl ⟨h1, fun o e => by simp only [List.mem_cons, not_or]; exact ⟨by rintro ⟨⟩; exact ne rfl, h2 o e⟩⟩
      · rcases set_get h2 with ⟨_, e2, _⟩ | ⟨ne, h2⟩
        · cases e2
        · exact .inr ⟨o', List.mem_cons_of_mem _ h1, h2, h3⟩
    · rename_i hno
      rcases frAll_get h with ⟨h1, h2⟩ | ⟨o, h1, h2⟩
      · refine .inl ⟨h1, fun o e => ?_⟩
        simp only [List.mem_cons, not_or]
        refine ⟨?_, h2 o e⟩
        rintro ⟨⟩
        subst e
        exact hno o h1
      · exact .inr ⟨o, List.mem_cons_of_mem _ h1, h2⟩
theorem frAll_sls : ∀ {rs : List Rv} {ρ : Rho}, Sls ρ (frAll ρ rs)
  | [], _ => fun _ s h => ⟨s, h⟩
  | .sv _ :: rs, ρ => by unfold frAll; exact frAll_sls
  | .plc j :: rs, ρ => by
    unfold frAll
    split
    · exact fun i s h => let ⟨s', h'⟩ := slots_set i s h; frAll_sls i s' h'
    · exact frAll_sls
def Lent (ρ : Rho) (σ : L2.St) (rs : List Rv) (p : Addr) : Prop := ∃ (j : Nat) (o : OB), Rv.plc j ∈ rs ∧ ρ[j]? = some (some (.own o)) ∧ σ[j]? = some (some (.ref p))
open Classical in
noncomputable def lendF (B : Addr → Prop) (F H : Hp) : Hp := fun a => if B a then H a else F a
open Classical in
noncomputable def unlF (B : Addr → Prop) (F : Hp) : Hp := fun a => if B a then none else F a
section
variable {k : Kx} {ρ ρ1 : Rho} {σ : L2.St} {F H F1 H1 F' H' : Hp} {rs : List Rv} {vs : List V}
theorem Lent.own {p : Addr} (h : Lent ρ σ rs p) : Own ρ σ p := let ⟨j, o, _, h2, h3⟩ := h; ⟨j, o, h2, h3⟩
theorem Lent.lst (f : FR k F ρ σ H) {p : Addr} (h : Lent ρ σ rs p) : ∃ o, H p = some o ∧ Mu o := by
  obtain ⟨j, o, _, h2, h3⟩ := h
  obtain ⟨q, ho, e1, e2, _, e4⟩ := f.owns j o h2
  rw [h3] at e1; cases e1
  cases o with
  | lst xs => obtain ⟨ws, rfl, _⟩ := e4; exact ⟨_, e2, trivial⟩
  | ins c fs => obtain ⟨C, ns, dx, vs, _, rfl, _⟩ := e4; exact ⟨_, e2, trivial⟩
  | dct t ks ds =>
    obtain ⟨vs, rfl, _⟩ := e4
    refine ⟨_, e2, ?_⟩
    unfold hoD
    split <;> trivial
  | dcn ks ds => obtain ⟨es, rfl, _⟩ := e4; exact ⟨_, e2, trivial⟩
theorem lend_sub (f : FR k F ρ σ H) : Sub F (lendF (Lent ρ σ rs) F H) := fun a o e => by
  unfold lendF
  split
  · rename_i h
    rw [f.own_none h.own] at e; cases e
  · exact ⟨_, e, rfl⟩
theorem lend_in (f : FR k F ρ σ H) : Sub (lendF (Lent ρ σ rs) F H) H := fun a o e => by
  unfold lendF at e
  split at e
  · exact ⟨_, e, rfl⟩
  · exact f.sub a o e
theorem lend_at {p : Addr} (h : Lent ρ σ rs p) : lendF (Lent ρ σ rs) F H p = H p := by unfold lendF; rw [if_pos h]
theorem lend_off {p : Addr} (h : ¬ Lent ρ σ rs p) : lendF (Lent ρ σ rs) F H p = F p := by unfold lendF; rw [if_neg h]
theorem passB_ok (f0 : FR k F ρ σ H) (A : Aft k ρ σ F H ρ1 F1 H1) {all : List Rv} (hall : ∀ r ∈ rs, r ∈ all) : ∀ {rs : List Rv} {vs : List V} {Hs : Hp} {as : List SV}, (∀ r ∈ rs, r ∈ all) → (∀ p, H p ≠ none → Hs p ≠ none) → RRs k F1 ρ1 σ H1 Hs rs vs → passB ρ1 rs = some as →
    ArgsR k (lendF (Lent ρ1 σ all) F1 H1) H1 as vs ∧ ∀ p, ArgOwn as vs p → Hs p = none ∧ H1 p ≠ none
  | [], _, _, _, _, _, .nil, e => by
    simp only [passB, Option.some.injEq] at e
    subst e
    exact ⟨.nil, fun p ⟨i, o, h, _⟩ => by simp at h⟩
  | .sv s :: rs, v :: vs, Hs, as, hm, hs, .cons (H1 := Hn) a b c d, e => by
    simp only [passB, Option.bind_eq_some_iff] at e
    obtain ⟨ss, e1, e2⟩ := e
    cases e2
    obtain ⟨i1, i2⟩ := passB_ok f0 A hall (rs := rs) (fun r hr => hm r (List.mem_cons_of_mem _ hr)) (fun p h => c p (hs p h)) b e1
    have hd : ArgR k (lendF (Lent ρ1 σ all) F1 H1) H1 s v := by
      cases s with
      | val dd => exact Rep.mono (lend_sub A.fr) a
      | own o =>
        obtain ⟨p, ho, q1, q2, q3, q4, q5⟩ := a
        refine ⟨p, ho, q1, q3, ?_, q5.mono (lend_sub A.fr)⟩
        rw [lend_off]
        · exact q4
        · intro z
          obtain ⟨u, hu⟩ := f0.own_some (A.ow p z.own)
          exact absurd q2 (hs p (by rw [hu]; simp))
    refine ⟨.cons hd i1 fun o eo j o' h1 h2 => ?_, fun p hp => ?_⟩
    · obtain ⟨p, q1, q2⟩ := d o (by rw [eo])
      exact absurd (i2 p ⟨j, o', h1, by rw [h2, q1]⟩).1 q2
    · obtain ⟨i, o, h1, h2⟩ := hp
      cases i with
      | zero =>
        simp at h1 h2
        subst h1
        obtain ⟨q, ho, q1, q2, q3, q4, q5⟩ := a
        rw [h2] at q1; cases q1
        exact ⟨q2, by rw [q3]; simp⟩
      | succ i =>
        obtain ⟨z1, z2⟩ := i2 p ⟨i, o, by simpa using h1, by simpa using h2⟩
        refine ⟨?_, z2⟩
        cases z : Hs p with
        | none => rfl
        | some u => exact absurd z1 (c p (by rw [z]; simp))
  | .plc j :: rs, v :: vs, Hs, as, hm, hs, .cons (H1 := Hn) a b c d, e => by
    simp only [passB] at e
    split at e
    · rename_i s0 hs0
      simp only [Option.bind_eq_some_iff] at e
      obtain ⟨ss, e1, e2⟩ := e
      cases e2
      obtain ⟨i1, i2⟩ := passB_ok f0 A hall (rs := rs) (fun r hr => hm r (List.mem_cons_of_mem _ hr)) (fun p h => c p (hs p h)) b e1
      have hd : Rep k (lendF (Lent ρ1 σ all) F1 H1) v s0.d := by
        obtain ⟨q1, _⟩ := a
        cases s0 with
        | val dd =>
          obtain ⟨v', r1, r2⟩ := A.fr.vals j dd hs0
          rw [q1] at r1; cases r1
          exact r2.mono (lend_sub A.fr)
        | own o =>
          obtain ⟨p, ho, r1, r2, r3, r4⟩ := A.fr.owns j o hs0
          rw [q1] at r1; cases r1
          exact RepO.rep (r4.mono (lend_sub A.fr)) ⟨_, (by rw [lend_at ⟨j, o, hm _ List.mem_cons_self, hs0, q1⟩]; exact r2), rfl⟩
      refine ⟨.cons hd i1 (fun o eo => nomatch eo), fun p hp => ?_⟩
      obtain ⟨i, o, h1, h2⟩ := hp
      cases i with
      | zero => simp at h1
      | succ i =>
        obtain ⟨z1, z2⟩ := i2 p ⟨i, o, by simpa using h1, by simpa using h2⟩
        refine ⟨?_, z2⟩
        cases z : Hs p with
        | none => rfl
        | some u => exact absurd z1 (c p (by rw [z]; simp))
    · cases e
end
end Pv

/-! Pva: a def called: the simulation. -/
namespace Pv
open PySem PySem.Spec PySem.SeqAt L2
section
variable {k : Kx} {ρ ρ1 : Rho} {σ : L2.St} {F H F1 H1 F' H' : Hp} {rs : List Rv} {vs : List V}
theorem unl_off {B : Addr → Prop} {p : Addr} (h : ¬ B p) : unlF B F p = F p := by unfold unlF; rw [if_neg h]
theorem unl_at {B : Addr → Prop} {p : Addr} (h : B p) : unlF B F p = none := by unfold unlF; rw [if_pos h]
theorem unl_sub {B : Addr → Prop} : Sub (unlF B F) F := fun a o e => by
  unfold unlF at e
  split at e
  · cases e
  · exact ⟨_, e, rfl⟩
theorem backL (f1 : FR k F1 ρ1 σ H1) {I : Addr → Prop} (sb : Sub F' H') (tr : Tr I (lendF (Lent ρ1 σ rs) F1 H1) H1 F' H') (hI : ∀ p, I p → ¬ Own ρ1 σ p ∨ ∃ j o, Rv.plc j ∉ rs ∧ ρ1[j]? = some (some (.own o)) ∧ σ[j]? = some (some (.ref p))) {ρ2 : Rho} {F2 : Hp}
    (hF : (F2 = unlF (Lent ρ1 σ rs) F' ∧ ρ2 = ρ1) ∨ (F2 = F' ∧ ρ2 = frAll ρ1 rs)) :
    Sub F2 H' ∧ Sub F1 F2 ∧ ρ2.length = σ.length ∧ Sls ρ1 ρ2 ∧ (∀ (i : Nat) (d : D), ρ2[i]? = some (some (.val d)) → ∃ v, σ[i]? = some (some v) ∧ Rep k F2 v d) ∧
    (∀ (i : Nat) (o : OB), ρ2[i]? = some (some (.own o)) → ρ1[i]? = some (some (.own o)) ∧ ∃ p ho, σ[i]? = some (some (.ref p)) ∧ (¬ I p → H' p = some ho ∧ F2 p = none ∧ RepO k F2 p o ho)) ∧
    (∀ p o, H1 p = some o → NTb o → ¬ I p → H' p = some o) ∧ (∀ p o, H1 p = some o → NoT o → F1 p = none → ¬ I p → ¬ Own ρ1 σ p → F2 p = none) := by
  have nI : ∀ p, Lent ρ1 σ rs p → ¬ I p := fun p h z => by
    rcases hI p z with n | ⟨j, o, h1, h2, h3⟩
    · exact n h.own
    · obtain ⟨j', o', q1, q2, q3⟩ := h
      have := f1.dist j j' o o' p h2 q2 h3 q3
      subst this
      exact h1 q1
  have s1 : Sub F1 F' := (lend_sub f1).trans tr.sub
  rcases hF with ⟨rfl, rfl⟩ | ⟨rfl, rfl⟩
  · have s2 : Sub F1 (unlF (Lent ρ2 σ rs) F') := fun a o e => by
      rw [unl_off]
      · exact s1 a o e
      · intro z
        rw [f1.own_none z.own] at e; cases e
    refine ⟨unl_sub.trans sb, s2, f1.len, fun i s h => ⟨s, h⟩, fun i d h => ?_, fun i o h => ⟨h, ?_⟩, tr.keep, fun p o h1 m h2 h3 h4 => ?_⟩
    · obtain ⟨v, e, r⟩ := f1.vals i d h
      exact ⟨v, e, r.mono s2⟩
    · obtain ⟨p, ho, e1, e2, e3, e4⟩ := f1.owns i o h
      refine ⟨p, ho, e1, fun n => ⟨tr.keep p ho e2 e4.ntb n, ?_, e4.mono s2⟩⟩
      by_cases z : Lent ρ2 σ rs p
      · exact unl_at z
      · rw [unl_off z]
        exact tr.new p ho e2 e4.nt (by rw [lend_off z]; exact e3) n
    · have z : ¬ Lent ρ2 σ rs p := fun z => h4 z.own
      rw [unl_off z]
      exact tr.new p o h1 m (by rw [lend_off z]; exact h2) h3
  · refine ⟨sb, s1, by rw [frAll_len]; exact f1.len, frAll_sls, fun i d h => ?_, fun i o h => ?_, tr.keep, fun p o h1 m h2 h3 h4 => ?_⟩
    · rcases frAll_get h with ⟨h1, _⟩ | ⟨o, h1, h2, h3⟩
      · obtain ⟨v, e, r⟩ := f1.vals i d h1
        exact ⟨v, e, r.mono s1⟩
      · cases h3
        obtain ⟨p, ho, e1, e2, e3, e4⟩ := f1.owns i o h2
        refine ⟨.ref p, e1, RepO.rep (e4.mono s1) ?_⟩
        exact tr.sub p ho (by rw [lend_at ⟨i, o, h1, h2, e1⟩]; exact e2)
    · rcases frAll_get h with ⟨h1, h2⟩ | ⟨o', h1, h2, h3⟩
      · obtain ⟨p, ho, e1, e2, e3, e4⟩ := f1.owns i o h1
        refine ⟨h1, p, ho, e1, fun n => ⟨tr.keep p ho e2 e4.ntb n, ?_, e4.mono s1⟩⟩
        have z : ¬ Lent ρ1 σ rs p := fun ⟨j, o', q1, q2, q3⟩ => by
          have := f1.dist i j o o' p h1 q2 e1 q3
          subst this
          exact h2 o rfl q1
        exact tr.new p ho e2 e4.nt (by rw [lend_off z]; exact e3) n
      · cases h3
    · have z : ¬ Lent ρ1 σ rs p := fun z => h4 z.own
      exact tr.new p o h1 m (by rw [lend_off z]; exact h2) h3
theorem Lent.lstF (f1 : FR k F1 ρ1 σ H1) {I : Addr → Prop} (tr : Tr I (lendF (Lent ρ1 σ rs) F1 H1) H1 F' H') : ∀ p, Lent ρ1 σ rs p → ∃ o, F' p = some o ∧ Mu o := fun p h => by
  obtain ⟨ws, e, m⟩ := h.lst f1
  exact Mu.sub tr.sub (show lendF (Lent ρ1 σ rs) F1 H1 p = some ws by rw [lend_at h]; exact e) m
theorem nlS_del {B : Addr → Prop} (hB : ∀ a, B a → ∃ o, F' a = some o ∧ Mu o) {A : Addr → Prop} {s : SV} {v : V} (h : nlS s = true) (r : ResR k A H F' H' s v) : ResR k A H (unlF B F') H' s v := by
  cases s with
  | val d => exact nl_del hB (fun a z => unl_off z) h r
  | own o =>
    cases o with
    | lst xs =>
      obtain ⟨p, ho, e1, e2, e3, e4, ws, rfl, r⟩ := r
      refine ⟨p, _, e1, e2, e3, ?_, ws, rfl, nlAll_del hB (fun a z => unl_off z) h r⟩
      by_cases z : B p
      · exact unl_at z
      · rw [unl_off z]; exact e4
    | dct t ks ds => simp [nlS] at h
    | dcn ks ds => simp [nlS] at h
    | ins c fs =>
      obtain ⟨p, ho, e1, e2, e3, e4, C, ns, dx, vs, q1, rfl, q3, q4, r⟩ := r
      refine ⟨p, _, e1, e2, e3, ?_, C, ns, dx, vs, q1, rfl, ?_, q4, nlAll_del hB (fun a z => unl_off z) h r⟩
      · by_cases z : B p
        · exact unl_at z
        · rw [unl_off z]; exact e4
      · rw [unl_off]
        · exact q3
        · intro z
          obtain ⟨o, y1, y2⟩ := hB dx z
          rw [q3] at y1; cases y1; exact y2
theorem nlA_del {B : Addr → Prop} (hB : ∀ a, B a → ∃ o, F' a = some o ∧ Mu o) {s : SV} {v : V} (h : nlS s = true) (r : ArgR k F' H' s v) : ArgR k (unlF B F') H' s v := by
  cases s with
  | val d => exact nl_del hB (fun a z => unl_off z) h r
  | own o =>
    cases o with
    | lst xs =>
      obtain ⟨p, ho, e1, e3, e4, ws, rfl, r⟩ := r
      refine ⟨p, _, e1, e3, ?_, ws, rfl, nlAll_del hB (fun a z => unl_off z) h r⟩
      by_cases z : B p
      · exact unl_at z
      · rw [unl_off z]; exact e4
    | dct t ks ds => simp [nlS] at h
    | dcn ks ds => simp [nlS] at h
    | ins c fs =>
      obtain ⟨p, ho, e1, e3, e4, C, ns, dx, vs, q1, rfl, q3, q4, r⟩ := r
      refine ⟨p, _, e1, e3, ?_, C, ns, dx, vs, q1, rfl, ?_, q4, nlAll_del hB (fun a z => unl_off z) h r⟩
      · by_cases z : B p
        · exact unl_at z
        · rw [unl_off z]; exact e4
      · rw [unl_off]
        · exact q3
        · intro z
          obtain ⟨o, y1, y2⟩ := hB dx z
          rw [q3] at y1; cases y1; exact y2
end
theorem simCallL {k : Kx} {io : Bool} {np : Nat} {cm : CM} {E : XK} {ta : TA} {ma : AM} (ha : SimA k ta ma) : SimE k (tCall (spF k io np cm) [] E ta) (evCallL np cm ma) := by
  intro F ρ σ H Q f h
  unfold evCallL at h
  refine ha F ρ σ H _ f ((wpo_bind.mp h).mono fun a _ h => ?_)
  intro vs F1 H1 A1 R1
  have h := wpo_bind.mp h
  cases e1 : passB a.2 a.1 with
  | none => rw [e1] at h; exact h.elim
  | some as =>
    rw [e1] at h
    have h : wpo (if as.length = np then (cm as).bind fun x => some (Rv.sv x.1, if nlS x.1 = true then a.2 else frAll a.2 a.1) else none) _ := h
    obtain ⟨ar, ao⟩ := passB_ok (all := a.1) (rs := a.1) f A1 (fun _ z => z) (fun _ z => z) (fun _ z => z) R1 e1
    split at h
    · rename_i hl
      have el := ar.len
      refine ⟨_, as, ⟨lend_in A1.fr, A1.fr.tabs⟩, by rw [List.append_nil]; exact ar, by rw [List.append_nil]; omega, (wpo_bind.mp h).mono fun x _ h => ?_⟩
      intro v F' H' sb tr rr _
      rw [List.append_nil] at tr rr
      have hI : ∀ p, ArgOwn as vs p → ¬ Own a.2 σ p := fun p z o => by
        obtain ⟨u, hu⟩ := f.own_some (A1.ow p o)
        rw [(ao p z).1] at hu; cases hu
      have hI' : ∀ p, ArgOwn as vs p → ¬ Own a.2 σ p ∨ ∃ j o, Rv.plc j ∉ a.1 ∧ a.2[j]? = some (some (.own o)) ∧ σ[j]? = some (some (.ref p)) := fun p z => .inl (hI p z)
      have fin : ∀ {ρ2 : Rho} {F2 : Hp}, ((F2 = unlF (Lent a.2 σ a.1) F' ∧ ρ2 = a.2) ∨ (F2 = F' ∧ ρ2 = frAll a.2 a.1)) → Aft k ρ σ F H ρ2 F2 H' := fun {ρ2 F2} hF => by
        obtain ⟨b1, b2, b3, b4, b5, b6, b7, b8⟩ := backL A1.fr sb.sub tr hI' hF
        have ow : ∀ p, Own ρ2 σ p → Own a.2 σ p := fun p ⟨i, o, q1, q2⟩ => ⟨i, o, (b6 i o q1).1, q2⟩
        refine ⟨⟨b1, b3, b5, fun i o q => ?_, fun i j o o' p q1 q2 q3 q4 => A1.fr.dist i j o o' p (b6 i o q1).1 (b6 j o' q2).1 q3 q4, sb.tabs⟩, ⟨A1.tr.sub.trans b2, fun p o q mt n => ?_, fun p o q m n n2 => ?_, fun p o q => ?_⟩, fun p z => A1.ow p (ow p z), fun i s q => let ⟨s', q'⟩ := A1.sl i s q; b4 i s' q'⟩
        · obtain ⟨q0, p, ho, q1, q2⟩ := b6 i o q
          obtain ⟨q3, q4, q5⟩ := q2 fun z => hI p z ⟨i, o, q0, q1⟩
          exact ⟨p, ho, q1, q3, q4, q5⟩
        · exact b7 p o (A1.tr.keep p o q mt n) mt fun z => by rw [(ao p z).1] at q; cases q
        · exact b8 p o (A1.tr.keep p o q m.ntb n2) m (A1.tr.new p o q m n n2) (fun z => by rw [(ao p z).1] at q; cases q) fun z => n2 (A1.ow p z)
        · obtain ⟨o', q'⟩ := A1.tr.there p o q
          exact tr.there p o' q'
      have res : ∀ {ρ2 : Rho} {F2 : Hp}, ResR k (ArgGiv io as vs) H1 F2 H' x.1 v → RR k H F2 ρ2 σ H' (.sv x.1) v := fun {ρ2 F2} rr => by
        cases hx : x.1 with
        | val d => rw [hx] at rr; exact rr
        | own o =>
          rw [hx] at rr
          obtain ⟨p, ho, q1, q2, q3⟩ := rr
          refine ⟨p, ho, q1, ?_, q3⟩
          rcases q2 with q2 | ⟨i, o', _, q4, q5⟩
          · exact A1.none_of q2
          · exact (ao p ⟨i, o', q4, q5⟩).1
      by_cases hn : nlS x.1 = true
      · have h := h v (unlF (Lent a.2 σ a.1) F') H'
        simp only [if_pos hn] at h
        exact h (fin (.inl ⟨rfl, rfl⟩)) (res (nlS_del (Lent.lstF A1.fr tr) hn rr))
      · have h := h v F' H'
        simp only [if_neg hn] at h
        exact h (fin (.inr ⟨rfl, rfl⟩)) (res rr)
    · exact h.elim
theorem simCallI {k : Kx} {np : Nat} {cm : CM} {E : XK} {ta : TA} {ma : AM} (ha : SimA k ta ma) : SimE k (tCall (spF k true np cm) [] E ta) (evCallI np cm ma) := by
  intro F ρ σ H Q f h
  unfold evCallI at h
  refine ha F ρ σ H _ f ((wpo_bind.mp h).mono fun a _ h => ?_)
  intro vs F1 H1 A1 R1
  obtain ⟨al, ρ1⟩ := a
  dsimp only at h A1 R1
  match al, h, R1 with
  | [], h, _ => exact h.elim
  | .sv _ :: _, h, _ => exact h.elim
  | .plc j :: rs, h, R1 =>
    dsimp only at h
    split at h
    · rename_i o hj
      split at h
      · exact h.elim
      · rename_i njp
        have nj : Rv.plc j ∉ rs := fun z => njp (mem_plcs.mpr z)
        match vs, R1 with
        | v0 :: vs, .cons (H1 := Hn) r0 R1 c d =>
          obtain ⟨q1, _⟩ := r0
          obtain ⟨p0, ho, e1, e2, e3, e4⟩ := A1.fr.owns j o hj
          rw [q1] at e1; cases e1
          have op0 : Own ρ1 σ p0 := ⟨j, o, hj, q1⟩
          have h := wpo_bind.mp h
          cases eb : passB ρ1 rs with
          | none => rw [eb] at h; exact h.elim
          | some as =>
            rw [eb] at h
            have h : wpo (if as.length + 1 = np then (cm (.own o :: as)).bind fun x => some (Rv.sv x.1, List.set (if (nlS x.1 && nlS x.2) = true then ρ1 else frAll ρ1 rs) j (some x.2)) else none) _ := h
            obtain ⟨ar, ao⟩ := passB_ok (all := rs) (rs := rs) f A1 (fun _ z => z) (fun _ z => z) c R1 eb
            have aoH : ∀ p, ArgOwn as vs p → H p = none := fun p z => by
              cases y : H p with
              | none => rfl
              | some u => exact absurd (ao p z).1 (c p (by rw [y]; simp))
            have nl0 : ¬ Lent ρ1 σ rs p0 := fun ⟨j', o', z1, z2, z3⟩ => by
              have := A1.fr.dist j j' o o' p0 hj z2 q1 z3
              subst this
              exact nj z1
            have n0 : ¬ ArgOwn as vs p0 := fun z => by
              obtain ⟨u, hu⟩ := f.own_some (A1.ow p0 op0)
              rw [aoH p0 z] at hu; cases hu
            have AO : ∀ p, ArgOwn (.own o :: as) (.ref p0 :: vs) p → p = p0 ∨ ArgOwn as vs p := fun p ⟨i, o', z1, z2⟩ => by
              cases i with
              | zero => simp at z2; exact .inl z2.symm
              | succ i => exact .inr ⟨i, o', by simpa using z1, by simpa using z2⟩
            split at h
            · rename_i hl
              have el := ar.len
              refine ⟨lendF (Lent ρ1 σ rs) F1 H1, .own o :: as, ⟨lend_in A1.fr, A1.fr.tabs⟩, ?_, ?_, (wpo_bind.mp h).mono fun x _ h => ?_⟩
              · rw [List.append_nil]
                exact .cons ⟨p0, ho, rfl, e2, by rw [lend_off nl0]; exact e3, e4.mono (lend_sub A1.fr)⟩ ar fun o1 _ i o' z1 z2 => n0 ⟨i, o', z1, z2⟩
              · rw [List.append_nil, List.length_cons]; omega
              intro v F' H' sb tr rr outs
              rw [List.append_nil] at tr rr outs
              obtain ⟨u, hu, ou⟩ := outs rfl
              simp at hu
              subst hu
              have hI : ∀ p, ArgOwn (.own o :: as) (.ref p0 :: vs) p → ¬ Own ρ1 σ p ∨ ∃ j o, Rv.plc j ∉ rs ∧ ρ1[j]? = some (some (.own o)) ∧ σ[j]? = some (some (.ref p)) := fun p z => by
                rcases AO p z with rfl | z
                · exact .inr ⟨j, o, nj, hj, q1⟩
                · refine .inl fun w => ?_
                  obtain ⟨u, hu⟩ := f.own_some (A1.ow p w)
                  rw [aoH p z] at hu; cases hu
              have fin : ∀ {ρ2 : Rho} {F2 : Hp}, ArgR k F2 H' x.2 (.ref p0) → ((F2 = unlF (Lent ρ1 σ rs) F' ∧ ρ2 = ρ1) ∨ (F2 = F' ∧ ρ2 = frAll ρ1 rs)) → Aft k ρ σ F H (ρ2.set j (some x.2)) F2 H' := fun {ρ2 F2} ou hF => by
                obtain ⟨b1, b2, b3, b4, b5, b6, b7, b8⟩ := backL A1.fr sb.sub tr hI hF
                have own2 : ∀ (i : Nat) (o' : OB), (ρ2.set j (some x.2))[i]? = some (some (.own o')) → ∃ o1, ρ1[i]? = some (some (.own o1)) := fun i o' z => by
                  rcases set_get z with ⟨rfl, _, _⟩ | ⟨_, z⟩
                  · exact ⟨o, hj⟩
                  · exact ⟨o', (b6 i o' z).1⟩
                have ow : ∀ p, Own (ρ2.set j (some x.2)) σ p → Own ρ1 σ p := fun p ⟨i, o', z1, z2⟩ => let ⟨o1, z3⟩ := own2 i o' z1; ⟨i, o1, z3, z2⟩
                have nI : ∀ p, (∃ i o', i ≠ j ∧ ρ1[i]? = some (some (.own o')) ∧ σ[i]? = some (some (.ref p))) → ¬ ArgOwn (.own o :: as) (.ref p0 :: vs) p := fun p ⟨i, o', ni, z1, z2⟩ z => by
                  rcases AO p z with rfl | z
                  · exact ni (A1.fr.dist i j o' o p z1 hj z2 q1)
                  · obtain ⟨u, hu⟩ := f.own_some (A1.ow p ⟨i, o', z1, z2⟩)
                    rw [aoH p z] at hu; cases hu
                refine ⟨⟨b1, by simpa using b3, fun i dd q => ?_, fun i o' q => ?_, fun i i' o1 o2 p z1 z2 z3 z4 => ?_, sb.tabs⟩, ⟨A1.tr.sub.trans b2, fun p o' q mt n => ?_, fun p o' q m n n2 => ?_, fun p o' q => ?_⟩, fun p z => A1.ow p (ow p z), fun i s q => ?_⟩
                · rcases set_get q with ⟨rfl, z, _⟩ | ⟨_, z⟩
                  · cases z2 : x.2 with
                    | val d' =>
                      rw [z2] at z ou; cases z
                      exact ⟨_, q1, ou⟩
                    | own o' => rw [z2] at z; cases z
                  · exact b5 i dd z
                · rcases set_get q with ⟨rfl, z, _⟩ | ⟨ni, z⟩
                  · cases z2 : x.2 with
                    | val d' => rw [z2] at z; cases z
                    | own o1 =>
                      rw [z2] at z ou; cases z
                      obtain ⟨p, ho', y1, y2, y3, y4⟩ := ou
                      cases y1
                      exact ⟨p0, ho', q1, y2, y3, y4⟩
                  · obtain ⟨z0, p, ho', z1, z2⟩ := b6 i o' z
                    obtain ⟨y1, y2, y3⟩ := z2 (nI p ⟨i, o', ni, z0, z1⟩)
                    exact ⟨p, ho', z1, y1, y2, y3⟩
                · obtain ⟨_, y1⟩ := own2 i o1 z1
                  obtain ⟨_, y2⟩ := own2 i' o2 z2
                  exact A1.fr.dist i i' _ _ p y1 y2 z3 z4
                · exact b7 p o' (A1.tr.keep p o' q mt n) mt fun z => by
                    rcases AO p z with rfl | z
                    · exact n (A1.ow p op0)
                    · rw [aoH p z] at q; cases q
                · exact b8 p o' (A1.tr.keep p o' q m.ntb n2) m (A1.tr.new p o' q m n n2) (fun z => by
                    rcases AO p z with rfl | z
                    · exact n2 (A1.ow p op0)
                    · rw [aoH p z] at q; cases q) fun z => n2 (A1.ow p z)
                · obtain ⟨o1, q'⟩ := A1.tr.there p o' q
                  exact tr.there p o1 q'
                · obtain ⟨s1, q1'⟩ := A1.sl i s q
                  obtain ⟨s2, q2⟩ := b4 i s1 q1'
                  by_cases ei : i = j
                  · subst ei
                    exact ⟨x.2, List.getElem?_set_self (List.getElem?_eq_some_iff.mp q2).1⟩
                  · exact ⟨s2, by rw [get_set (Ne.symm ei)]; exact q2⟩
              have res : ∀ {ρ2 : Rho} {F2 : Hp}, ResR k (ArgGiv true (.own o :: as) (.ref p0 :: vs)) H1 F2 H' x.1 v → RR k H F2 ρ2 σ H' (.sv x.1) v := fun {ρ2 F2} rr => by
                cases hx : x.1 with
                | val d => rw [hx] at rr; exact rr
                | own o1 =>
                  rw [hx] at rr
                  obtain ⟨p, ho', q1, q2, q3⟩ := rr
                  refine ⟨p, ho', q1, ?_, q3⟩
                  rcases q2 with q2 | ⟨i, o', q6, q4, q5⟩
                  · exact A1.none_of q2
                  · cases i with
                    | zero => exact absurd rfl (q6 rfl)
                    | succ i => exact aoH p ⟨i, o', by simpa using q4, by simpa using q5⟩
              by_cases hn : (nlS x.1 && nlS x.2) = true
              · have hn' := Bool.and_eq_true_iff.mp hn
                have h := h v (unlF (Lent ρ1 σ rs) F') H'
                simp only [if_pos hn] at h
                exact h (fin (nlA_del (Lent.lstF A1.fr tr) hn'.2 ou) (.inl ⟨rfl, rfl⟩)) (res (nlS_del (Lent.lstF A1.fr tr) hn'.1 rr))
              · have h := h v F' H'
                simp only [if_neg hn] at h
                exact h (fin ou (.inr ⟨rfl, rfl⟩)) (res rr)
            · exact h.elim
    · exact h.elim
end Pv

/-! Pvb: built-in functions. -/
namespace Pv
open PySem PySem.Spec PySem.SeqAt L2

theorem RdRs.one {k : Kx} {F H : Hp} {vs : List V} {d : D} (h : RdRs k F H vs [d]) : ∃ v, vs = [v] ∧ RdR k F H v d := by
  cases h with
  | cons a b => cases b; exact ⟨_, rfl, a⟩
theorem RdRs.two {k : Kx} {F H : Hp} {vs : List V} {d e : D} (h : RdRs k F H vs [d, e]) : ∃ v u, vs = [v, u] ∧ RdR k F H v d ∧ RdR k F H u e := by
  cases h with
  | cons a b =>
    obtain ⟨u, rfl, r⟩ := b.one
    exact ⟨_, u, rfl, a, r⟩
/-! len -/
def gLen : List D → Option SV
  | [.list xs] => some (.val (.int xs.length))
  | [.tuple xs] => some (.val (.int xs.length))
  | [.dict [(.bool true, .list xs)]] => some (.val (.int xs.length))
  | [.dict [(.bool true, .tuple xs)]] => some (.val (.int xs.length))
  | [.str x] => if x.length ≤ sizeLine then some (.val (.int x.length)) else none
  | _ => none
def rLenS (K : PySem.W.Frag) : List V → Hp → VK → Prop := fun xs H Q => (∃ p ys, xs = [.ref p] ∧ (SqL K H p ys ∨ SqT K H p ys) ∧ Q (.int ys.length) H) ∨ (∃ z, xs = [.str z] ∧ z.length ≤ sizeLine ∧ Q (.int z.length) H)
theorem cr_lenS {X : Cx} : CallR X (.builtin "len") (rLenS X.K) := call_len_seq.or call_len_str
theorem simLen {k : Kx} : CallSim k (rLenS k.K) gLen := by
  intro F ρ σ H vs ds Q f rd h
  unfold gLen at h
  split at h
  · obtain ⟨v, rfl, r⟩ := rd.one
    obtain ⟨a, ws, rfl, ha, rl⟩ := r.lst f.sub
    exact .inl ⟨a, ws, rfl, .inl (.inl (.inl ha)), by rw [rl.length]; exact h _ F H (Aft.refl f) (.int _)⟩
  · obtain ⟨v, rfl, r⟩ := rd.one
    obtain ⟨a, ws, rfl, _, ha, rl⟩ := r.tup f.sub
    exact .inl ⟨a, ws, rfl, .inr ha, by rw [rl.length]; exact h _ F H (Aft.refl f) (.int _)⟩
  · obtain ⟨v, rfl, r⟩ := rd.one
    obtain ⟨a, ws, rfl, ha, rl⟩ := r.fls f.sub
    exact .inl ⟨a, ws, rfl, .inl ha, by rw [rl.length]; exact h _ F H (Aft.refl f) (.int _)⟩
  · obtain ⟨v, rfl, r⟩ := rd.one
    obtain ⟨a, ws, rfl, _, ha, rl⟩ := r.xtp f.sub
    exact .inl ⟨a, ws, rfl, .inr ha, by rw [rl.length]; exact h _ F H (Aft.refl f) (.int _)⟩
  · obtain ⟨v, rfl, r⟩ := rd.one
    split at h
    · rename_i hz
      rw [r.str]
      exact .inr ⟨_, rfl, hz, h _ F H (Aft.refl f) (.int _)⟩
    · exact h.elim
  · exact h.elim
/-! int -/
def gInt : List D → Option SV
  | [.int i] => some (.val (.int i))
  | [.bool b] => some (.val (.int (if b then 1 else 0)))
  | _ => none
def rInt1 : List V → Hp → VK → Prop := fun xs H Q => (∃ i, xs = [.int i] ∧ Q (.int i) H) ∨ ∃ k, xs = [.bl k] ∧ Q (.int (if k then 1 else 0)) H
theorem simInt {k : Kx} : CallSim k rInt1 gInt := by
  intro F ρ σ H vs ds Q f rd h
  unfold gInt at h
  split at h
  · obtain ⟨v, rfl, r⟩ := rd.one
    rw [r.int]
    exact .inl ⟨_, rfl, h _ F H (Aft.refl f) (.int _)⟩
  · obtain ⟨v, rfl, r⟩ := rd.one
    rw [r.bl]
    exact .inr ⟨_, rfl, h _ F H (Aft.refl f) (.int _)⟩
  · exact h.elim
/-! list, tuple -/
theorem RdR.seq {k : Kx} {F H : Hp} {v : V} {d : D} {xs : List D} (s : Sub F H) (r : RdR k F H v d) (e : seqD d = some xs) : ∃ a vs, v = .ref a ∧ (SqL k.K H a vs ∨ SqT k.K H a vs) ∧ RepL k F vs xs := by
  unfold seqD at e
  split at e
  · cases e
    obtain ⟨a, ws, rfl, ha, rl⟩ := r.lst s
    exact ⟨a, ws, rfl, .inl (.inl (.inl ha)), rl⟩
  · cases e
    obtain ⟨a, ws, rfl, _, ha, rl⟩ := r.tup s
    exact ⟨a, ws, rfl, .inr ha, rl⟩
  · cases e
    obtain ⟨a, ws, rfl, ha, rl⟩ := r.fls s
    exact ⟨a, ws, rfl, .inl ha, rl⟩
  · cases e
    obtain ⟨a, ws, rfl, _, ha, rl⟩ := r.xtp s
    exact ⟨a, ws, rfl, .inr ha, rl⟩
  · cases e
def gTuple : List D → Option SV
  | [.list xs] => some (.val (.tuple xs))
  | [.tuple xs] => some (.val (.tuple xs))
  | _ => none
def rTupleOf (K : PySem.W.Frag) : List V → Hp → VK → Prop := fun xs H Q => ∃ p ys, xs = [.ref p] ∧ ((SqL K H p ys ∧ ∀ l, H l = none → Q (.ref l) (upd H l (.tup ys))) ∨ (SqT K H p ys ∧ Q (.ref p) H))
theorem simTuple {k : Kx} : CallSim k (rTupleOf k.K) gTuple := by
  intro F ρ σ H vs ds Q f rd h
  unfold gTuple at h
  split at h
  · obtain ⟨v, rfl, r⟩ := rd.one
    obtain ⟨a, ws, rfl, ha, rl⟩ := r.lst f.sub
    exact ⟨a, ws, rfl, .inl ⟨.inl (.inl ha), fun l hl => h _ _ _ (Aft.newF f hl) (Rep.tup upd_same (rl.mono (Sub.upd (f.sub.none_of hl))))⟩⟩
  · obtain ⟨v, rfl, r⟩ := rd.one
    obtain ⟨a, ws, rfl, ha', ha, rl⟩ := r.tup f.sub
    exact ⟨a, ws, rfl, .inr ⟨ha, h _ F H (Aft.refl f) (Rep.tup ha' rl)⟩⟩
  · exact h.elim
/-! sum, all, any -/
def intsD : List D → Option (List Int)
  | [] => some []
  | .int i :: r => (intsD r).map (i :: ·)
  | _ => none
def boolsD : List D → Option (List Bool)
  | [] => some []
  | .bool i :: r => (boolsD r).map (i :: ·)
  | _ => none
theorem RepL.ints {k : Kx} {F : Hp} : ∀ {vs : List V} {ds : List D} {ns : List Int}, RepL k F vs ds → intsD ds = some ns → vs = ns.map V.int
  | _, _, _, .nil, e => by simp [intsD] at e; subst e; rfl
  | _, .int i :: _, _, .cons a b, e => by
    simp only [intsD, Option.map_eq_some_iff] at e
    obtain ⟨ms, e1, rfl⟩ := e
    cases a
    rw [b.ints e1]; rfl
theorem RepL.bools {k : Kx} {F : Hp} : ∀ {vs : List V} {ds : List D} {ns : List Bool}, RepL k F vs ds → boolsD ds = some ns → vs = ns.map V.bl
  | _, _, _, .nil, e => by simp [boolsD] at e; subst e; rfl
  | _, .bool i :: _, _, .cons a b, e => by
    simp only [boolsD, Option.map_eq_some_iff] at e
    obtain ⟨ms, e1, rfl⟩ := e
    cases a
    rw [b.bools e1]; rfl
def gAll : List D → Option SV
  | [.list xs] => (boolsD xs).map fun ns => .val (.bool (ns.all id))
  | _ => none
theorem simAll {k : Kx} : CallSim k (rAll k.K) gAll := by
  intro F ρ σ H vs ds Q f rd h
  unfold gAll at h
  split at h
  · rename_i xs
    obtain ⟨v, rfl, r⟩ := rd.one
    obtain ⟨a, ws, rfl, ha, rl⟩ := r.lst f.sub
    cases e : boolsD xs with
    | none => rw [e] at h; exact h.elim
    | some ns =>
      rw [e] at h
      exact ⟨a, ns, rfl, by rw [← rl.bools e]; exact .inl (.inl ha), h _ F H (Aft.refl f) (.bl _)⟩
  · exact h.elim
/-! max, min of data; of two ints -/
def rMM (K : PySem.W.Frag) (g : D → List D → D) : List V → Hp → VK → Prop := fun vs H Q => ∃ (a : Addr) (ws : List V) (x : D) (xs : List D), vs = [.ref a] ∧ SqL K H a ws ∧ DpAll K H ws (x :: xs) ∧ PySem.W.AlikeAll (x :: xs) ∧ PyData.depthAll (x :: xs) ≤ 100 ∧
  ∀ (i : Nat) (v : V), ws[i]? = some v → (x :: xs)[i]? = some (g x xs) → Q v H
def allAlike (ds : List D) : Bool := ds.all (fun x => ds.all fun y => PySem.W.alike x y) && ds.all fun x => (match x with | .none => false | _ => true)
theorem allAlike_ok {ds : List D} (h : allAlike ds = true) : PySem.W.AlikeAll ds := by
  simp only [allAlike, Bool.and_eq_true, List.all_eq_true] at h
  exact ⟨fun x hx y hy => h.1 x hx y hy, fun x hx e => by subst e; have := h.2 _ hx; simp at this⟩
theorem reads_eq {h : Heap} {v : Value} {d e : D} {as bs : List Addr} (pd : d.plain = true) (pe : e.plain = true) (r1 : Reads h v d as) (r2 : Reads h v e bs) : d = e := by
  rw [← readOf_plain pd r1, readOf_plain pe r2]
theorem plainMem : ∀ {xs : List D} {x : D}, PyData.plainAll xs = true → x ∈ xs → x.plain = true
  | y :: ys, x, h, hx => by
    simp only [PyData.plainAll, Bool.and_eq_true] at h
    rcases List.mem_cons.mp hx with rfl | hx
    · exact h.1
    · exact plainMem h.2 hx
theorem maxD_mem (x : D) : ∀ xs : List D, PySem.W.maxD x xs ∈ x :: xs := by
  intro xs
  unfold PySem.W.maxD
  induction xs generalizing x with
  | nil => simp
  | cons y r ih =>
    simp only [List.foldl_cons]
    split
    · exact List.mem_cons_of_mem _ (ih y)
    · rcases List.mem_cons.mp (ih x) with h | h
      · rw [h]; simp
      · exact List.mem_cons_of_mem _ (List.mem_cons_of_mem _ h)
theorem minD_mem (x : D) : ∀ xs : List D, PySem.W.minD x xs ∈ x :: xs := by
  intro xs
  unfold PySem.W.minD
  induction xs generalizing x with
  | nil => simp
  | cons y r ih =>
    simp only [List.foldl_cons]
    split
    · exact List.mem_cons_of_mem _ (ih y)
    · rcases List.mem_cons.mp (ih x) with h | h
      · rw [h]; simp
      · exact List.mem_cons_of_mem _ (List.mem_cons_of_mem _ h)
theorem Vals.getV : ∀ {xs : List V} {us : List Value} {i : Nat} {u : Value}, Vals xs us → us[i]? = some u → ∃ x, xs[i]? = some x ∧ RelV x u
  | _, _, _, _, .nil, e => by simp at e
  | _, _, 0, _, .cons r _, e => by simp at e; subst e; exact ⟨_, rfl, r⟩
  | _, _, i + 1, u, .cons _ t, e => by
    obtain ⟨x, h1, h2⟩ := Vals.getV (i := i) (u := u) t (by simpa using e)
    exact ⟨x, by simpa using h1, h2⟩
theorem DpAll.getD {K : PySem.W.Frag} {H : Hp} : ∀ {vs : List V} {ds : List D} {i : Nat} {v : V}, DpAll K H vs ds → vs[i]? = some v → ∃ d, ds[i]? = some d ∧ Dp K H v d
  | _, _, _, _, .nil, h => by simp at h
  | _, _, 0, _, .cons a b, h => by simp at h; subst h; exact ⟨_, rfl, a⟩
  | _, _, i + 1, v, .cons a b, h => by
    obtain ⟨d, h1, h2⟩ := DpAll.getD (i := i) (v := v) b (by simpa using h)
    exact ⟨d, by simpa using h1, h2⟩
mutual
theorem dp_plain {K : PySem.W.Frag} {H : Hp} : ∀ {v : V} {d : D}, Dp K H v d → d.plain = true
  | _, _, .non => rfl
  | _, _, .bl _ => rfl
  | _, _, .int _ => rfl
  | _, _, .str _ => rfl
  | _, _, .lst _ r => by simp only [PyData.plain]; exact dpAll_plain r
  | _, _, .tup _ r => by simp only [PyData.plain]; exact dpAll_plain r
theorem dpAll_plain {K : PySem.W.Frag} {H : Hp} : ∀ {vs : List V} {ds : List D}, DpAll K H vs ds → PyData.plainAll ds = true
  | _, _, .nil => rfl
  | _, _, .cons a b => by simp only [PyData.plainAll, Bool.and_eq_true]; exact ⟨dp_plain a, dpAll_plain b⟩
end
theorem cr_mm {X : Cx} {g : D → List D → D} {id : String} (hc : X.calm = true) (hu : X.A.units + 200 < cLine) (hg : ∀ x xs, g x xs ∈ x :: xs)
    (rule : ∀ (l : Addr) (vs : Array Value) (x : D) (xs : List D) (as : List Addr) (s : Shared) (Q : Value → Shared → Prop), X.A.handled = none → s.heap.IsList l vs → ReadsAll s.heap vs.toList (x :: xs) as → PySem.W.AlikeAll (x :: xs) → X.A.units + 1 + PyData.depthAll (x :: xs) < cLine →
      (∀ (i : Nat) v h' tk bs, vs[i]? = some v → Reads h' v (g x xs) bs → (∀ b o, s.heap.get? b = some o → h'.get? b = some o) → Q v { s with heap := h', toks := tk }) → wpAny (model X.prog X.w) X.A (call (.builtin id) [.ref l]) Q X.xe s) : CallR X (.builtin id) (rMM X.K g) := by
  intro pins s σ H vs us Q I r h
  obtain ⟨a, ws, x, xs, rfl, hq, hd, ha, hdp, q⟩ := h
  rw [Vals.ref1 r]
  obtain ⟨its, rv, p, hz⟩ := I.list hq
  obtain ⟨as, hr⟩ := Dp.readsAll I (x :: xs) ws its hd rv
  refine rule a its.toArray x xs as s _ (I.ok.hd hc) p.isList (by simpa using hr) ha (by omega) fun i v h' tk bs hv rd hk => ?_
  obtain ⟨y, hy, ry⟩ := Vals.getV rv (show its[i]? = some v by simpa using hv)
  obtain ⟨d, hd1, hd2⟩ := DpAll.getD hd hy
  obtain ⟨cs, rd2⟩ := Dp.reads I d y v hd2 ry
  have pl := dpAll_plain hd
  have e : g x xs = d := reads_eq (plainMem pl (hg x xs)) (dp_plain hd2) rd (PyProof.Rows.Reads.keeps hk rd2)
  exact ⟨y, H, I.kept (t' := tk) hk, ry, q i y hy (by rw [e]; exact hd1)⟩
theorem cr_maxD {X : Cx} (hc : X.calm = true) (hu : X.A.units + 200 < cLine) : CallR X (.builtin "max") (rMM X.K PySem.W.maxD) := cr_mm hc hu maxD_mem fun l vs x xs as s Q h1 h2 h3 h4 h5 h6 => PySem.W.max_list_data h1 h2 h3 h4 h5 h6
theorem cr_minD {X : Cx} (hc : X.calm = true) (hu : X.A.units + 200 < cLine) : CallR X (.builtin "min") (rMM X.K PySem.W.minD) := cr_mm hc hu minD_mem fun l vs x xs as s Q h1 h2 h3 h4 h5 h6 => PySem.W.min_list_data h1 h2 h3 h4 h5 h6
def gMM (g : D → List D → D) : List D → Option SV
  | [.list (x :: xs)] => if (PyData.plainAll (x :: xs) && allAlike (x :: xs) && decide (PyData.depthAll (x :: xs) ≤ 100)) = true then some (.val (g x xs)) else none
  | _ => none
theorem simMM {k : Kx} {g : D → List D → D} : CallSim k (rMM k.K g) (gMM g) := by
  intro F ρ σ H vs ds Q f rd h
  unfold gMM at h
  split at h
  · rename_i x xs
    split at h
    · rename_i hc
      simp only [Bool.and_eq_true, decide_eq_true_eq] at hc
      obtain ⟨v, rfl, r⟩ := rd.one
      obtain ⟨a, ws, rfl, ha, rl⟩ := r.lst f.sub
      refine ⟨a, ws, x, xs, rfl, .inl (.inl ha), dpAllMono f.sub (rl.dp hc.1.1), allAlike_ok hc.1.2, hc.2, fun i v hv hg => ?_⟩
      obtain ⟨v', h1, h2⟩ := rl.get hg
      rw [hv] at h1; cases h1
      exact h v F H (Aft.refl f) h2
    · exact h.elim
  · exact h.elim
/-! sorted -/
def srtD (xs : List D) : List D := xs.mergeSort (PySem.W.dataLe false id)
def sortable (ds : List D) : Bool := (ds.all fun d => match d with | .tuple (_ :: _) => true | _ => false) || ds.all fun d => match d with | .none => false | .tuple _ => false | _ => true
def pSort (xs : List D) : Bool := PyData.plainAll xs && xs.all (fun x => xs.all fun y => PySem.W.alike x y) && sortable xs && decide (PyData.depthAll xs ≤ 100)
def gSorted : List D → Option SV
  | [.list xs] => if pSort xs = true then some (.own (.lst (srtD xs))) else none
  | _ => none
def rSrt (K : PySem.W.Frag) : List V → Hp → VK → Prop := fun vs H Q => ∃ (a : Addr) (ws : List V) (xs : List D) (R0 : V → D → Prop), vs = [.ref a] ∧ SqL K H a ws ∧ DpAll K H ws xs ∧ PySem.W.AllAlike xs ∧ PySem.W.Sortable xs ∧ PyData.depthAll xs ≤ 100 ∧ Paired R0 ws xs ∧
  ∀ (zs : List V) (p : Addr), H p = none → Paired R0 zs (srtD xs) → Q (.ref p) (upd H p (.lst zs))
theorem each_mk {R : Value → D → Prop} {R0 : V → D → Prop} (hR : ∀ x v b, RelV x v → R0 x b → R v b) : ∀ {ws : List V} {its : List Value} {xs : List D}, Vals ws its → Paired R0 ws xs → PySem.W.EachIs R its xs
  | _, _, _, .nil, .nil => .nil
  | _, _, _, .cons r t, .cons q u => .cons (hR _ _ _ r q) (each_mk hR t u)
theorem each_un {R0 : V → D → Prop} : ∀ {out : List Value} {xs : List D}, PySem.W.EachIs (fun v b => ∃ x, RelV x v ∧ R0 x b) out xs → ∃ zs, Vals zs out ∧ Paired R0 zs xs
  | _, _, .nil => ⟨[], .nil, .nil⟩
  | _, _, .cons ⟨x, r, q⟩ t => by
    obtain ⟨zs, h1, h2⟩ := each_un t
    exact ⟨x :: zs, .cons r h1, .cons q h2⟩
theorem dpAll_paired {K : PySem.W.Frag} {H : Hp} : ∀ {ws : List V} {xs : List D}, DpAll K H ws xs → Paired (Dp K H) ws xs
  | _, _, .nil => .nil
  | _, _, .cons a b => .cons a (dpAll_paired b)
theorem depth_mem : ∀ {xs : List D} {x : D}, x ∈ xs → x.depth ≤ PyData.depthAll xs
  | y :: ys, x, hx => by
    simp only [PyData.depthAll]
    rcases List.mem_cons.mp hx with rfl | hx
    · exact Nat.le_max_left _ _
    · exact Nat.le_trans (depth_mem hx) (Nat.le_max_right _ _)
theorem Paired.len {α β : Type} {R : α → β → Prop} : ∀ {as : List α} {bs : List β}, Paired R as bs → as.length = bs.length
  | _, _, .nil => rfl
  | _, _, .cons _ t => by simp [Paired.len t]
theorem cr_srt {X : Cx} (hu : X.A.units + 200 < cLine) : CallR X (.builtin "sorted") (rSrt X.K) := by
  intro pins s σ H vs us Q I r h
  obtain ⟨a, ws, xs, R0, rfl, hq, hd, ha, hs, hdp, hp, q⟩ := h
  rw [Vals.ref1 r]
  obtain ⟨its, rv, p, hz⟩ := I.list hq
  have hl : xs.length ≤ sizeLine := by rw [← Paired.len hp]; exact hz
  have e1 : PySem.W.EachIs (fun v b => ∃ x, RelV x v ∧ R0 x b) its xs := each_mk (fun x v b r q => ⟨x, r, q⟩) rv hp
  have e2 : PySem.W.EachIs (fun v (b : D) => ∃ as, Reads s.heap v (id b) as) its xs := each_mk (fun x v b r q => Dp.reads I b x v q r) rv (dpAll_paired hd)
  refine PySem.W.sorted_data (enc := id) p.isList e1 e2 (by rw [List.map_id]; exact ha) (by rw [List.map_id]; exact hs) hl (fun b hb => by have := depth_mem hb; show X.A.units + 2 + b.depth < cLine; omega) fun out ho eo => ?_
  obtain ⟨zs, z1, z2⟩ := each_un eo
  obtain ⟨c, hc⟩ := PyProof.Rows.sortedAll_at s.heap its out.toArray
  have hf : H (s.heap.objs.size + 1) = none := I.hok.fresh (Nat.le_succ _)
  have hlen : zs.length ≤ sizeLine := by rw [z1.length, ho]; exact hl
  exact ⟨.ref (s.heap.objs.size + 1), upd H (s.heap.objs.size + 1) (.lst zs), I.laid (t' := s.toks) (fun b u e => PyProof.Rows.sortedAll_old e) (Nat.le_succ _) ⟨hlen, out, c, z1, hc⟩, rfl, q zs _ hf z2⟩
theorem repL_paired {k : Kx} {F : Hp} : ∀ {ws : List V} {xs : List D}, RepL k F ws xs → Paired (Rep k F) ws xs
  | _, _, .nil => .nil
  | _, _, .cons a b => .cons a (repL_paired b)
theorem paired_repL {k : Kx} {F : Hp} : ∀ {ws : List V} {xs : List D}, Paired (Rep k F) ws xs → RepL k F ws xs
  | _, _, .nil => .nil
  | _, _, .cons a b => .cons a (paired_repL b)
theorem sortable_ok {ds : List D} (h : sortable ds = true) : PySem.W.Sortable ds := by
  simp only [sortable, Bool.or_eq_true, List.all_eq_true] at h
  rcases h with h | h
  · refine .inl fun d hd => ?_
    have := h d hd
    split at this
    · exact ⟨_, _, rfl⟩
    · cases this
  · refine .inr fun d hd => ⟨?_, fun xs => ?_⟩
    · rintro rfl; have := h _ hd; simp at this
    · rintro rfl; have := h _ hd; simp at this
theorem simSrt {k : Kx} : CallSim k (rSrt k.K) gSorted := by
  intro F ρ σ H vs ds Q f rd h
  unfold gSorted at h
  split at h
  · rename_i xs
    split at h
    · rename_i hc
      simp only [pSort, Bool.and_eq_true, decide_eq_true_eq, List.all_eq_true] at hc
      obtain ⟨⟨⟨c1, c2⟩, c3⟩, c4⟩ := hc
      obtain ⟨v, rfl, r⟩ := rd.one
      obtain ⟨a, ws, rfl, ha, rl⟩ := r.lst f.sub
      refine ⟨a, ws, xs, Rep k F, rfl, .inl (.inl ha), dpAllMono f.sub (rl.dp c1), fun d hd d' hd' => c2 d hd d' hd', sortable_ok c3, c4, repL_paired rl, fun zs p hp pz => ?_⟩
      exact h _ F _ (Aft.newO f hp) ⟨p, _, rfl, hp, upd_same, f.sub.none_of hp, _, rfl, paired_repL pz⟩
    · exact h.elim
  · exact h.elim
end Pv

/-! Pvr: set(list of ints). -/
namespace Pv
open PySem PySem.Spec PySem.SeqAt L2
open PyProof.Rows (IntsAre)
section
variable {P : Program} {w : World} {A : Around} {E : Value → Shared → Prop} {s : Shared}
end
end Pv

/-! Pvs: sorted(set(list of ints)). -/
namespace Pv
open PySem PySem.Spec PySem.SeqAt L2
open PyProof.Rows (IntsAre)
def dd : List Int → List Int
  | [] => []
  | x :: r => if x ∈ r then dd r else x :: dd r
theorem dd_mem {x : Int} : ∀ {l : List Int}, x ∈ dd l ↔ x ∈ l
  | [] => by simp [dd]
  | y :: r => by
    unfold dd
    split
    · rename_i h
      rw [dd_mem, List.mem_cons]
      exact ⟨.inr, fun z => z.elim (fun z => z ▸ h) id⟩
    · rw [List.mem_cons, List.mem_cons, dd_mem]
theorem dd_nodup : ∀ l : List Int, (dd l).Nodup
  | [] => by simp [dd]
  | y :: r => by
    unfold dd
    split
    · exact dd_nodup r
    · rename_i h
      exact List.nodup_cons.mpr ⟨fun z => h (dd_mem.mp z), dd_nodup r⟩
theorem len_of_same {as bs : List Int} (na : as.Nodup) (nb : bs.Nodup) (h : ∀ x, x ∈ as ↔ x ∈ bs) : as.length = bs.length := ((List.perm_ext_iff_of_nodup na nb).mpr h).length_eq
theorem SetR.count {w : World} {h : Heap} {a : Addr} {ns : List Int} {c : Nat} (R : SetR w h a (fun j => decide (j ∈ ns)) c) : c = (dd ns).length := by
  obtain ⟨o, es, ep, t, _, _, _, _, nd, mem, _, _, sz, _⟩ := R
  rw [← sz, ← Array.length_toList, ← List.length_map (f := keyOf)]
  refine len_of_same nd (dd_nodup _) fun x => ?_
  have := mem x
  simp only [decide_eq_true_eq] at this
  rw [← this, dd_mem]
def ssrt (ns : List Int) : List Int := (dd ns).mergeSort (fun a b => decide (a ≤ b))
theorem ssrt_le (ns : List Int) : (ssrt ns).Pairwise (fun a b => a ≤ b) := by
  have := List.pairwise_mergeSort (le := fun a b : Int => decide (a ≤ b)) (fun a b c h1 h2 => by simp at *; omega) (fun a b => by simp; omega) (dd ns)
  simpa [ssrt] using this
theorem ssrt_perm (ns : List Int) : (ssrt ns).Perm (dd ns) := List.mergeSort_perm _ _
theorem ssrt_mem {ns : List Int} {k : Int} : k ∈ ssrt ns ↔ k ∈ ns := by rw [(ssrt_perm ns).mem_iff, dd_mem]
theorem repL_ints {k : Kx} {F : Hp} : ∀ ns : List Int, RepL k F (ns.map V.int) (ns.map PyData.int)
  | [] => .nil
  | n :: r => .cons (.int n) (repL_ints r)
end Pv

/-! Pvc: isinstance, slices, list methods, stores, fields. -/
namespace Pv
open PySem PySem.Spec PySem.SeqAt L2

/-! ### isinstance -/
inductive TR where
  | ty (n : String) | cls (c : Int)
  deriving DecidableEq
def tyNames : List String := ["NoneType", "bool", "int", "str", "list", "tuple", "dict"]
def tyD : D → Option TR
  | .none => some (.ty "NoneType")
  | .bool _ => some (.ty "bool")
  | .int _ => some (.ty "int")
  | .str _ => some (.ty "str")
  | .list _ => some (.ty "list")
  | .tuple _ => some (.ty "tuple")
  | .dict [] => some (.ty "dict")
  | .dict [(.bool true, .list _)] => some (.ty "list")
  | .dict [(.bool true, .tuple _)] => some (.ty "tuple")
  | .dict [(.none, .int c), (.none, .tuple _)] => some (.cls c)
  | .dict _ => none
def isi1 : TR → TR → Option Bool
  | .ty a, .ty b => if (tyNames.contains a && tyNames.contains b) = true then some (a == b || (a == "bool" && b == "int")) else none
  | .ty a, .cls _ => if tyNames.contains a = true then some false else none
  | .cls _, .ty b => if tyNames.contains b = true then some false else none
  | .cls c, .cls c' => some (c == c')
def isiAny (t : TR) : List TR → Option Bool
  | [] => some false
  | c :: r => (isi1 t c).bind fun b => if b = true then some true else isiAny t r
structure IsiOk (k : Kx) : Prop where
  cl : ∀ c C ns, k.CT c = some (C, ns) → Cls k.K C ∧ PySem.W.findIn k.K (.ref C) "__class__" = some (some (.builtin "object.__class__")) ∧ PySem.W.specialIn k.K (.builtin "object.__class__") "__get__" = some (some (.builtin "getset_descriptor.__get__")) ∧
    PySem.W.takesIn k.K (.builtin "object.__class__") = some true ∧ PySem.W.mroIn k.K C (.type "object") = some true
  tc : ∀ a c C ns, tyNames.contains a = true → k.CT c = some (C, ns) → PySem.W.kitOne k.K (.type a) (.ref C) = some false
  ct : ∀ b c C ns, tyNames.contains b = true → k.CT c = some (C, ns) → PySem.W.kitOne k.K (.ref C) (.type b) = some false
  cc : ∀ c c' C C' ns ns', k.CT c = some (C, ns) → k.CT c' = some (C', ns') → PySem.W.kitOne k.K (.ref C) (.ref C') = some (c == c')
inductive TRV (k : Kx) : TR → V → Value → Prop
  | ty (n : String) : TRV k (.ty n) (.ty n) (.type n)
  | cls {c : Int} {C : Addr} {ns : List Str} : k.CT c = some (C, ns) → TRV k (.cls c) (.ref C) (.ref C)
theorem TRV.clsV {k : Kx} {t : TR} {v : V} {u : Value} (h : TRV k t v u) : ClsV v u := by
  cases h with
  | ty n => exact .ty n
  | cls _ => exact .own _
def kitTab : Bool := tyNames.all fun a => tyNames.all fun b => decide (kitB a b = some (a == b || (a == "bool" && b == "int")))
theorem kitTab_ok : kitTab = true := by decide +kernel
theorem kit_tt {K : PySem.W.Frag} {a b : String} (ha : tyNames.contains a = true) (hb : tyNames.contains b = true) : PySem.W.kitOne K (.type a) (.type b) = some (a == b || (a == "bool" && b == "int")) := by
  refine kit_ty ?_
  have h := kitTab_ok
  simp only [kitTab, List.all_eq_true, decide_eq_true_eq] at h
  exact h a (by simpa using ha) b (by simpa using hb)
inductive TyW (k : Kx) : TR → Value → Prop
  | ty (n : String) : TyW k (.ty n) (.type n)
  | cls {c : Int} {C : Addr} {ns : List Str} : k.CT c = some (C, ns) → TyW k (.cls c) (.ref C)
theorem isi1_ok {k : Kx} (ok : IsiOk k) {t c : TR} {tv u : Value} {v : V} {b : Bool} (ht : TyW k t tv) (hc : TRV k c v u) (e : isi1 t c = some b) : PySem.W.kitOne k.K tv u = some b := by
  cases ht with
  | ty a => cases hc with
    | ty m =>
      simp only [isi1] at e
      split at e
      · rename_i hh
        simp only [Bool.and_eq_true] at hh
        cases e
        exact kit_tt hh.1 hh.2
      · cases e
    | cls h =>
      simp only [isi1] at e
      split at e
      · rename_i hh
        cases e
        exact ok.tc a _ _ _ hh h
      · cases e
  | cls h => cases hc with
    | ty m =>
      simp only [isi1] at e
      split at e
      · rename_i hh
        cases e
        exact ok.ct m _ _ _ hh h
      · cases e
    | cls h' =>
      simp only [isi1, Option.some.injEq] at e
      subst e
      exact ok.cc _ _ _ _ _ _ h h'
theorem sqT_ty {K : PySem.W.Frag} {H : Hp} {a : Addr} {vs : List V} (h : SqT K H a vs) : TyX K H (.ref a) (.type "tuple") := by
  rcases h with (h | ⟨o, h⟩) | ⟨o, its, n, h1, h2, _⟩
  · exact .base (.tup h)
  · exact .fTuple h
  · exact .kTuple h1 h2
theorem RdR.tyx {k : Kx} (ok : IsiOk k) {F H : Hp} {v : V} {d : D} {t : TR} (s : Sub F H) (r : RdR k F H v d) (e : tyD d = some t) : ∃ tv, TyX k.K H v tv ∧ TyW k t tv := by
  have ob : ∀ {a dx C : Addr} {c : Int} {ns : List Str} {fs : List (Str × V)}, k.CT c = some (C, ns) → H a = some (.ins C dx fs) → ∃ tv, TyX k.K H (.ref a) tv ∧ TyW k (.cls c) tv := fun h1 h2 => by
    obtain ⟨c1, c2, c3, c4, c5⟩ := ok.cl _ _ _ h1
    exact ⟨_, .base (.ins h2 c1 c2 c3 c4 c5), .cls h1⟩
  rcases r with r | ⟨q, o, ho, rfl, h1, h2, rfl⟩
  · cases r with
    | non => cases e; exact ⟨_, .base .non, .ty _⟩
    | bl b => cases e; exact ⟨_, .base (.bl b), .ty _⟩
    | int i => cases e; exact ⟨_, .base (.int i), .ty _⟩
    | str x => cases e; exact ⟨_, .base (.str x), .ty _⟩
    | lst h _ => cases e; exact ⟨_, .base (.lst (s.ex h)), .ty _⟩
    | tup h _ => cases e; exact ⟨_, sqT_ty (s.sqT (SqT.of h)), .ty _⟩
    | fls h _ =>
      cases e
      rcases h with ⟨o, h⟩ | (h | ⟨o, h⟩) | ⟨o, its, n, h1, h2, _⟩
      · exact ⟨_, .base (.frz (s.ex h)), .ty _⟩
      · cases h
      · cases h
      · exact ⟨_, .kList h1 h2, .ty _⟩
    | obj h1 h2 _ _ _ => cases e; exact ob h1 (s.ex h2)
    | dnil h =>
      cases e
      rcases s.rd h with z | ⟨o, z⟩
      · exact ⟨_, .base (.dK z), .ty _⟩
      · exact ⟨_, .fDict z, .ty _⟩
    | dct h hl r => cases e
    | fn x => cases e
    | nfn _ _ _ => cases e
    | dcn _ _ _ _ => cases e
    | xt h _ => cases e; exact ⟨_, sqT_ty (h.mono s).sqT, .ty _⟩
  · cases o with
    | lst xs =>
      cases e
      obtain ⟨vs, rfl, _⟩ := h2
      exact ⟨_, .base (.lst h1), .ty _⟩
    | ins c fs =>
      cases e
      obtain ⟨C, ns, dx, vs, q1, rfl, _⟩ := h2
      exact ob q1 h1
    | dct t ks ds => cases e
    | dcn ks ds => cases e
def evIsi (ts : List TR) (me : EM) : EM := fun ρ => (me ρ).bind fun a => (rdD a.2 a.1).bind fun d => (tyD d).bind fun t => (isiAny t ts).bind fun b => some (.sv (.val (.bool b)), a.2)
theorem simIsi {k : Kx} (ok : IsiOk k) {te : TE} {me : EM} {t : TR} {v : V} {u : Value} (ht : TRV k t v u) (he : SimE k te me) : SimE k (tCB (rIsi k.K) (tCons te (tCons (tC v) tNil))) (evIsi [t] me) := by
  intro F ρ σ H Q f h
  unfold evIsi at h
  refine he F ρ σ H _ f ((wpo_bind.mp h).mono fun a _ h => ?_)
  intro x F1 H1 A1 R1
  have h := wpo_bind.mp h
  cases e1 : rdD a.2 a.1 with
  | none => rw [e1] at h; exact h.elim
  | some d =>
    rw [e1] at h
    have h := wpo_bind.mp h
    cases e2 : tyD d with
    | none => rw [e2] at h; exact h.elim
    | some td =>
      rw [e2] at h
      have h := wpo_bind.mp h
      cases e3 : isiAny td [t] with
      | none => rw [e3] at h; exact h.elim
      | some b =>
        rw [e3] at h
        obtain ⟨tv, h1, h2⟩ := (R1.rd A1.fr e1).tyx ok A1.fr.sub e2
        have e4 : isi1 td t = some b := by
          simp only [isiAny, Option.bind_eq_some_iff] at e3
          obtain ⟨b', q1, q2⟩ := e3
          cases b' <;> simp at q2 <;> rw [q1, q2]
        exact ⟨x, v, tv, u, b, rfl, ht.clsV, h1, isi1_ok ok h2 ht e4, h _ F1 H1 A1 (.bl b)⟩
inductive TRVs (k : Kx) : List TR → List V → List Value → Prop
  | nil : TRVs k [] [] []
  | cons {t : TR} {v : V} {u : Value} {ts : List TR} {vs : List V} {us : List Value} : TRV k t v u → TRVs k ts vs us → TRVs k (t :: ts) (v :: vs) (u :: us)
/-! ### slices -/
def cutL {α : Type} (xs : List α) (lo hi : Option Int) : List α := (xs.drop (HT.sIx xs.length 0 lo)).take (HT.sIx xs.length xs.length hi - HT.sIx xs.length 0 lo)
theorem RepL.cut {k : Kx} {F : Hp} {vs : List V} {ds : List D} (h : RepL k F vs ds) (lo hi : Option Int) : RepL k F (cutV vs lo hi) (cutL ds lo hi) := by
  unfold cutV cutL
  rw [h.length]
  exact (h.drop _).take _
abbrev OM := Rho → Option (Option Int × Rho)
def SimO (k : Kx) (to : TO) (m : OM) : Prop := ∀ (F : Hp) (ρ : Rho) (σ : L2.St) (H : Hp) (Q : Option Int → Hp → Prop), FR k F ρ σ H → wpo (m ρ) (fun x => ∀ F' H', Aft k ρ σ F H x.2 F' H' → Q x.1 H') → to σ H Q
def opNone : OM := fun ρ => some (none, ρ)
theorem simPNone {k : Kx} : SimO k tNoPart opNone := fun F ρ σ H Q f h => h F H (Aft.refl f)
def opSome (me : EM) : OM := fun ρ => (me ρ).bind fun a => (rdD a.2 a.1).bind fun d => match d with
  | .int i => some (some i, a.2)
  | _ => none
theorem simPSome {k : Kx} {te : TE} {me : EM} (he : SimE k te me) : SimO k (tPart te) (opSome me) := by
  intro F ρ σ H Q f h
  unfold opSome at h
  refine he F ρ σ H _ f ((wpo_bind.mp h).mono fun a _ h => ?_)
  intro x F1 H1 A1 R1
  have h := wpo_bind.mp h
  cases e1 : rdD a.2 a.1 with
  | none => rw [e1] at h; exact h.elim
  | some d =>
    rw [e1] at h
    have rd := R1.rd A1.fr e1
    cases d with
    | int i => exact ⟨i, rd.int, h F1 H1 A1⟩
    | _ => exact h.elim
def gSl (lo hi : Option Int) : D → Option SV
  | .list xs => some (.own (.lst (cutL xs lo hi)))
  | .tuple xs => some (.val (.tuple (cutL xs lo hi)))
  | _ => none
def evSl (me : EM) (ml mh : OM) : EM := fun ρ => (me ρ).bind fun a => (ml a.2).bind fun b => (mh b.2).bind fun c => (rdD c.2 a.1).bind fun d => (gSl b.1 c.1 d).bind fun s => some (.sv s, c.2)
def rSlB (K : PySem.W.Frag) : V → Option Int → Option Int → Hp → VK → Prop := fun x lo hi H Q => rSlL K x lo hi H Q ∨ rSlA K x lo hi H Q
theorem sl_B {X : Cx} : SlR X (rSlB X.K) := sl_list.or sl_tupA
theorem cut_whole {α : Type} {xs : List α} {lo hi : Option Int} (h : HT.sIx xs.length 0 lo = 0 ∧ HT.sIx xs.length xs.length hi = xs.length) : cutL xs lo hi = xs := by
  unfold cutL
  rw [h.1, h.2]
  simp
theorem simSl {k : Kx} {te : TE} {tl th : TO} {me : EM} {ml mh : OM} (he : SimE k te me) (hl : SimO k tl ml) (hh : SimO k th mh) : SimE k (tSl (rSlB k.K) te tl th) (evSl me ml mh) := by
  intro F ρ σ H Q f h
  unfold evSl at h
  refine he F ρ σ H _ f ((wpo_bind.mp h).mono fun a _ h => ?_)
  intro x F1 H1 A1 R1
  refine hl F1 a.2 σ H1 _ A1.fr ((wpo_bind.mp h).mono fun b _ h => ?_)
  intro F2 H2 A2
  refine hh F2 b.2 σ H2 _ A2.fr ((wpo_bind.mp h).mono fun c _ h => ?_)
  intro F3 H3 A3
  have R3 := R1.step f A1 (A2.trans A3)
  have A := A1.trans (A2.trans A3)
  have h := wpo_bind.mp h
  cases e1 : rdD c.2 a.1 with
  | none => rw [e1] at h; exact h.elim
  | some d =>
    rw [e1] at h
    have rd := R3.rd A3.fr e1
    replace h : wpo (gSl b.1 c.1 d) _ := wpo_bind.mp h
    unfold gSl at h
    split at h
    · obtain ⟨p, ws, rfl, hp, rl⟩ := rd.lst A3.fr.sub
      exact .inl ⟨p, ws, rfl, .inl (.inl hp), fun q hq => h _ F3 _ (A.newOw hq) ⟨q, _, rfl, A.none_of hq, upd_same, A3.fr.sub.none_of hq, _, rfl, rl.cut _ _⟩⟩
    · obtain ⟨p, ws, rfl, hp', hp, rl⟩ := rd.tup A3.fr.sub
      refine .inr ⟨p, ws, rfl, hp, fun hw => ?_, fun hw q hq => ?_⟩
      · rw [rl.length] at hw
        have h := h (.ref p) F3 H3 A
        rw [cut_whole hw] at h
        exact h (Rep.tup hp' rl)
      · exact h _ _ _ (A.new hq) (Rep.tup upd_same ((rl.cut _ _).mono (Sub.upd (A3.fr.sub.none_of hq))))
    · exact h.elim
end Pv

/-! Pvd: owned objects changed; fields; instances made. -/
namespace Pv
open PySem PySem.Spec PySem.SeqAt L2
section
variable {k : Kx} {ρ ρ0 ρ1 : Rho} {σ : L2.St} {F H F0 H0 : Hp}
theorem Aft.mutate (A : Aft k ρ0 σ F0 H0 ρ F H) {i : Nat} {o o' : OB} {p : Addr} {ho' : HO} (e : ρ[i]? = some (some (.own o))) (es : σ[i]? = some (some (.ref p))) (r : RepO k F p o' ho') : Aft k ρ0 σ F0 H0 (ρ.set i (some (.own o'))) F (upd H p ho') := by
  have op : Own ρ σ p := ⟨i, o, e, es⟩
  have nF := A.fr.own_none op
  have hi : i < ρ.length := (List.getElem?_eq_some_iff.mp e).1
  have own2 : ∀ (j : Nat) (x : OB), (ρ.set i (some (.own o')))[j]? = some (some (.own x)) → ∃ y, ρ[j]? = some (some (.own y)) := fun j x h => by
    rcases set_get h with ⟨rfl, _, _⟩ | ⟨_, h⟩
    · exact ⟨o, e⟩
    · exact ⟨x, h⟩
  have ht : ∀ u, H p = some u → NTC p u := fun u hu => by
    obtain ⟨p', ho, h1, h2, _, r'⟩ := A.fr.owns i o e
    rw [es] at h1; cases h1
    rw [h2] at hu; cases hu
    exact r'.ntc
  refine ⟨⟨fun a u q => ?_, by simpa using A.fr.len, fun j d q => ?_, fun j x q => ?_, fun j l x y q h1 h2 h3 h4 => ?_, tabs_put A.fr.tabs ht⟩, ⟨A.tr.sub, fun q u h m n => ?_, A.tr.new, fun q u h => ?_⟩, fun q ⟨j, x, h1, h2⟩ => ?_, fun j s h => ?_⟩
  · rw [upd_ne (fun z => by rw [z, nF] at q; cases q)]; exact A.fr.sub a u q
  · rcases set_get q with ⟨_, h, _⟩ | ⟨_, h⟩
    · cases h
    · exact A.fr.vals j d h
  · rcases set_get q with ⟨rfl, h, _⟩ | ⟨nj, h⟩
    · cases h; exact ⟨p, ho', es, upd_same, nF, r⟩
    · obtain ⟨p', ho, h1, h2, h3, h4⟩ := A.fr.owns j x h
      have ne : p' ≠ p := fun z => nj (A.fr.dist j i x o p h e (z ▸ h1) es)
      exact ⟨p', ho, h1, by rw [upd_ne ne]; exact h2, h3, h4⟩
  · obtain ⟨_, q1⟩ := own2 j x h1
    obtain ⟨_, q2⟩ := own2 l y h2
    exact A.fr.dist j l _ _ q q1 q2 h3 h4
  · have ne : q ≠ p := fun z => n (z ▸ A.ow p op)
    rw [upd_ne ne]; exact A.tr.keep q u h m n
  · by_cases z : q = p
    · subst z; exact ⟨_, upd_same⟩
    · rw [upd_ne z]; exact A.tr.there q u h
  · obtain ⟨y, q1⟩ := own2 j x h1
    exact A.ow q ⟨j, y, q1, h2⟩
  · obtain ⟨s', h'⟩ := A.sl j s h
    by_cases z : j = i
    · subst z; exact ⟨_, List.getElem?_set_self hi⟩
    · exact ⟨s', by rw [get_set (Ne.symm z)]; exact h'⟩
end
def lstAt (ρ : Rho) (i : Nat) : Option (List D) := match ρ[i]? with
  | some (some (.own (.lst xs))) => some xs
  | _ => none
theorem lstAt_eq {ρ : Rho} {i : Nat} {xs : List D} (h : lstAt ρ i = some xs) : ρ[i]? = some (some (.own (.lst xs))) := by
  unfold lstAt at h
  split at h
  · cases h; assumption
  · cases h
theorem FR.lst {k : Kx} {F : Hp} {ρ : Rho} {σ : L2.St} {H : Hp} (f : FR k F ρ σ H) {i : Nat} {xs : List D} (h : lstAt ρ i = some xs) : ∃ p vs, σ[i]? = some (some (.ref p)) ∧ H p = some (.lst vs) ∧ F p = none ∧ RepL k F vs xs := by
  obtain ⟨p, ho, h1, h2, h3, vs, rfl, r⟩ := f.owns i _ (lstAt_eq h)
  exact ⟨p, vs, h1, h2, h3, r⟩
def evMut (f : List D → List D → Option (D × List D)) (i : Nat) (ma : AM) : EM := fun ρ => (lstAt ρ i).bind fun _ => (ma ρ).bind fun a => (frzs a.2 a.1).bind fun b => (lstAt b.2 i).bind fun xs => (f xs b.1).bind fun y => some (.sv (.val y.1), b.2.set i (some (.own (.lst y.2))))
def MutSim (k : Kx) (r : V → List V → Hp → VK → Prop) (f : List D → List D → Option (D × List D)) : Prop := ∀ (F H : Hp) (p : Addr) (ws : List V) (xs : List D) (vs : List V) (ds : List D) (Q : VK), Sub F H → H p = some (.lst ws) → RepL k F ws xs → RepL k F vs ds →
  wpo (f xs ds) (fun y => ∀ v zs, Rep k F v y.1 → RepL k F zs y.2 → Q v (upd H p (.lst zs))) → r (.ref p) vs H Q
theorem simMut {k : Kx} {r : V → List V → Hp → VK → Prop} {g : List D → List D → Option (D × List D)} {i : Nat} {ta : TA} {ma : AM} (hr : MutSim k r g) (ha : SimA k ta ma) : SimE k (tBM k.K "list" r (tVar i) ta) (evMut g i ma) := by
  intro F ρ σ H Q f h
  unfold evMut at h
  have h := wpo_bind.mp h
  cases e0 : lstAt ρ i with
  | none => rw [e0] at h; exact h.elim
  | some xs0 =>
    rw [e0] at h
    obtain ⟨p, vs0, s0, h0, n0, r0⟩ := f.lst e0
    refine ⟨.ref p, s0, .inl ⟨rfl, vs0, .inl (.inl h0)⟩, ?_⟩
    refine ha F ρ σ H _ f ((wpo_bind.mp h).mono fun a _ h => ?_)
    intro vs F1 H1 A1 R1
    have h := wpo_bind.mp h
    cases e1 : frzs a.2 a.1 with
    | none => rw [e1] at h; exact h.elim
    | some b =>
      rw [e1] at h
      obtain ⟨F2, A2, s2, r2⟩ := frzs_ok f A1 (fun _ h => h) R1 e1
      have h := wpo_bind.mp h
      cases e2 : lstAt b.2 i with
      | none => rw [e2] at h; exact h.elim
      | some xs =>
        rw [e2] at h
        obtain ⟨p', ws, s1, h1, n1, r1⟩ := A2.fr.lst e2
        rw [s0] at s1; cases s1
        refine hr F2 H1 p ws xs vs b.1 Q A2.fr.sub h1 r1 r2 ((wpo_bind.mp h).mono fun y _ h => ?_)
        intro v zs rv rz
        exact h v F2 _ (A2.mutate (lstAt_eq e2) s0 ⟨zs, rfl, rz⟩) rv
def fAppend : List D → List D → Option (D × List D)
  | xs, [d] => if xs.length < sizeLine then some (.none, xs ++ [d]) else none
  | _, _ => none
theorem simAppend {k : Kx} : MutSim k rAppend fAppend := by
  intro F H p ws xs vs ds Q sb hp rw_ rv h
  unfold fAppend at h
  split at h
  · cases rv with
    | cons a b =>
      cases b
      split at h
      · rename_i hl
        exact ⟨p, ws, _, rfl, rfl, hp, by rw [rw_.length]; exact hl, h _ _ .non (rw_.append (.cons a .nil))⟩
      · exact h.elim
  · exact h.elim
end Pv
namespace Pv
open PySem PySem.Spec L2
open MeetsSeq MeetsSeq2 AutoSeq1
/-! pop -/
theorem RepL.dropLast {k : Kx} {F : Hp} : ∀ {vs : List V} {ds : List D}, RepL k F vs ds → RepL k F vs.dropLast ds.dropLast
  | _, _, .nil => .nil
  | _, _, .cons _ .nil => .nil
  | _, _, .cons a (.cons b c) => .cons a (RepL.dropLast (.cons b c))
/-! x[i] = e -/
def exSto (j : Nat) (mi me : EM) : SM := fun ρ => (me ρ).bind fun a => (lstAt a.2 j).bind fun _ => (mi a.2).bind fun b => (rdD b.2 b.1).bind fun di => (frz1 b.2 a.1).bind fun c => (lstAt c.2 j).bind fun xs => match di with
  | .int i => (ixN xs.length i).bind fun n => some (.nx, c.2.set j (some (.own (.lst (xs.set n c.1)))))
  | _ => none
theorem simSto {k : Kx} {P : List Nat} {Wx : Option WX} {j : Nat} {ti te : TE} {mi me : EM} (hi : SimE k ti mi) (he : SimE k te me) : SimS k P Wx (tAsg te (L2.gSub (tVar j) ti rSetL)) (exSto j mi me) := by
  intro e ρ σ F H D hP s h
  unfold exSto at h
  refine he F ρ σ H _ s.fr ((wpo_bind.mp h).mono fun a _ h => ?_)
  intro v F1 H1 A1 R1
  have h := wpo_bind.mp h
  cases e0 : lstAt a.2 j with
  | none => rw [e0] at h; exact h.elim
  | some xs0 =>
    rw [e0] at h
    obtain ⟨p, vs0, s0, h0, n0, r0⟩ := A1.fr.lst e0
    refine ⟨.ref p, s0, ?_⟩
    refine hi F1 a.2 σ H1 _ A1.fr ((wpo_bind.mp h).mono fun b _ h => ?_)
    intro u F2 H2 A2 R2
    have h := wpo_bind.mp h
    cases e1 : rdD b.2 b.1 with
    | none => rw [e1] at h; exact h.elim
    | some di =>
      rw [e1] at h
      have rd := R2.rd A2.fr e1
      have h := wpo_bind.mp h
      cases e2 : frz1 b.2 a.1 with
      | none => rw [e2] at h; exact h.elim
      | some c =>
        rw [e2] at h
        obtain ⟨F3, A3, _, r3, _⟩ := frz1_ok s.fr (A1.trans A2) (R1.step s.fr A1 A2) e2
        have h := wpo_bind.mp h
        cases e3 : lstAt c.2 j with
        | none => rw [e3] at h; exact h.elim
        | some xs =>
          rw [e3] at h
          obtain ⟨p', ws, s1, h1, n1, r1⟩ := A3.fr.lst e3
          rw [s0] at s1; cases s1
          cases di with
          | int i =>
            replace h : wpo (ixN xs.length i) _ := wpo_bind.mp h
            cases e4 : ixN xs.length i with
            | none => rw [e4] at h; exact h.elim
            | some n =>
              rw [e4] at h
              refine ⟨p, ws, i, n, rfl, rd.int, h1, by rw [r1.length]; exact e4, ?_⟩
              exact h σ F3 _ (s.aft (A3.mutate (lstAt_eq e3) s0 ⟨_, rfl, r1.set r3 n⟩))
          | _ => exact h.elim
end Pv

/-! Pve: fields, instances made, len of an instance, enumerate. -/
namespace Pv
open PySem PySem.Spec PySem.SeqAt L2
/-! ### fields -/
abbrev FNs := Int → List Str
def fldD (fn : FNs) (f : Str) : D → Option SV
  | .dict [(.none, .int c), (.none, .tuple fs)] => ((fn c).zip fs).lookup f |>.map SV.val
  | _ => none
structure FldOk (k : Kx) (fn : FNs) : Prop where
  ns : ∀ c C ns, k.CT c = some (C, ns) → ns = fn c
  no : ∀ c C ns f, k.CT c = some (C, ns) → f ∈ ns → NoAttr k.K C f
  cl : ∀ c C ns, k.CT c = some (C, ns) → Cls k.K C
  few : ∀ c C ns, k.CT c = some (C, ns) → ns.length < 1000 ∧ ns.Nodup
theorem lookup_zip {k : Kx} {F : Hp} {f : Str} : ∀ {ns : List Str} {vs : List V} {ds : List D} {d : D}, RepL k F vs ds → (ns.zip ds).lookup f = some d → f ∈ ns ∧ ∃ v, (ns.zip vs).lookup f = some v ∧ Rep k F v d
  | [], _, _, _, _, h => by simp at h
  | _ :: _, _, _, _, .nil, h => by simp at h
  | n :: ns, _, _, d, .cons (v := v) (d := d0) a b, h => by
    simp only [List.zip_cons_cons, List.lookup_cons] at h ⊢
    cases e : f == n with
    | true =>
      rw [e] at h
      cases h
      exact ⟨by rw [beq_iff_eq.mp e]; simp, v, rfl, a⟩
    | false =>
      rw [e] at h
      obtain ⟨h1, h2⟩ := lookup_zip b h
      exact ⟨List.mem_cons_of_mem _ h1, h2⟩
theorem RdR.obj {k : Kx} {F H : Hp} {v : V} {c : Int} {fs : List D} (s : Sub F H) (r : RdR k F H v (objD c fs)) : ∃ a dx C ns vs, v = .ref a ∧ k.CT c = some (C, ns) ∧ H a = some (.ins C dx (ns.zip vs)) ∧ RepL k F vs fs ∧ vs.length ≤ ns.length := by
  rcases r with r | ⟨q, o, ho, rfl, h1, h2, e⟩
  · cases r with
    | obj q1 q2 q3 q4 q5 => exact ⟨_, _, _, _, _, rfl, q1, s.ex q2, q5, q4⟩
  · cases o with
    | lst xs => cases e
    | dct t ks ds => cases e
    | dcn ks ds => cases e
    | ins c' fs' =>
      cases e
      obtain ⟨C, ns, dx, vs, q1, rfl, q3, q4, q5⟩ := h2
      exact ⟨q, dx, C, ns, vs, rfl, q1, h1, q5, q4⟩
theorem simFld {k : Kx} {fn : FNs} (ok : FldOk k fn) {f : Str} {te : TE} {me : EM} (he : SimE k te me) : SimE k (tFld k.K te f) (evUn (fldD fn f) me) := by
  have one : UnSim k (fun x H Q => ∃ a C dx fs v, x = .ref a ∧ H a = some (.ins C dx fs) ∧ Cls k.K C ∧ NoAttr k.K C f ∧ fs.lookup f = some v ∧ Q v H) (fldD fn f) := by
    intro F ρ σ H x d Q fr r h
    unfold fldD at h
    split at h
    · rename_i c fs
      obtain ⟨a, dx, C, ns, vs, rfl, q1, q2, q3, q4⟩ := r.obj fr.sub
      have en := ok.ns c C ns q1
      subst en
      cases e : ((fn c).zip fs).lookup f with
      | none => rw [e] at h; exact h.elim
      | some d =>
        rw [e] at h
        obtain ⟨h1, v, h2, h3⟩ := lookup_zip q3 e
        exact ⟨a, C, dx, _, v, rfl, q2, ok.cl c C _ q1, ok.no c C _ f q1 h1, h2, h v F H (Aft.refl fr) h3⟩
    · exact h.elim
  intro F ρ σ H Q fr h
  exact simUn one he F ρ σ H Q fr h
/-! self.f = e, self in slot i -/
def insAt (ρ : Rho) (i : Nat) : Option (Int × List D) := match ρ[i]? with
  | some (some (.own (.ins c fs))) => some (c, fs)
  | _ => none
theorem insAt_eq {ρ : Rho} {i : Nat} {c : Int} {fs : List D} (h : insAt ρ i = some (c, fs)) : ρ[i]? = some (some (.own (.ins c fs))) := by
  unfold insAt at h
  split at h
  · cases h; assumption
  · cases h
def fidx (f : Str) : List Str → Option Nat
  | [] => none
  | n :: r => if n = f then some 0 else (fidx f r).map (· + 1)
theorem fidx_ok {f : Str} : ∀ {ns : List Str} {j : Nat}, fidx f ns = some j → ns[j]? = some f
  | [], _, h => by cases h
  | n :: r, j, h => by
    unfold fidx at h
    split at h
    · rename_i e; cases h; rw [e]; rfl
    · obtain ⟨i, h1, rfl⟩ := Option.map_eq_some_iff.mp h
      simpa using fidx_ok h1
def putD (ns : List Str) (fs : List D) (f : Str) (d : D) : Option (List D) := match fidx f ns with
  | some j => if j < fs.length then some (fs.set j d) else if j = fs.length then some (fs ++ [d]) else none
  | none => none
def exFld (fn : FNs) (i : Nat) (f : Str) (me : EM) : SM := fun ρ => (me ρ).bind fun a => (frz1 a.2 a.1).bind fun b => (insAt b.2 i).bind fun o => (putD (fn o.1) o.2 f b.1).bind fun fs => some (.nx, b.2.set i (some (.own (.ins o.1 fs))))
theorem putF_zip {f : Str} {v : V} : ∀ {ns : List Str} {vs : List V} {j : Nat}, ns.Nodup → ns[j]? = some f → vs.length ≤ ns.length → (j < vs.length → putF f v (ns.zip vs) = ns.zip (vs.set j v)) ∧ (j = vs.length → putF f v (ns.zip vs) = ns.zip (vs ++ [v]))
  | [], _, _, _, h, _ => by simp at h
  | n :: ns, [], 0, nd, h, hl => by
    simp at h; subst h
    exact ⟨fun z => by simp at z, fun _ => by simp [putF]⟩
  | n :: ns, [], j + 1, nd, h, hl => ⟨fun z => by simp at z, fun z => by simp at z⟩
  | n :: ns, w :: vs, 0, nd, h, hl => by
    simp at h; subst h
    exact ⟨fun _ => by simp [putF], fun z => by simp at z⟩
  | n :: ns, w :: vs, j + 1, nd, h, hl => by
    rw [List.nodup_cons] at nd
    have hf : ns[j]? = some f := by simpa using h
    have ne : n ≠ f := fun z => nd.1 (by rw [z]; exact List.mem_of_getElem? hf)
    obtain ⟨h1, h2⟩ := putF_zip (f := f) (v := v) (vs := vs) nd.2 hf (by simpa using hl)
    refine ⟨fun z => ?_, fun z => ?_⟩
    · simp only [List.zip_cons_cons, putF, if_neg ne, List.set_cons_succ]
      rw [h1 (by simpa using z)]
    · simp only [List.zip_cons_cons, putF, if_neg ne, List.cons_append]
      rw [h2 (by simpa using z)]
theorem simFldS {k : Kx} {P : List Nat} {Wx : Option WX} {fn : FNs} (ok : FldOk k fn) {i : Nat} {f : Str} {te : TE} {me : EM} (he : SimE k te me) : SimS k P Wx (sFld k.K (tVar i) te f) (exFld fn i f me) := by
  intro e ρ σ F H D hP s h
  unfold exFld at h
  refine he F ρ σ H _ s.fr ((wpo_bind.mp h).mono fun a _ h => ?_)
  intro v F1 H1 A1 R1
  have h := wpo_bind.mp h
  cases e1 : frz1 a.2 a.1 with
  | none => rw [e1] at h; exact h.elim
  | some b =>
    rw [e1] at h
    obtain ⟨F2, A2, _, r2, _⟩ := frz1_ok s.fr A1 R1 e1
    have h := wpo_bind.mp h
    cases e2 : insAt b.2 i with
    | none => rw [e2] at h; exact h.elim
    | some o =>
      rw [e2] at h
      have h := wpo_bind.mp h
      obtain ⟨c, fs⟩ := o
      have e3 := insAt_eq e2
      obtain ⟨p, ho, s0, h0, n0, C, ns, dx, vs, q1, rfl, q3, q4, q5⟩ := A2.fr.owns i _ e3
      have en := ok.ns c C ns q1
      subst en
      obtain ⟨fw, nd⟩ := ok.few c C _ q1
      refine ⟨.ref p, s0, p, C, dx, _, rfl, h0, ok.cl c C _ q1, ?_⟩
      cases e4 : putD (fn c) fs f b.1 with
      | none => rw [e4] at h; exact h.elim
      | some fs' =>
        rw [e4] at h
        unfold putD at e4
        split at e4
        · rename_i j hj
          have hj' : (fn c)[j]? = some f := fidx_ok hj
          have zl : ((fn c).zip vs).length < 1000 := by rw [List.length_zip]; omega
          obtain ⟨p1, p2⟩ := putF_zip (v := v) nd hj' q4
          have lv := q5.length
          refine ⟨ok.no c C _ f q1 (List.mem_of_getElem? hj'), zl, ?_⟩
          split at e4
          · rename_i lt
            cases e4
            rw [p1 (by omega)]
            exact h σ F2 _ (s.aft (A2.mutate e3 s0 ⟨C, _, dx, _, q1, rfl, q3, by simpa using q4, q5.set r2 j⟩))
          · split at e4
            · rename_i eq
              cases e4
              rw [p2 (by omega)]
              have jl : j < (fn c).length := (List.getElem?_eq_some_iff.mp hj').1
              exact h σ F2 _ (s.aft (A2.mutate e3 s0 ⟨C, _, dx, _, q1, rfl, q3, by simp; omega, q5.append (.cons r2 .nil)⟩))
            · cases e4
        · cases e4
/-! ### C(..) -/
def evMake (c : Int) (np : Nat) (cm : CM) (ma : AM) : EM := fun ρ => (ma ρ).bind fun a => (passB a.2 a.1).bind fun as => if as.length + 1 = np then (cm (.own (.ins c []) :: as)).bind fun x => (match x.1 with
  | .val .none => (match x.2 with
    | .own (.ins c' fs) => some (Rv.sv (.val (objD c' fs)), frAll a.2 a.1)
    | _ => none)
  | _ => none) else none
theorem simMake {k : Kx} {c : Int} {C : Addr} {ns : List Str} {np : Nat} {cm : CM} {E : XK} {ta : TA} {ma : AM} (hC : k.CT c = some (C, ns)) (ha : SimA k ta ma) : SimE k (tMake C (spF k true np cm) [] E ta) (evMake c np cm ma) := by
  intro F ρ σ H Q f h
  unfold evMake at h
  refine ha F ρ σ H _ f ((wpo_bind.mp h).mono fun a _ h => ?_)
  intro vs F1 H1 A1 R1 x dx hx hdx ndx
  have h := wpo_bind.mp h
  cases e1 : passB a.2 a.1 with
  | none => rw [e1] at h; exact h.elim
  | some as =>
    rw [e1] at h
    have h : wpo (if as.length + 1 = np then (cm (.own (.ins c []) :: as)).bind fun x => (match x.1 with
      | .val .none => (match x.2 with
        | .own (.ins c' fs) => some (Rv.sv (.val (objD c' fs)), frAll a.2 a.1)
        | _ => none)
      | _ => none) else none) _ := h
    obtain ⟨ar, ao⟩ := passB_ok (all := a.1) (rs := a.1) f A1 (fun _ z => z) (fun _ z => z) (fun _ z => z) R1 e1
    split at h
    · rename_i hl
      have el := ar.len
      -- all that is lent, and the instance's own dict, are frozen for the call
      let Fc : Hp := lendF (Lent a.2 σ a.1) F1 H1
      let H2 : Hp := upd (upd H1 dx (.own x)) x (.ins C dx [])
      have sFH : Sub Fc H1 := lend_in A1.fr
      have nFx : Fc x = none := sFH.none_of hx
      have nFd : Fc dx = none := sFH.none_of hdx
      have kp : ∀ p o, H1 p = some o → H2 p = some o := fun p o q => by
        show upd _ _ _ p = _
        rw [upd_ne (ne_of_none q hx), upd_ne (ne_of_none q hdx)]; exact q
      have sub2 : Sub (upd Fc dx (.own x)) H2 := fun p o q => by
        by_cases z : p = dx
        · subst z
          rw [upd_same] at q; cases q
          refine ⟨_, ?_, rfl⟩
          show upd _ _ _ p = _
          rw [upd_ne ndx, upd_same]
        · rw [upd_ne z] at q
          obtain ⟨o', e', z'⟩ := sFH p o q
          exact ⟨o', kp p _ e', z'⟩
      have ar2 : ArgsR k (upd Fc dx (.own x)) H2 as vs := by
        have gen : ∀ {ss : List SV} {us : List V}, ArgsR k Fc H1 ss us → ArgsR k (upd Fc dx (.own x)) H2 ss us := by
          intro ss us q
          induction q with
          | nil => exact .nil
          | cons a1 b1 c1 ih =>
            rename_i s0 v0 _ _
            refine .cons ?_ ih c1
            cases s0 with
            | val d => exact Rep.mono (Sub.upd nFd) a1
            | own o =>
              obtain ⟨p, ho, z1, z2, z3, z4⟩ := a1
              exact ⟨p, ho, z1, kp p ho z2, by rw [upd_ne (ne_of_none z2 hdx)]; exact z3, z4.mono (Sub.upd nFd)⟩
        exact gen ar
      have AO : ∀ p, ArgOwn (.own (.ins c []) :: as) (.ref x :: vs) p → p = x ∨ ArgOwn as vs p := fun p ⟨i, o', z1, z2⟩ => by
        cases i with
        | zero => simp at z2; exact .inl z2.symm
        | succ i => exact .inr ⟨i, o', by simpa using z1, by simpa using z2⟩
      refine ⟨upd Fc dx (.own x), .own (.ins c []) :: as, ⟨sub2, A1.fr.tabs.ext kp⟩, ?_, ?_, (wpo_bind.mp h).mono fun y _ h => ?_⟩
      · rw [List.append_nil]
        refine .cons ⟨x, _, rfl, upd_same, by rw [upd_ne (Ne.symm ndx)]; exact nFx, C, ns, dx, [], hC, by simp, upd_same, Nat.zero_le _, .nil⟩ ar2 fun o1 _ i o' z1 z2 => ?_
        obtain ⟨_, z3⟩ := ao x ⟨i, o', z1, z2⟩
        exact z3 hx
      · rw [List.append_nil, List.length_cons]; omega
      intro v F' H' sb tr rr outs
      rw [List.append_nil] at tr rr outs
      obtain ⟨u, hu, ou⟩ := outs rfl
      simp at hu
      subst hu
      obtain ⟨y1, y2⟩ := y
      dsimp only at h rr ou
      split at h
      · rename_i ey
        split at h
        · rename_i c' fs
          refine ⟨by cases rr; rfl, ?_⟩
          obtain ⟨p, ho, z0, z1, z2, C', ns', dx', ws, z3, rfl, z5, z6, z7⟩ := ou
          cases z0
          -- behind the call: the lent ones stay frozen, the instance is frozen
          have tr1 : Tr (fun p => ArgOwn as vs p) Fc H1 F' H' := by
            refine ⟨(Sub.upd nFd).trans tr.sub, fun p o q mt n => tr.keep p o (kp p o q) mt fun w => ?_, fun p o q m n n2 => tr.new p o (kp p o q) m ?_ fun w => ?_, fun p o q => tr.there p o (kp p o q)⟩
            · rcases AO p w with rfl | w
              · rw [hx] at q; cases q
              · exact n w
            · rw [upd_ne (ne_of_none q hdx)]; exact n
            · rcases AO p w with rfl | w
              · rw [hx] at q; cases q
              · exact n2 w
          have hI : ∀ p, ArgOwn as vs p → ¬ Own a.2 σ p := fun p w o => by
            obtain ⟨u, hu⟩ := f.own_some (A1.ow p o)
            rw [(ao p w).1] at hu; cases hu
          obtain ⟨b1, b2, b3, b4, b5, b6, b7, b8⟩ := backL A1.fr sb.sub tr1 (fun p w => .inl (hI p w)) (.inr ⟨rfl, rfl⟩)
          have ow : ∀ p, Own (frAll a.2 a.1) σ p → Own a.2 σ p := fun p ⟨i, o, w1, w2⟩ => ⟨i, o, (b6 i o w1).1, w2⟩
          have A3 : Aft k ρ σ F H (frAll a.2 a.1) F' H' := by
            refine ⟨⟨b1, b3, b5, fun i o q => ?_, fun i j o o' p w1 w2 w3 w4 => A1.fr.dist i j o o' p (b6 i o w1).1 (b6 j o' w2).1 w3 w4, sb.tabs⟩, ⟨A1.tr.sub.trans b2, fun p o q mt n => ?_, fun p o q m n n2 => ?_, fun p o q => ?_⟩, fun p w => A1.ow p (ow p w), fun i s q => let ⟨s', q'⟩ := A1.sl i s q; b4 i s' q'⟩
            · obtain ⟨w0, p, ho, w1, w2⟩ := b6 i o q
              obtain ⟨w3, w4, w5⟩ := w2 fun w => hI p w ⟨i, o, w0, w1⟩
              exact ⟨p, ho, w1, w3, w4, w5⟩
            · exact b7 p o (A1.tr.keep p o q mt n) mt fun w => by rw [(ao p w).1] at q; cases q
            · exact b8 p o (A1.tr.keep p o q m.ntb n2) m (A1.tr.new p o q m n n2) (fun w => by rw [(ao p w).1] at q; cases q) fun w => n2 (A1.ow p w)
            · obtain ⟨o', q'⟩ := A1.tr.there p o q
              exact tr1.there p o' q'
          have nx : H x = none := A1.none_of hx
          have RT : RR k H F' (frAll a.2 a.1) σ H' (.sv (.own (.ins c' fs))) (.ref x) := ⟨x, _, rfl, nx, z1, z2, C', ns', dx', ws, z3, rfl, z5, z6, z7⟩
          obtain ⟨F4, A4, _, r4, _⟩ := frz1_ok f A3 RT (show frz1 (frAll a.2 a.1) (.sv (.own (.ins c' fs))) = some (objD c' fs, frAll a.2 a.1) from rfl)
          exact h (.ref x) F4 H' A4 r4
        · exact h.elim
      · exact h.elim
    · exact h.elim
end Pv

/-! Pvf: len of an instance; enumerate. -/
namespace Pv
open PySem PySem.Spec PySem.SeqAt L2
theorem run_below {X : Cx} {pins : List (Addr × Obj)} {σ : L2.St} {H : Hp} {s : Shared} {A : Around} {CX : CXT} {n : Nat} {g : Addr} {fd : FuncData} {ps : List Str} {sp : Sp} {Q : VK} {E : XK} {us : List Value} {ws : List V} (F : FnOk X.prog X.w X.K X.mg X.base CX n g fd ps sp) (hb : Binds X.K fd ps [])
    (hr : Room n A) (e0 : Env0 X.prog X.w X.K X.mg X.base A X.stack s H) (hx : Passes CX X E) (I : Inv X pins σ H s) (r : Vals ws us) (h : sp ws H Q E) : wpAny (model X.prog X.w) A (call (.ref g) us) (EP X pins σ Q) X.xe s := by
  have hl : us.length = ps.length := by rw [← r.length]; exact F.len _ _ _ _ h
  have bt := hb s us I.kIn (by rw [List.append_nil]; exact hl)
  rw [List.append_nil] at bt
  refine wpAny_call (codeAny_mono (F.run A X.stack s H ⟨us, []⟩ us ws Q E hr e0 bt r h) fun res s' hq => ?_)
  match res, hq with
  | .error _, hq => exact hx pins σ H s _ s' I hq
  | .ok (.ret _), hq => exact I.after hq
  | .ok .next, hq => exact hq.elim
  | .ok .brk, hq => exact hq.elim
  | .ok .cont, hq => exact hq.elim
def rLenOwn (X : Cx) (n : Nat) : List V → Hp → VK → Prop := fun xs H Q => ∃ a C dx fs g fd ps sp, xs = [.ref a] ∧ H a = some (.ins C dx fs) ∧ PySem.W.findIn X.K (.ref C) "__len__" = some (some (.ref g)) ∧ PySem.W.isFn X.K (.ref g) = true ∧
  FnOk X.prog X.w X.K X.mg X.base CX0 n g fd ps sp ∧ Binds X.K fd ps [] ∧ sp [.ref a] H (fun z H' => ∃ i, z = .int i ∧ (0 ≤ i ∧ i < 2 ^ 63) ∧ Q z H') E0
theorem cr_lenOwn {X : Cx} {n : Nat} (hr : Room (n + 1) X.A) : CallR X (.builtin "len") (rLenOwn X n) := by
  intro pins s σ H xs us Q I r h
  obtain ⟨a, C, dx, fs, g, fd, ps, sp, rfl, ha, hf, hfn, F, hb, q⟩ := h
  rw [Vals.ref1 r]
  obtain ⟨mA, O, _⟩ := ins_get I.hok ha
  obtain ⟨od, J, _⟩ := O.look
  obtain ⟨m, hF⟩ := I.fr
  refine PySem.W.len_K hF I.ok.mod.kin J hf hfn (wpAny_mono (run_below (us := [.ref a]) (ws := [.ref a]) F hb hr.in1 I.env0.in1 pass0 I (.cons rfl .nil) q) (fun w s' z => ?_) fun _ _ x => x)
  obtain ⟨z', H', I', rz, i, ei, hi, qz⟩ := z
  subst ei
  obtain ⟨t, e⟩ := (show ∃ t, w = Value.int i t from rz)
  subst e
  exact ⟨hi, .int i, H', I'.tok _, ⟨_, rfl⟩, qz⟩
def evLen (lm : Int → Option (Nat × CM)) (me : EM) : EM := fun ρ => (me ρ).bind fun a => (rdD a.2 a.1).bind fun d => match d with
  | .dict [(.none, .int c), (.none, .tuple fs)] => (frz1 a.2 a.1).bind fun b => (lm c).bind fun m => if m.1 = 1 then (m.2 [.val b.1]).bind fun x => (match x.1 with
    | .val (.int i) => if (decide (0 ≤ i) && Nat.ble i.toNat 9223372036854775807) = true then some (.sv (.val (.int i)), b.2) else none
    | _ => none) else none
  | d => (gLen [d]).bind fun s => some (.sv s, a.2)
def LenOk (k : Kx) (X : Cx) (n : Nat) (lm : Int → Option (Nat × CM)) : Prop := ∀ c np cm C ns, lm c = some (np, cm) → k.CT c = some (C, ns) → ∃ g fd ps io, PySem.W.findIn X.K (.ref C) "__len__" = some (some (.ref g)) ∧ PySem.W.isFn X.K (.ref g) = true ∧ Binds X.K fd ps [] ∧
  FnOk X.prog X.w X.K X.mg X.base CX0 n g fd ps (spF k io np cm)
theorem Aft.call0 {k : Kx} {ρ ρ1 : Rho} {σ : L2.St} {F H F1 H1 F' H' : Hp} {I : Addr → Prop} (A : Aft k ρ σ F H ρ1 F1 H1) (sb : SubT k F' H') (tr : Tr I F1 H1 F' H') (hI : ∀ p, ¬ I p) : Aft k ρ σ F H ρ1 F' H' := by
  refine A.trans ⟨⟨sb.sub, A.fr.len, fun i d q => ?_, fun i o q => ?_, A.fr.dist, sb.tabs⟩, tr.mono fun p z => (hI p z).elim, fun p z => z, fun i s q => ⟨s, q⟩⟩
  · obtain ⟨v, e, r⟩ := A.fr.vals i d q
    exact ⟨v, e, r.mono tr.sub⟩
  · obtain ⟨p, ho, e1, e2, e3, e4⟩ := A.fr.owns i o q
    exact ⟨p, ho, e1, tr.keep p ho e2 e4.ntb (hI p), tr.new p ho e2 e4.nt e3 (hI p), e4.mono tr.sub⟩
theorem simLenA {k : Kx} {X : Cx} {n : Nat} {lm : Int → Option (Nat × CM)} (ok : LenOk k X n lm) (hK : k.K = X.K) {te : TE} {me : EM} (he : SimE k te me) : SimE k (tCB (fun xs H Q => rLenS k.K xs H Q ∨ rLenOwn X n xs H Q) (tCons te tNil)) (evLen lm me) := by
  intro F ρ σ H Q f h
  unfold evLen at h
  refine he F ρ σ H _ f ((wpo_bind.mp h).mono fun a _ h => ?_)
  intro v F1 H1 A1 R1
  have h := wpo_bind.mp h
  cases e1 : rdD a.2 a.1 with
  | none => rw [e1] at h; exact h.elim
  | some d =>
    rw [e1] at h
    have rd := R1.rd A1.fr e1
    have gen : wpo ((gLen [d]).bind fun s => some (Rv.sv s, a.2)) (fun x => ∀ v F' H', Aft k ρ σ F H x.2 F' H' → RR k H F' x.2 σ H' x.1 v → Q v H') → rLenS k.K [v] H1 Q ∨ rLenOwn X n [v] H1 Q := fun h =>
      .inl (simLen F1 a.2 σ H1 [v] [d] Q A1.fr (.cons rd .nil) ((wpo_bind.mp h).mono fun s _ h v F' H' A R => h v F' H' (A1.trans A) (R.back A1)))
    replace h : wpo (match d with
      | .dict [(.none, .int c), (.none, .tuple fs)] => (frz1 a.2 a.1).bind fun b => (lm c).bind fun m => if m.1 = 1 then (m.2 [.val b.1]).bind fun x => (match x.1 with
        | .val (.int i) => if (decide (0 ≤ i) && Nat.ble i.toNat 9223372036854775807) = true then some (Rv.sv (.val (.int i)), b.2) else none
        | _ => none) else none
      | d => (gLen [d]).bind fun s => some (.sv s, a.2)) _ := h
    split at h
    · rename_i c fs
      have h := wpo_bind.mp h
      cases e2 : frz1 a.2 a.1 with
      | none => rw [e2] at h; exact h.elim
      | some b =>
        rw [e2] at h
        obtain ⟨F2, A2, _, r2, _⟩ := frz1_ok f A1 R1 e2
        have h := wpo_bind.mp h
        cases e3 : lm c with
        | none => rw [e3] at h; exact h.elim
        | some m =>
          rw [e3] at h
          replace h : wpo (if m.1 = 1 then (m.2 [.val b.1]).bind fun x => (match x.1 with
            | .val (.int i) => if (decide (0 ≤ i) && Nat.ble i.toNat 9223372036854775807) = true then some (Rv.sv (.val (.int i)), b.2) else none
            | _ => none) else none) _ := h
          split at h
          · rename_i e1'
            obtain ⟨p, dx, C, ns, vs, rfl, q1, q2, _⟩ := rd.obj A1.fr.sub
            obtain ⟨g, fd, ps, io, o1, o2, o3, o4⟩ := ok c m.1 m.2 C ns (by rw [e3]) q1
            refine .inr ⟨p, C, dx, _, g, fd, ps, _, rfl, q2, o1, o2, o4, o3, ?_⟩
            refine ⟨F2, [.val b.1], ⟨A2.fr.sub, A2.fr.tabs⟩, .cons r2 .nil (fun o z => nomatch z), by rw [e1']; rfl, (wpo_bind.mp h).mono fun x _ h => ?_⟩
            intro w F' H' sb tr rr ot
            clear ot
            obtain ⟨x1, x2⟩ := x
            dsimp only at h rr
            cases x1 with
            | own o => exact h.elim
            | val dv =>
              cases dv with
              | int i =>
                replace h : wpo (if (decide (0 ≤ i) && Nat.ble i.toNat 9223372036854775807) = true then some (Rv.sv (.val (.int i)), b.2) else none) _ := h
                split at h
                · rename_i hi
                  simp only [Bool.and_eq_true, decide_eq_true_eq] at hi
                  replace hi : 0 ≤ i ∧ i < 2 ^ 63 := ⟨hi.1, by have := Nat.le_of_ble_eq_true hi.2; omega⟩
                  have hw : w = .int i := by cases rr; rfl
                  refine ⟨i, hw, hi, ?_⟩
                  rw [hw]
                  refine h _ F' H' (A2.call0 sb tr fun p ⟨j, o, z, _⟩ => ?_) (.int i)
                  cases j <;> simp at z
                · exact h.elim
              | _ => exact h.elim
          · exact h.elim
    · exact gen h
end Pv

/-! Pvg: enumerate over lists and tuples. -/
namespace Pv
open PySem PySem.Spec PySem.SeqAt PyProof.Rows L2

set_option maxHeartbeats 1000000 in
theorem meets_enumB {v : Value} {o : Obj} {H : Heap → Prop} (B : Begins v o H) :
    Meets (Builtin.«enumerate.__new__» ⟨[.type "enumerate", v], []⟩) (fun _ R s => H s.heap ∧
      R (.ok (.ret (.ref (s.heap.push o).objs.size))) { s with heap := (s.heap.push o).push { cls := .type "enumerate", data := .fields #[.none, .bool false, .ref s.heap.objs.size, rawInt 0, .none, .none] } }) :=
  .of_wp fun prog w A R s h => by
    obtain ⟨hp, g, d, tk, os⟩ := s; obtain ⟨h1, h⟩ := h
    have hsub := sub_enumerate
    have hI := fun (A : Around) (E : Value → Shared → Prop) (Q : Value → Shared → Prop) => B.iter prog w A E ⟨hp, g, d, tk, os⟩ Q h1
    wp_walk
    refine wpAny_stack_any fun st => wpAny_pure ?_
    split
    · rename_i c _ _ _ _ _
      cases (c == Value.type "enumerate")
      · wp_walk using hI _ _ _
        exact ⟨_, rfl, h⟩
      · wp_walk using hI _ _ _
        exact ⟨_, rfl, h⟩
    · wp_walk using hI _ _ _
      exact ⟨_, rfl, h⟩
theorem enumB_begins {prog : Program} {w : World} {A : Around} {E : Value → Shared → Prop} {s : Shared} {v : Value} {o : Obj} {H : Heap → Prop} {Q : Value → Shared → Prop} (B : Begins v o H) (h1 : H s.heap)
    (h : ∀ h', IsEnum h' (s.heap.objs.size + 1) s.heap.objs.size 0 .none → h'.get? s.heap.objs.size = some o → (∀ b u, s.heap.get? b = some u → h'.get? b = some u) → Q (.ref (s.heap.objs.size + 1)) { s with heap := h' }) :
    wpAny (model prog w) A (call (.type "enumerate") [v]) Q E s := by
  refine callType_new F.called_enumerate (by decide) (F.typeCall_enumerate_1 _) (F.newCall_enumerate_1 _) (fun obj => F.args_object_init_2 obj _) F.entry_enumerate_new (meets_enumB B) ⟨h1, ?_⟩
  have hz : (s.heap.push o).objs.size = s.heap.objs.size + 1 := Heap.size_push ..
  show _ ∧ _
  rw [hz]
  have he : IsEnum ((s.heap.push o).push { cls := .type "enumerate", data := .fields #[.none, .bool false, .ref s.heap.objs.size, rawInt 0, .none, .none] }) (s.heap.objs.size + 1) s.heap.objs.size 0 .none := by
    have q := Heap.get?_push_size (s.heap.push o) (o := { cls := .type "enumerate", data := .fields #[.none, .bool false, .ref s.heap.objs.size, rawInt 0, .none, .none] }) rfl
    rw [hz] at q; exact q
  exact ⟨⟨_, he, rfl⟩, h _ he (Heap.get?_push_of_some _ (Heap.get?_push_size _ B.free)) fun b u y => Heap.get?_push_of_some _ (Heap.get?_push_of_some _ y)⟩
def IteT (K : PySem.W.Frag) (a : Addr) : It where
  go := fun i H => ∃ (xs : List V) (x : V), SqT K H a xs ∧ xs[i]? = some x
  yld := fun i H v H' => ∃ T x, v = .ref T ∧ H T = none ∧ H' = upd H T (.tup [.int (i : Nat), x]) ∧ ∀ xs, SqT K H a xs → xs[i]? = some x
  stop := fun i H => ∃ xs : List V, SqT K H a xs ∧ xs.length ≤ i
theorem turn_enumT {P : Program} {w : World} {K : PySem.W.Frag} {elts : List Expr} {kk : Nat} {tpos : Pos} (a e it : Addr) :
    Turn P w K (.Tuple elts kk tpos) (IteT K a) [e, it] e (fun i h => (∃ old, IsEnum h e it ((i : Nat) : Int) old) ∧ h.IsTupleIter it a i ∧ e ≠ it) := by
  have ap : ∀ {h : Heap} {i : Nat} {old : Value} {j : Int} {its : Array Value}, IsEnum h e it j old → h.IsTupleIter it a i → h.IsTuple a its → a ≠ it ∧ e ≠ a := by
    intro h i old j its h1 h2 h3
    obtain ⟨o2, g2, c2, _⟩ := h2
    obtain ⟨o3, g3, c3, _⟩ := h3
    refine ⟨fun z => ?_, fun z => ?_⟩
    · rw [z, g2] at g3; cases g3; rw [c2] at c3; exact absurd c3 (by decide)
    · rw [← z, show h.get? e = _ from h1] at g3; cases g3; exact absurd (show Value.type "enumerate" = Value.type "tuple" from c3) (by decide)
  refine ⟨by simp, fun i h st b hb => ?_, fun i h h' st kp => ?_, ?_, ?_, fun A i s Q E st q => ?_⟩
  · obtain ⟨⟨old, he⟩, ⟨o, ho, hc, hd⟩, _⟩ := st
    rcases (show b = e ∨ b = it by simpa using hb) with rfl | rfl
    · exact ⟨_, he, fun v q => nomatch q⟩
    · exact ⟨o, ho, fun v q => by rw [hd] at q; cases q⟩
  · obtain ⟨⟨old, he⟩, hi, hne⟩ := st
    exact ⟨⟨old, kp e (by simp) _ he⟩, hi.at fun o q => kp it (by simp) o q, hne⟩
  · intro X hP hw hK hc i pins s σ H E I hf st hg
    subst hP hw hK
    obtain ⟨⟨old, he⟩, hit, hne⟩ := st
    obtain ⟨xs, x, hq, hx⟩ := hg
    obtain ⟨its, rv, p, hz⟩ := I.tuple hq
    have p : s.heap.IsTuple a its.toArray := p
    obtain ⟨u, hu, ru⟩ := rv.get hx
    obtain ⟨na, ne⟩ := ap he hit p
    have D := Draws.tuple (prog := X.prog) (w := X.w) (A := X.A.in1) (I.ok.hd hc) it a na its.toArray
    have hil : i < its.length := (List.getElem?_eq_some_iff.mp hu).1
    have hel : e < s.heap.objs.size := Heap.lt_size he
    have hitl : it < s.heap.objs.size := by obtain ⟨_, q, _⟩ := hit; exact Heap.lt_size q
    refine wpAny_pyNext_enum_itemD D he ⟨hit, p⟩ (by simpa using hil) hne (by simp [hne, ne]) fun u' h' tk hP ho st' hT hsz hk => ?_
    have hu' : u' = u := by
      have : its[i]? = some u' := by simpa using hP
      rw [hu] at this; cases this; rfl
    subst hu'
    refine ⟨_, rfl, wpAny_letOwnedTupleGo_enum (s := { s with heap := h', toks := tk + 1 }) ho fun h'' he' sb => ?_⟩
    have hT2 := (sb.2 _ (Nat.ne_of_gt hel)).trans hT
    have new : ObjOk X.prog X.w (upd H s.heap.objs.size (.tup [.int (i : Nat), x])) h'' s.heap.objs.size (.tup [.int (i : Nat), x]) := by
      refine ⟨by show 2 ≤ sizeLine; decide, [.int i tk, u'], .cons ⟨_, rfl⟩ (.cons ru .nil), ⟨_, hT2, rfl, _, rfl⟩⟩
    have I1 : Inv X pins σ (upd H s.heap.objs.size (.tup [.int (i : Nat), x])) { s with heap := h'', toks := tk + 1 } := by
      refine I.turnedNew (ch := [e, it]) (fun b ob hb q => ?_) hf (Nat.le_refl _) new
      have hb1 : b ≠ e := fun z => hb (by simp [z])
      have hb2 : b ≠ it := fun z => hb (by simp [z])
      exact (sb.2 b hb1).trans (hk b ob hb1 hb2 q)
    refine ⟨.ref s.heap.objs.size, _, I1, rfl, ⟨_, x, rfl, I.hok.fresh (Nat.le_refl _), rfl, fun ys hy => by rw [I.tuple_inj hy hq]; exact hx⟩, ⟨⟨u', ?_⟩, st'.1.at fun o q => (sb.2 it (Ne.symm hne)).trans q, hne⟩, fun b hb => ?_⟩
    · have e1 : ((i + 1 : Nat) : Int) = (i : Int) + 1 := by omega
      rw [e1]; exact he'
    · have hb' : b ≠ s.heap.objs.size := by
        rcases (show b = e ∨ b = it by simpa using hb) with rfl | rfl
        · exact Nat.ne_of_lt hel
        · exact Nat.ne_of_lt hitl
      rw [upd_ne hb']
      exact (hf b hb).1
  · intro X hP hw hK hc i pins s σ H E I hf st hg
    subst hP hw hK
    obtain ⟨⟨old, he⟩, hit, hne⟩ := st
    obtain ⟨xs, hq, hx⟩ := hg
    obtain ⟨its, rv, p, hz⟩ := I.tuple hq
    have p : s.heap.IsTuple a its.toArray := p
    obtain ⟨na, ne⟩ := ap he hit p
    have hl := rv.length
    obtain ⟨f0, f1, f2, f3, f4, f5⟩ := hf it (by simp)
    have D : Draws X.prog X.w X.A.in1 it [it, a] i (fun _ _ => False) (fun j h => j = i ∧ h.IsTupleIter it a i ∧ h.IsTuple a its.toArray) := by
      refine ⟨fun _ _ st => let ⟨o, ho, _⟩ := st.2.1; ⟨o, ho⟩, fun _ _ _ st hk => ⟨st.1, st.2.1.at fun o e => hk it (by simp) o e, st.2.2.at fun o e => hk a (by simp) o e⟩, fun j s Q E hj st _ => ?_, fun s Q E st hE => ?_⟩
      · omega
      · exact wpAny_nextOf_tuple_end (I.ok.hd hc) st.2.1 st.2.2 (by simp; omega) hE
    exact wpAny_pyNext_enum_endD D he ⟨rfl, hit, p⟩ fun h' eb => ⟨rfl, I.turned (t' := s.toks) (fun b o hb q => eb b o hb q) f0 f1 f3 f4 f5⟩
  · obtain ⟨⟨_, he⟩, _⟩ := st
    exact wpAny_pyIter_enum he q
def iEnumS (K : PySem.W.Frag) (ta : TA) : TI := fun σ H R => ta σ H fun vs H1 => (∃ a xs, vs = [.ref a] ∧ SqL K H1 a xs ∧ R (Ite K a) H1) ∨ (∃ a xs, vs = [.ref a] ∧ SqT K H1 a xs ∧ R (IteT K a) H1)
theorem pi_enumS {X : Cx} {e : Expr} {ta : TA} {p pos tpos : Pos} {elts : List Expr} {kk : Nat} (hg : Gl X "enumerate") (hm : X.mg "enumerate" = none) (ha : PA X [e] ta) (hs : starEach [e] X.env = [(false, eval e X.env)] := by rfl) :
    PI X (.Tuple elts kk tpos) (.Call (.Name "enumerate" p) [e] [] pos) (iEnumS X.K ta) := by
  refine ⟨fun pins s σ H R I h => Call_ (ld_blt I hg hm boot_enumerate (PyProof.Rows.callWith_type1 (thn (ha.run pos pins s σ H _ I h) fun us s1 ⟨vs, H1, I1, r1, q1⟩ => ?_) hs rfl))⟩
  have fp : ∀ b ∈ [s1.heap.objs.size + 1, s1.heap.objs.size], FpOk X pins H1 b := fun b hb => by
    have hle : s1.heap.objs.size ≤ b := by
      rcases (show b = s1.heap.objs.size + 1 ∨ b = s1.heap.objs.size by simpa using hb) with rfl | rfl <;> omega
    exact I1.fpOk hle (I1.hok.fresh hle)
  rcases q1 with ⟨a, xs, rfl, hq, q⟩ | ⟨a, xs, rfl, hq, q⟩
  · cases r1 with
    | cons r rr =>
      cases rr
      cases r
      obtain ⟨its, rv, p', hz⟩ := I1.list hq
      refine call_enumerate_list p'.isList fun h' he hit hsz hk => wpAny_pyIter_enum he ?_
      exact ⟨s1.heap.objs.size + 1, _, _, _, H1, rfl, I1.kept (t' := s1.toks) hk, turn_enum a (s1.heap.objs.size + 1) s1.heap.objs.size, ⟨⟨.none, he⟩, hit, Nat.succ_ne_self _⟩, fp, q⟩
  · cases r1 with
    | cons r rr =>
      cases rr
      cases r
      obtain ⟨its, rv, p', hz⟩ := I1.tuple hq
      refine enumB_begins (begins_tuple a its.toArray) p' fun h' he hit hk => wpAny_pyIter_enum he ?_
      exact ⟨s1.heap.objs.size + 1, _, _, _, H1, rfl, I1.kept (t' := s1.toks) hk, turn_enumT a (s1.heap.objs.size + 1) s1.heap.objs.size, ⟨⟨.none, he⟩, ⟨_, hit, rfl, rfl⟩, Nat.succ_ne_self _⟩, fp, q⟩
def enumD (xs : List D) : List D := (List.range xs.length).map fun i => .tuple [.int (i : Nat), xs.getD i .none]
theorem enumD_get {xs : List D} {i : Nat} {d : D} (h : (enumD xs)[i]? = some d) : ∃ x, xs[i]? = some x ∧ d = .tuple [.int (i : Nat), x] := by
  have hi : i < xs.length := by
    have := (List.getElem?_eq_some_iff.mp h).1
    simpa [enumD] using this
  simp [enumD, hi] at h
  exact ⟨xs[i], by simp [hi], h.symm⟩
theorem enumD_len {xs : List D} : (enumD xs).length = xs.length := by simp [enumD]
theorem pairD {k : Kx} {F F' H' : Hp} {vs : List V} {xs : List D} {i : Nat} {d : D} {x : V} {H'' : Hp} (r : RepL k F vs xs) (s1 : Sub F F') (s2 : Sub F' H') (e : (enumD xs)[i]? = some d) (y : YPair (fun i => some (.int (i : Nat))) (fun i => vs[i]?) i H' x H'') :
    YOk k F' H' x H'' d := by
  obtain ⟨z, e1, rfl⟩ := enumD_get e
  obtain ⟨v, e2, rv⟩ := r.get e1
  obtain ⟨T, a, b, h1, h2, h3, h4, h5⟩ := y
  simp only [Option.some.injEq] at h4
  subst h4
  have h5 : vs[i]? = some b := h5
  rw [e2] at h5; cases h5
  subst h1
  have su : Sub F' (upd F' T (.tup [.int (i : Nat), v])) := Sub.upd (s2.none_of h2)
  exact .inr (.inl ⟨T, _, h2, h3, .tup upd_same (.cons (.int _) (.cons ((rv.mono s1).mono su) .nil))⟩)
theorem walkD_enumL {k : Kx} {F : Hp} {a : Addr} {vs : List V} {xs : List D} (h : SqL k.K F a vs) (r : RepL k F vs xs) : WalkD k (Ite k.K a) F (enumD xs) := by
  refine ⟨fun H => SqL k.K H a vs, _, by rw [enumD_len, ← r.length]; exact walk_enum, fun F' H' s1 s2 => s2.sqL (s1.sqL h), fun i d F' H' x H'' e s1 s2 y => pairD r s1 s2 e y⟩
theorem walk_enumT {K : PySem.W.Frag} {a : Addr} {xs : List V} : Walk (IteT K a) xs.length (fun H => SqT K H a xs) (YPair (fun i => some (.int (i : Nat))) (fun i => xs[i]?)) := by
  refine ⟨fun i _ hi q => ⟨xs, xs[i], q, by simp [hi]⟩, fun _ q => ⟨xs, q, Nat.le_refl _⟩, fun i H v H' _ q y => ?_⟩
  obtain ⟨T, x, h1, h2, h3, h4⟩ := y
  exact ⟨T, .int (i : Nat), x, h1, h2, h3, rfl, h4 xs q⟩
theorem walkD_enumT {k : Kx} {F : Hp} {a : Addr} {vs : List V} {xs : List D} (h : SqT k.K F a vs) (r : RepL k F vs xs) : WalkD k (IteT k.K a) F (enumD xs) := by
  refine ⟨fun H => SqT k.K H a vs, _, by rw [enumD_len, ← r.length]; exact walk_enumT, fun F' H' s1 s2 => s2.sqT (s1.sqT h), fun i d F' H' x H'' e s1 s2 y => pairD r s1 s2 e y⟩
def ivEnum (me : EM) : IM := fun ρ => (me ρ).bind fun a => (frz1 a.2 a.1).bind fun b => (seqD b.1).bind fun xs => some (enumD xs, b.2)
theorem simEnum {k : Kx} {tl : TE} {me : EM} (he : SimE k tl me) : SimI k (iEnumS k.K (tCons tl tNil)) (ivEnum me) := by
  intro F ρ σ H R f h
  unfold ivEnum at h
  refine he F ρ σ H _ f ((wpo_bind.mp h).mono fun a _ h => ?_)
  intro v F1 H1 A1 R1
  have h := wpo_bind.mp h
  cases e1 : frz1 a.2 a.1 with
  | none => rw [e1] at h; exact h.elim
  | some b =>
    rw [e1] at h
    obtain ⟨F2, A2, s2, r2, _⟩ := frz1_ok f A1 R1 e1
    have h := wpo_bind.mp h
    obtain ⟨d, ρ2⟩ := b
    dsimp only at h r2 A2
    unfold seqD at h
    split at h
    · cases r2 with
      | lst h2 r3 => exact .inl ⟨_, _, rfl, .inl (.inl (A2.fr.sub.ex h2)), h _ F2 H1 A2 (walkD_enumL (.inl (.inl h2)) r3)⟩
    · cases r2 with
      | tup h2 r3 => exact .inr ⟨_, _, rfl, A2.fr.sub.sqT (SqT.of h2), h _ F2 H1 A2 (walkD_enumT (SqT.of h2) r3)⟩
    · cases r2 with
      | fls h2 r3 => exact .inl ⟨_, _, rfl, A2.fr.sub.sqL h2.sq, h _ F2 H1 A2 (walkD_enumL h2.sq r3)⟩
    · cases r2 with
      | xt h2 r3 => exact .inr ⟨_, _, rfl, A2.fr.sub.sqT h2.sqT, h _ F2 H1 A2 (walkD_enumT h2.sqT r3)⟩
    · exact h.elim
end Pv

/-! Pvh: several names at once; list(range(..)). -/
namespace Pv
open PySem PySem.Spec PySem.SeqAt L2
section
variable {k : Kx} {P : List Nat} {Wx : Option WX} {e : Ent} {ρ ρ' ρ0 : Rho} {σ : L2.St} {F H F0 H0 : Hp}
def frzP (ρ : Rho) : List Rv → Option (List SV × Rho)
  | [] => some ([], ρ)
  | .sv s :: rs => (frzP ρ rs).bind fun a => some (s :: a.1, a.2)
  | .plc j :: rs => (frz1 ρ (.plc j)).bind fun d => (frzP d.2 rs).bind fun a => some (.val d.1 :: a.1, a.2)
inductive Prs (k : Kx) (eH F H : Hp) : (Addr → Prop) → List SV → List V → Prop
  | nil {O : Addr → Prop} : Prs k eH F H O [] []
  | val {O : Addr → Prop} {d : D} {v : V} {ss : List SV} {vs : List V} : Rep k F v d → Prs k eH F H O ss vs → Prs k eH F H O (.val d :: ss) (v :: vs)
  | own {O : Addr → Prop} {o : OB} {p : Addr} {ho : HO} {ss : List SV} {vs : List V} : eH p = none → H p = some ho → F p = none → RepO k F p o ho → ¬ O p → Prs k eH F H (fun a => O a ∨ a = p) ss vs → Prs k eH F H O (.own o :: ss) (.ref p :: vs)
theorem Prs.sub {eH F' : Hp} (sb : Sub F F') : ∀ {O : Addr → Prop} {ss : List SV} {vs : List V}, (∀ p, F p = none → F' p ≠ none → eH p ≠ none) → Prs k eH F H O ss vs → Prs k eH F' H O ss vs
  | _, _, _, _, .nil => .nil
  | _, _, _, hf, .val a b => .val (a.mono sb) (Prs.sub sb hf b)
  | _, _, _, hf, .own (p := p) a b c d e f => .own a b (by
      cases z : F' p with
      | none => rfl
      | some u => exact absurd a (hf p c (by rw [z]; simp))) (d.mono sb) e (Prs.sub sb hf f)
theorem frzP_ok (f0 : FR k F0 ρ0 σ H0) : ∀ {rs : List Rv} {vs : List V} {ρ ρ' : Rho} {F Hs : Hp} {ss : List SV} {O : Addr → Prop}, Aft k ρ0 σ F0 H0 ρ F H → (∀ p, H0 p ≠ none → Hs p ≠ none) → (∀ p, O p → Hs p ≠ none) → RRs k F ρ σ H Hs rs vs → frzP ρ rs = some (ss, ρ') →
    ∃ F', Aft k ρ0 σ F0 H0 ρ' F' H ∧ Sub F F' ∧ (∀ p, F p = none → F' p ≠ none → H0 p ≠ none) ∧ Prs k H0 F' H O ss vs
  | [], _, _, _, F, _, _, _, A, _, _, .nil, q => by
    simp only [frzP, Option.some.injEq, Prod.mk.injEq] at q
    obtain ⟨rfl, rfl⟩ := q
    exact ⟨F, A, Sub.refl _, fun p h1 h2 => absurd h1 h2, .nil⟩
  | .sv (.val d0) :: rs, v :: vs, ρ, ρ', F, Hs, ss, O, A, hs, hO, .cons (H1 := H1) a b c d, q => by
    simp only [frzP, Option.bind_eq_some_iff] at q
    obtain ⟨y, e2, e3⟩ := q
    cases e3
    obtain ⟨F2, A2, s2, n2, r2⟩ := frzP_ok f0 A (fun p h => c p (hs p h)) (fun p h => c p (hO p h)) b e2
    exact ⟨F2, A2, s2, n2, .val (Rep.mono s2 a) r2⟩
  | .sv (.own o) :: rs, v :: vs, ρ, ρ', F, Hs, ss, O, A, hs, hO, .cons (H1 := H1) a b c d, q => by
    simp only [frzP, Option.bind_eq_some_iff] at q
    obtain ⟨y, e2, e3⟩ := q
    cases e3
    obtain ⟨p, ho, e1, n, h1, n1, ro⟩ := a
    subst e1
    obtain ⟨p', hp', hn'⟩ := d o rfl
    cases hp'
    obtain ⟨F2, A2, s2, n2, r2⟩ := frzP_ok (O := fun a => O a ∨ a = p) f0 A (fun p h => c p (hs p h)) (fun q h => by
      rcases h with h | rfl
      · exact c q (hO q h)
      · exact hn') b e2
    have z0 : H0 p = none := by
      cases z : H0 p with
      | none => rfl
      | some u => exact absurd n (hs p (by rw [z]; simp))
    refine ⟨F2, A2, s2, n2, .own z0 h1 ?_ (ro.mono s2) (fun z => hO p z n) r2⟩
    cases z : F2 p with
    | none => rfl
    | some u => exact absurd z0 (n2 p n1 (by rw [z]; simp))
  | .plc j :: rs, v :: vs, ρ, ρ', F, Hs, ss, O, A, hs, hO, .cons (H1 := H1) a b c d, q => by
    simp only [frzP, Option.bind_eq_some_iff] at q
    obtain ⟨x, e1, y, e2, e3⟩ := q
    cases e3
    obtain ⟨F1, A1, s1, r1, n1, l1⟩ := frz1_ok f0 A (r := .plc j) (v := v) a e1
    have n1' : ∀ p, F p = none → F1 p ≠ none → H0 p ≠ none := fun p h1 h2 => by
      obtain ⟨e5, z⟩ := n1 p h1 h2
      rcases z with z | ⟨o, z⟩
      · exact z
      · cases z
    have b' := RRs.frz s1 l1 b fun p h1 h2 => c p (hs p (n1' p h1 h2))
    obtain ⟨F2, A2, s2, n2, r2⟩ := frzP_ok f0 A1 (fun p h => c p (hs p h)) (fun p h => c p (hO p h)) b' e2
    refine ⟨F2, A2, s1.trans s2, fun p h1 h2 => ?_, .val (r1.mono s2) r2⟩
    cases z : F1 p with
    | none => exact n2 p z h2
    | some u => exact n1' p h1 (by rw [z]; simp)
def parS (P : List Nat) : List Nat → List SV → Rho → Option Rho
  | [], [], ρ => some ρ
  | i :: is, s :: ss, ρ => if i ∈ P then none else parS P is ss (ρ.set i (some s))
  | _, _, _ => none
def setS : List Nat → List V → L2.St → L2.St
  | i :: is, v :: vs, σ => setS is vs (σ.set i (some v))
  | _, _, σ => σ
theorem par_ok (hP : ∀ q ∈ e.pr, q.1 ∈ P) : ∀ {is : List Nat} {ss : List SV} {vs : List V} {ρ : Rho} {σ : L2.St} {O : Addr → Prop}, SInv k e ρ σ F H → (∀ p, Own ρ σ p → O p) → Prs k e.H F H O ss vs → parS P is ss ρ = some ρ' → SInv k e ρ' (setS is vs σ) F H ∧ is.length = vs.length
  | [], [], _, ρ, σ, O, s, _, .nil, h => by
    simp only [parS, Option.some.injEq] at h
    subst h; exact ⟨s, rfl⟩
  | i :: is, _, _, ρ, σ, O, s, hO, .val (v := v) (d := d) a b, h => by
    simp only [parS] at h
    split at h
    · cases h
    · rename_i hi
      obtain ⟨q1, q2⟩ := par_ok hP (σ := σ.set i (some v)) ⟨s.fr.setVal a, s.tr, fun p z => s.ow p z.of_setVal, pr_set hP hi s.pr⟩ (fun p z => hO p z.of_setVal) b h
      exact ⟨q1, congrArg Nat.succ q2⟩
  | i :: is, _, _, ρ, σ, O, s, hO, .own (p := p) (o := o) n h1 n1 ro no b, h => by
    simp only [parS] at h
    split at h
    · cases h
    · rename_i hi
      obtain ⟨q1, q2⟩ := par_ok hP (σ := σ.set i (some (.ref p))) ⟨s.fr.setOwn h1 n1 ro fun z => no (hO p z), s.tr, fun a z => z.of_setOwn.elim (s.ow a) fun q => .inr (q ▸ n), pr_set hP hi s.pr⟩ (fun a z => z.of_setOwn.imp (hO a) id) b h
      exact ⟨q1, congrArg Nat.succ q2⟩
  | [], _, _, _, _, _, _, _, .val _ _, h => by simp [parS] at h
  | [], _, _, _, _, _, _, _, .own _ _ _ _ _ _, h => by simp [parS] at h
  | _ :: _, _, _, _, _, _, _, _, .nil, h => by simp [parS] at h
theorem Prs.back {eH : Hp} (hb : ∀ p, H0 p = none → eH p = none) : ∀ {O : Addr → Prop} {ss : List SV} {vs : List V}, Prs k H0 F H O ss vs → Prs k eH F H O ss vs
  | _, _, _, .nil => .nil
  | _, _, _, .val a b => .val a (Prs.back hb b)
  | _, _, _, .own a b c d e f => .own (hb _ a) b c d e (Prs.back hb f)
def exPar (P is : List Nat) (ma : AM) : SM := fun ρ => (ma ρ).bind fun a => (frzP a.2 a.1).bind fun b => (parS P is b.1 b.2).bind fun ρ' => some (.nx, ρ')
theorem par_all {ta : TA} {ma : AM} {is : List Nat} (ha : SimA k ta ma) {D : Ends} (hP : ∀ q ∈ e.pr, q.1 ∈ P) (s : SInv k e ρ σ F H) (h : wpo (exPar P is ma ρ) (Post k e Wx D)) {Q : List V → Hp → Prop}
    (hq : ∀ vs H1 ρ' F', is.length = vs.length → SInv k e ρ' (setS is vs σ) F' H1 → (∀ σ F H, SInv k e ρ' σ F H → D.nx σ H) → Q vs H1) : ta σ H Q := by
  unfold exPar at h
  refine ha F ρ σ H _ s.fr ((wpo_bind.mp h).mono fun a _ h => ?_)
  intro vs F1 H1 A1 R1
  have h := wpo_bind.mp h
  cases e1 : frzP a.2 a.1 with
  | none => rw [e1] at h; exact h.elim
  | some b =>
    rw [e1] at h
    obtain ⟨ss, ρ2⟩ := b
    obtain ⟨F2, A2, s2, n2, r2⟩ := frzP_ok (O := fun p => H p ≠ none) s.fr A1 (fun p h => h) (fun p h => h) R1 e1
    have h := wpo_bind.mp h
    dsimp only at h
    cases e2 : parS P is ss ρ2 with
    | none => rw [e2] at h; exact h.elim
    | some ρ' =>
      rw [e2] at h
      have s' := s.aft A2
      obtain ⟨q1, q2⟩ := par_ok hP s' (fun p z => by
        obtain ⟨u, hu⟩ := s.fr.own_some (A2.ow p z)
        show H p ≠ none
        rw [hu]; simp) (r2.back fun p hp => by
          cases z : e.H p with
          | none => rfl
          | some u =>
            obtain ⟨u', hu'⟩ := s.tr.there p u z
            rw [hp] at hu'; cases hu') e2
      exact hq vs H1 ρ' F2 q2 q1 h
theorem simPar {ta : TA} {ma : AM} {i j : Nat} (ha : SimA k ta ma) : SimS k P Wx (tPar i j ta) (exPar P [i, j] ma) := by
  intro e ρ σ F H D hP s h
  refine par_all ha hP s h fun vs H1 ρ' F' hl s' q => ?_
  match vs, hl with
  | [v, w], _ => exact ⟨v, w, rfl, q _ F' H1 s'⟩
theorem simPar3 {ta : TA} {ma : AM} {i j l : Nat} (ha : SimA k ta ma) : SimS k P Wx (tPar3 i j l ta) (exPar P [i, j, l] ma) := by
  intro e ρ σ F H D hP s h
  refine par_all ha hP s h fun vs H1 ρ' F' hl s' q => ?_
  match vs, hl with
  | [u, v, w], _ => exact ⟨u, v, w, rfl, q _ F' H1 s'⟩
def gNames : List Nat → TGs
  | [] => gNil
  | i :: is => gCons (gName i) (gNames is)
theorem gNames_ok : ∀ {is : List Nat} {vs : List V} {σ : L2.St} {H : Hp} {Q : L2.St → Hp → Prop}, is.length = vs.length → Q (setS is vs σ) H → gNames is vs σ H Q
  | [], [], _, _, _, _, q => ⟨rfl, q⟩
  | i :: is, v :: vs, _, _, _, h, q => ⟨v, vs, rfl, gNames_ok (by simpa using h) q⟩
theorem simParT {ta : TA} {ma : AM} {is : List Nat} {n : Nat} (hn : is.length = n) (hz : n ≤ sizeLine) (ha : SimA k ta ma) : SimS k P Wx (tAsg (tTup ta) (gTup k.K n (gNames is))) (exPar P is ma) := by
  intro e ρ σ F H D hP s h
  refine par_all ha hP s h fun vs H1 ρ' F' hl s' q => ⟨by omega, fun p hp => ?_⟩
  refine ⟨p, vs, rfl, .inl (.inl upd_same), by omega, gNames_ok hl (q _ F' _ (s'.temp ?_ (s'.fr.sub.none_of hp) (fun z => ?_) (ntc_none hp)))⟩
  · cases z : e.H p with
    | none => rfl
    | some u =>
      obtain ⟨u', hu'⟩ := s'.tr.there p u z
      rw [hp] at hu'; cases hu'
  · obtain ⟨u, hu⟩ := s'.fr.own_some z
    rw [hp] at hu; cases hu
end
/-! list(range(..)), tuple(range(..)) -/
def rgOkB (a b : Int) : Bool := big62 a && big62 b && Nat.ble (b - a).toNat 16777216
theorem rgOkB_ok {a b : Int} (h : rgOkB a b = true) : RgOk a b := by
  simp only [rgOkB, Bool.and_eq_true] at h
  have h1 := big62_ok h.1.1
  have h2 := big62_ok h.1.2
  exact ⟨h1.1, h1.2, h2.1, h2.2, Nat.le_of_ble_eq_true h.2⟩
def gLRg1 : D → Option SV
  | .int n => if rgOkB 0 n = true then some (.own (.lst (rngD 0 n.toNat))) else none
  | _ => none
theorem rep_rg {k : Kx} {F : Hp} {a b : Int} : RepL k F (rgV a b) (rngD a (b - a).toNat) := by
  unfold rgV rngD
  generalize (List.range (b - a).toNat) = l
  induction l with
  | nil => exact .nil
  | cons x l ih => exact .cons (.int _) ih
theorem simLRg1 {k : Kx} {te : TE} {me : EM} (he : SimE k te me) : SimE k (tLstRg (tRg1 te)) (evUn gLRg1 me) := by
  intro F ρ σ H Q f h
  unfold evUn at h
  refine he F ρ σ H _ f ((wpo_bind.mp h).mono fun a _ h => ?_)
  intro v F1 H1 A1 R1
  have h := wpo_bind.mp h
  cases e1 : rdD a.2 a.1 with
  | none => rw [e1] at h; exact h.elim
  | some d =>
    rw [e1] at h
    have rd := R1.rd A1.fr e1
    replace h : wpo ((gLRg1 d).bind _) _ := h
    replace h := wpo_bind.mp h
    unfold gLRg1 at h
    split at h
    · rename_i n
      split at h
      · rename_i hb
        rw [rd.int]
        refine ⟨n, rfl, rgOkB_ok hb, fun p hp => ?_⟩
        exact h (.ref p) F1 _ (A1.newOw hp) ⟨p, _, rfl, A1.none_of hp, upd_same, A1.fr.sub.none_of hp, _, rfl, by simpa using rep_rg (a := 0) (b := n)⟩
      · exact h.elim
    · exact h.elim
end Pv

/-! Pvn: nodes: a rule of the layer and its simulation, together. -/
namespace Pv
open PySem PySem.Spec PySem.SeqAt L2
abbrev kx (X : Cx) (CT : CTab) : Kx := ⟨X.K, CT⟩
def NE (X : Cx) (CT : CTab) (e : Expr) (m : EM) : Prop := SE (kx X CT) X e m
def NT (X : Cx) (CT : CTab) (e : Expr) (m : TM) : Prop := ST (kx X CT) X e m
def NTs (X : Cx) (CT : CTab) (es : List Expr) (m : TM) : Prop := ∃ tt, PTs X es tt ∧ SimT (kx X CT) tt m
def NA (X : Cx) (CT : CTab) (es : List Expr) (m : AM) : Prop := SA (kx X CT) X es m
def NI (X : Cx) (CT : CTab) (tg it : Expr) (m : IM) : Prop := ∃ wi, PI X tg it wi ∧ SimI (kx X CT) wi m
def NG (X : Cx) (CT : CTab) (P ts : List Nat) (tg : Expr) (m : GM) : Prop := ∃ g, PG X tg g ∧ SimG (kx X CT) P ts g m
def NGs (X : Cx) (CT : CTab) (P ts : List Nat) (tgs : List Expr) (m : GsM) : Prop := ∃ g, PGs X tgs g ∧ SimGs (kx X CT) P ts g m
def NO (X : Cx) (CT : CTab) (e : Option Expr) (m : OM) : Prop := ∃ t, PO X e t ∧ SimO (kx X CT) t m
def NS (X : Cx) (CT : CTab) (P : List Nat) (Wx : Option WX) (st : Stmt) (m : SM) : Prop := SS (kx X CT) P Wx X st m
def NSs (X : Cx) (CT : CTab) (P : List Nat) (Wx : Option WX) (sts : List Stmt) (m : SM) : Prop := SSs (kx X CT) P Wx X sts m

/-! ### the reading that a pure function itself is -/
def cE (k : Kx) (m : EM) : TE := fun σ H Q => ∃ F ρ, FR k F ρ σ H ∧ wpo (m ρ) (fun x => ∀ v F' H', Aft k ρ σ F H x.2 F' H' → RR k H F' x.2 σ H' x.1 v → Q v H')
theorem cE_sim {k : Kx} {m : EM} : SimE k (cE k m) m := fun F ρ σ H Q f h => ⟨F, ρ, f, h⟩
theorem cE_of {k : Kx} {X : Cx} {e : Expr} {m : EM} (h : SE k X e m) : PE X e (cE k m) := by
  obtain ⟨te, p, s⟩ := h
  exact ⟨fun pins sh σ H Q I ⟨F, ρ, f, q⟩ => p.run pins sh σ H Q I (s F ρ σ H Q f q)⟩
def cT (k : Kx) (m : TM) : TT := fun σ H Q => ∃ F ρ, FR k F ρ σ H ∧ wpo (m ρ) (fun x => ∀ F' H', Aft k ρ σ F H x.2 F' H' → Q x.1 H')
theorem cT_sim {k : Kx} {m : TM} : SimT k (cT k m) m := fun F ρ σ H Q f h => ⟨F, ρ, f, h⟩
theorem cT_of {k : Kx} {X : Cx} {es : List Expr} {m : TM} (h : ∃ tt, PTs X es tt ∧ SimT k tt m) : PTs X es (cT k m) := by
  obtain ⟨te, p, s⟩ := h
  exact ⟨fun pins sh σ H Q I ⟨F, ρ, f, q⟩ => p.run pins sh σ H Q I (s F ρ σ H Q f q)⟩
def cG (k : Kx) (P ts : List Nat) (m : GM) : TG := fun v σ H Q => ∃ e ρ F d, (∀ q ∈ e.pr, q.1 ∈ P) ∧ SInv k e ρ σ F H ∧ Rep k F v d ∧ wpo (m d ρ) (fun ρ' => ∀ σ', SInv k e ρ' σ' F H → Agr ts σ σ' → (∀ p, Own ρ' σ' p → Own ρ σ p) → Sls ρ ρ' → Q σ' H)
theorem cG_sim {k : Kx} {P ts : List Nat} {m : GM} : SimG k P ts (cG k P ts m) m := fun e ρ σ F H v d Q hP s r h => ⟨e, ρ, F, d, hP, s, r, h⟩
theorem cG_of {k : Kx} {X : Cx} {P ts : List Nat} {tg : Expr} {m : GM} (h : ∃ g, PG X tg g ∧ SimG k P ts g m) : PG X tg (cG k P ts m) := by
  obtain ⟨te, p, s⟩ := h
  exact ⟨fun pins sh σ H v u Q I r ⟨e, ρ, F, d, hP, si, rp, q⟩ => p.run pins sh σ H v u Q I r (s e ρ σ F H v d Q hP si rp q)⟩

section
variable {X : Cx} {CT : CTab} {pos p : Pos} {a b c e : Expr} {ma mb mc me : EM} {es : List Expr} {mr : AM} {mt mu : TM}
theorem _root_.L2.Room.u {n : Nat} {A : Around} (r : Room n A) : A.units + 200 < cLine := by have := r.un; omega
/-! names, constants -/
theorem nVar (i : Nat) {x : Str} (hN : X.N[i]? = some x := by rfl) (hv : Vis X.env.scope x := by first | exact Or.inl rfl | exact Or.inr (Or.inl rfl) | exact Or.inr (Or.inr rfl)) (hd : (x == ("__debug__" : Str)) = false := by decide)
    (hcd : (x == ("__classdict__" : Str)) = false := by decide) : NE X CT (.Name x pos) (evVar i) := ⟨_, pe_var hN hv hd hcd, simVar⟩
theorem nInt {i j} : NE X CT (.Constant (.int i) j pos) (evC (.int i)) := ⟨_, pe_int, simC fun _ => .int _⟩
theorem nBl {i j} : NE X CT (.Constant (.bool i) j pos) (evC (.bool i)) := ⟨_, pe_bl, simC fun _ => .bl _⟩
theorem nNon {j} : NE X CT (.Constant .none j pos) (evC .none) := ⟨_, pe_non, simC fun _ => .non⟩
theorem nGInt {x : Str} {i : Int} (hm : ∃ t, X.mg x = some (.int i t)) (hg : Gl X x := by rfl) (hd : (x == ("__debug__" : Str)) = false := by decide) : NE X CT (.Name x pos) (evC (.int i)) := by
  obtain ⟨t, hm⟩ := hm
  exact ⟨_, pe_glob (v := .int i) hg hm ⟨t, rfl⟩ hd, simC fun _ => .int _⟩
/-! operators -/
theorem nAdd : NE X CT a ma → NE X CT b mb → NE X CT (.BinOp a .Add b pos) (evBin gAdd ma mb) := fun ⟨_, pa, sa⟩ ⟨_, pb, sb⟩ => ⟨_, pe_op op_addA pa pb, simBin (k := kx X CT) simAdd sa sb⟩
theorem nSub : NE X CT a ma → NE X CT b mb → NE X CT (.BinOp a .Sub b pos) (evBin gSub ma mb) := fun ⟨_, pa, sa⟩ ⟨_, pb, sb⟩ => ⟨_, pe_op op_sub pa pb, simBin simSub sa sb⟩
theorem nFdiv : NE X CT a ma → NE X CT b mb → NE X CT (.BinOp a .FloorDiv b pos) (evBin gFdiv ma mb) := fun ⟨_, pa, sa⟩ ⟨_, pb, sb⟩ => ⟨_, pe_op op_fdiv pa pb, simBin simFdiv sa sb⟩
theorem nMod : NE X CT a ma → NE X CT b mb → NE X CT (.BinOp a .Mod b pos) (evBin gMod ma mb) := fun ⟨_, pa, sa⟩ ⟨_, pb, sb⟩ => ⟨_, pe_op op_mod pa pb, simBin simMod sa sb⟩
theorem nPow : NE X CT a ma → NE X CT b mb → NE X CT (.BinOp a .Pow b pos) (evBin gPow ma mb) := fun ⟨_, pa, sa⟩ ⟨_, pb, sb⟩ => ⟨_, pe_op op_pow pa pb, simBin simPow sa sb⟩
theorem nNeg : NE X CT a ma → NE X CT (.UnaryOp .USub a pos) (evUn gNeg ma) := fun ⟨_, pa, sa⟩ => ⟨_, pe_un un_neg pa, simUn simNeg sa⟩
structure Cmp (X : Cx) (CT : CTab) (op : CmpOp) (g : D → D → Option SV) : Prop where
  ex : ∃ r, OpR X (compareOp op) r ∧ OpSim (kx X CT) r g
variable {op op' : CmpOp} {g g' : D → D → Option SV} {n : Nat}
theorem kEq (hr : Room n X.A) : Cmp X CT .Eq gEqD := ⟨_, op_eqP hr.u, simDat fun _ _ h => ⟨(pEq_ok h).1, (pEq_ok h).2.1⟩⟩
theorem kNe (hr : Room n X.A) : Cmp X CT .NotEq gNeD := ⟨_, op_neP hr.u, simDat fun _ _ h => ⟨(pEq_ok h).1, (pEq_ok h).2.1⟩⟩
theorem kLt (hr : Room n X.A) : Cmp X CT .Lt gLtD := ⟨_, op_ltP hr.u, simDat fun _ _ h => ⟨(pLt_ok h).1, (pLt_ok h).2.1⟩⟩
theorem kGt (hr : Room n X.A) : Cmp X CT .Gt gGtD := ⟨_, op_gtP hr.u, simDat fun _ _ h => ⟨(pLt_ok h).1, (pLt_ok h).2.1⟩⟩
theorem kLe (hr : Room n X.A) : Cmp X CT .LtE gLeD := ⟨_, op_leP hr.u, simDat fun _ _ h => ⟨(pLt_ok h).1, (pLt_ok h).2.1⟩⟩
theorem kGe (hr : Room n X.A) : Cmp X CT .GtE gGeD := ⟨_, op_geP hr.u, simDat fun _ _ h => ⟨(pLt_ok h).1, (pLt_ok h).2.1⟩⟩
theorem kIn (hr : Room n X.A) : Cmp X CT .In gInD := ⟨_, op_inP hr.u, simDat fun _ _ h => pIn_plain h⟩
theorem kNotIn (hr : Room n X.A) : Cmp X CT .NotIn gNotInD := ⟨_, op_notInP hr.u, simDat fun _ _ h => pIn_plain h⟩
theorem nCmp (o : Cmp X CT op g) (ha : NE X CT a ma) (hb : NE X CT b mb) (hm : behindInMarks op b = false := by first | exact nomark _ | with_unfolding_all rfl) : NE X CT (.Compare a [op] [b] pos) (evBin g ma mb) := by
  obtain ⟨r, o1, o2⟩ := o.ex
  obtain ⟨_, pa, sa⟩ := ha
  obtain ⟨_, pb, sb⟩ := hb
  exact ⟨_, pe_cmpR o1 pa pb hm, simBin o2 sa sb⟩
theorem nChain (o : Cmp X CT op g) (o' : Cmp X CT op' g') (ha : NE X CT a ma) (hb : NE X CT b mb) (hc : NE X CT c mc) (hm : lastMarks [op, op'] [b, c] = false := by with_unfolding_all rfl) : NE X CT (.Compare a [op, op'] [b, c] pos) (evChain g g' ma mb mc) := by
  obtain ⟨r, o1, o2⟩ := o.ex
  obtain ⟨r', o3, o4⟩ := o'.ex
  obtain ⟨_, pa, sa⟩ := ha
  obtain ⟨_, pb, sb⟩ := hb
  obtain ⟨_, pc, sc⟩ := hc
  exact ⟨_, pe_chain o1 o3 pa pb pc hm, simChain o2 o4 sa sb sc⟩
theorem nOne {op} : NE X CT a ma → NE X CT (.BoolOp op [a] pos) ma := fun ⟨_, pa, sa⟩ => ⟨_, pe_one pa, sa⟩
theorem nAnd {rest : List Expr} : NE X CT a ma → NE X CT (.BoolOp .And (b :: rest) pos) mb → NE X CT (.BoolOp .And (a :: b :: rest) pos) (evAnd ma mb) := fun ⟨_, pa, sa⟩ ⟨_, pb, sb⟩ => ⟨_, pe_and pa pb, simAnd sa sb⟩
theorem nOr {rest : List Expr} : NE X CT a ma → NE X CT (.BoolOp .Or (b :: rest) pos) mb → NE X CT (.BoolOp .Or (a :: b :: rest) pos) (evOr ma mb) := fun ⟨_, pa, sa⟩ ⟨_, pb, sb⟩ => ⟨_, pe_or pa pb, simOr sa sb⟩
theorem nNot : NE X CT a ma → NE X CT (.UnaryOp .Not a pos) (evNot ma) := fun ⟨_, pa, sa⟩ => ⟨_, pe_not pa, simNot sa⟩
theorem nIf : NT X CT c mt → NE X CT a ma → NE X CT b mb → NE X CT (.IfExp c a b pos) (evIf mt ma mb) := fun ⟨_, pc, sc⟩ ⟨_, pa, sa⟩ ⟨_, pb, sb⟩ => ⟨_, pe_ifExp pc pa pb, simIf sc sa sb⟩
/-! tests -/
theorem qVal (h : NE X CT a ma) (he : ∀ whole, isTrue a X.env whole = (do let v ← whole; standAt a.pos; holding [v] (truthy v)) := by intro _; rfl) : NT X CT a (tvB ma) := by
  obtain ⟨_, pa, sa⟩ := h
  exact ⟨_, pt_val pa he, simTvB sa⟩
theorem qCmp (o : Cmp X CT op g) (ha : NE X CT a ma) (hb : NE X CT b mb) (hm : behindInMarks op b = false := by first | exact nomark _ | with_unfolding_all rfl) : NT X CT (.Compare a [op] [b] pos) (tvB (evBin g ma mb)) := by
  obtain ⟨r, o1, o2⟩ := o.ex
  obtain ⟨_, pa, sa⟩ := ha
  obtain ⟨_, pb, sb⟩ := hb
  exact ⟨_, pt_cmpR o1 pa pb hm, simTvB (simBin o2 sa sb)⟩
theorem qChain (o : Cmp X CT op g) (o' : Cmp X CT op' g') (ha : NE X CT a ma) (hb : NE X CT b mb) (hc : NE X CT c mc) (hm : lastMarks [op, op'] [b, c] = false := by with_unfolding_all rfl) : NT X CT (.Compare a [op, op'] [b, c] pos) (tvB (evChain g g' ma mb mc)) := by
  obtain ⟨r, o1, o2⟩ := o.ex
  obtain ⟨r', o3, o4⟩ := o'.ex
  obtain ⟨_, pa, sa⟩ := ha
  obtain ⟨_, pb, sb⟩ := hb
  obtain ⟨_, pc, sc⟩ := hc
  exact ⟨_, pt_chain o1 o3 pa pb pc hm, simTvB (simChain o2 o4 sa sb sc)⟩
theorem qNot : NT X CT a mt → NT X CT (.UnaryOp .Not a pos) (tvNot mt) := fun ⟨_, pa, sa⟩ => ⟨_, pt_not pa, simTNot sa⟩
def NW (X : Cx) (CT : CTab) (e : Expr) (m : TM) : Prop := ∃ tt, PW X e tt ∧ SimT (kx X CT) tt m
theorem wAnd1 : NT X CT a mt → NW X CT (.BoolOp .And [a] pos) mt := fun ⟨_, pa, sa⟩ => ⟨_, pw_and1 pa, sa⟩
theorem wOr1 : NT X CT a mt → NW X CT (.BoolOp .Or [a] pos) mt := fun ⟨_, pa, sa⟩ => ⟨_, pw_or1 pa, sa⟩
theorem wAnd {rest : List Expr} : NT X CT a mt → NW X CT (.BoolOp .And (b :: rest) pos) mu → NW X CT (.BoolOp .And (a :: b :: rest) pos) (tvAnd mt mu) := fun ⟨_, pa, sa⟩ ⟨_, pb, sb⟩ => ⟨_, pw_and pa pb, simTAnd sa sb⟩
theorem wOr {rest : List Expr} : NT X CT a mt → NW X CT (.BoolOp .Or (b :: rest) pos) mu → NW X CT (.BoolOp .Or (a :: b :: rest) pos) (tvOr mt mu) := fun ⟨_, pa, sa⟩ ⟨_, pb, sb⟩ => ⟨_, pw_or pa pb, simTOr sa sb⟩
theorem qW : NW X CT a mt → NT X CT a mt := fun ⟨_, pa, sa⟩ => ⟨_, pa.pt, sa⟩
def tvYes : TM := fun ρ => some (true, ρ)
theorem tsNil : NTs X CT [] tvYes := ⟨_, pts_nil, fun F ρ σ H Q f h => h F H (Aft.refl f)⟩
theorem tsOne : NT X CT a mt → NTs X CT [a] mt := fun ⟨_, pa, sa⟩ => ⟨_, pts_one pa, sa⟩
/-! arguments, displays -/
theorem aNil : NA X CT [] evNil := ⟨_, pa_nil, simNil⟩
theorem aCons (ha : NE X CT e me) (hr : NA X CT es mr) (hs : starEach (e :: es) X.env = (false, eval e X.env) :: starEach es X.env := by rfl) : NA X CT (e :: es) (evCons me mr) := by
  obtain ⟨_, pa, sa⟩ := ha
  obtain ⟨_, pr, sr⟩ := hr
  exact ⟨_, pa_cons pa pr hs, simCons sa sr⟩
theorem nTup {x1} : NA X CT es mr → NE X CT (.Tuple es x1 pos) (evTup mr) := fun ⟨_, pa, sa⟩ => ⟨_, pe_tup pa, simTup sa⟩
theorem nLst : NA X CT es mr → NE X CT (.List es pos) (evLst mr) := fun ⟨_, pa, sa⟩ => ⟨_, pe_lst pa, simLst sa⟩
/-! subscripts -/
theorem nIx (ha : NE X CT a ma) (hb : NE X CT b mb) (hs : PlainIx b := by intro _ _; rfl) : NE X CT (.Subscript a b pos) (evBin gIx ma mb) := by
  obtain ⟨_, pa, sa⟩ := ha
  obtain ⟨_, pb, sb⟩ := hb
  exact ⟨_, pe_ix ix_A pa pb hs, simBin (k := kx X CT) simIx sa sb⟩
theorem oNone : NO X CT none opNone := ⟨_, po_none, simPNone⟩
theorem oSome : NE X CT a ma → NO X CT (some a) (opSome ma) := fun ⟨_, pa, sa⟩ => ⟨_, po_some pa, simPSome sa⟩
theorem nSl {lo hi : Option Expr} {ml mh : OM} {p2 : Pos} : NE X CT a ma → NO X CT lo ml → NO X CT hi mh → NE X CT (.Subscript a (.Slice lo hi none p2) pos) (evSl ma ml mh) :=
  fun ⟨_, pa, sa⟩ ⟨_, pl, sl⟩ ⟨_, ph, sh⟩ => ⟨_, pe_slice sl_B pa pl ph, simSl (k := kx X CT) sa sl sh⟩
/-! built-in functions -/
structure Blt (X : Cx) (CT : CTab) (v : Value) (g : List D → Option SV) : Prop where
  ex : ∃ r, CallR X v r ∧ CallSim (kx X CT) r g
variable {gc : List D → Option SV} {x : Str} {id T : String}
theorem uLen : Blt X CT (.builtin "len") gLen := ⟨_, cr_lenS, simLen⟩
theorem uInt : Blt X CT (.type "int") gInt := ⟨_, call_int1, simInt⟩
theorem uTuple : Blt X CT (.type "tuple") gTuple := ⟨_, call_tuple_of, simTuple (k := kx X CT)⟩
theorem uAll (hc : X.calm = true) : Blt X CT (.builtin "all") gAll := ⟨_, cr_all hc, simAll (k := kx X CT)⟩
theorem uMax (hc : X.calm = true) (hr : Room n X.A) : Blt X CT (.builtin "max") (gMM PySem.W.maxD) := ⟨_, cr_maxD hc hr.u, simMM (k := kx X CT)⟩
theorem uMin (hc : X.calm = true) (hr : Room n X.A) : Blt X CT (.builtin "min") (gMM PySem.W.minD) := ⟨_, cr_minD hc hr.u, simMM (k := kx X CT)⟩
theorem uSorted (hr : Room n X.A) : Blt X CT (.builtin "sorted") gSorted := ⟨_, cr_srt hr.u, simSrt (k := kx X CT)⟩
theorem nB (u : Blt X CT (.builtin id) gc) (hv : bootBuiltins x = some (.builtin id)) (hm : X.mg x = none) (ha : NA X CT (e :: es) mr) (hg : Gl X x := by rfl) (hn : x ≠ "__name__" := by decide) (hdb : (x == ("__debug__" : Str)) = false := by decide)
    (he : starEach (e :: es) X.env = (false, eval e X.env) :: starEach es X.env := by rfl) (hpl : (backTo pos (starEach es X.env)).any (·.1) = false := by rfl) : NE X CT (.Call (.Name x p) (e :: es) [] pos) (evCall gc mr) := by
  obtain ⟨r, u1, u2⟩ := u.ex
  obtain ⟨_, pa, sa⟩ := ha
  exact ⟨_, pe_callB u1 hg hm hv pa hn hdb he hpl, simCall u2 sa⟩
theorem nTy (u : Blt X CT (.type T) gc) (hv : bootBuiltins x = some (.type T)) (hm : X.mg x = none) (ha : NA X CT (e :: es) mr) (hg : Gl X x := by rfl) (hn : x ≠ "__name__" := by decide) (hdb : (x == ("__debug__" : Str)) = false := by decide)
    (he : starEach (e :: es) X.env = (false, eval e X.env) :: starEach es X.env := by rfl) (hpl : (backTo pos (starEach es X.env)).any (·.1) = false := by rfl) : NE X CT (.Call (.Name x p) (e :: es) [] pos) (evCall gc mr) := by
  obtain ⟨r, u1, u2⟩ := u.ex
  obtain ⟨_, pa, sa⟩ := ha
  exact ⟨_, pe_callTy u1 hg hm hv pa hn hdb he hpl, simCall u2 sa⟩
/-! list(range(..)) -/
theorem nLRg1 {p2 pos2 : Pos} (hc : X.calm = true) (h1 : X.mg "list" = none) (h2 : X.mg "range" = none) (ha : NE X CT a ma) (hg : Gl X "list" := by rfl) (hg2 : Gl X "range" := by rfl) (na : starEach [a] X.env = (false, eval a X.env) :: starEach [] X.env := by rfl)
    (nb : starEach [.Call (.Name "range" p2) [a] [] pos2] X.env = (false, eval (.Call (.Name "range" p2) [a] [] pos2) X.env) :: starEach [] X.env := by rfl) : NE X CT (.Call (.Name "list" p) [.Call (.Name "range" p2) [a] [] pos2] [] pos) (evUn gLRg1 ma) := by
  obtain ⟨_, pa, sa⟩ := ha
  exact ⟨_, pe_listRg hc hg h1 (prg_1 hg2 h2 pa na) nb, simLRg1 sa⟩
/-! isinstance -/
theorem nIsi {t : TR} {v : V} {u : Value} (ok : IsiOk (kx X CT)) (ht : TRV (kx X CT) t v u) (hb : PE X b (tC v)) (hm : X.mg "isinstance" = none) (ha : NE X CT a ma) (hg : Gl X "isinstance" := by rfl)
    (he : starEach [a, b] X.env = (false, eval a X.env) :: starEach [b] X.env := by rfl) (he2 : starEach [b] X.env = (false, eval b X.env) :: starEach [] X.env := by rfl) (hpl : (backTo pos (starEach [b] X.env)).any (·.1) = false := by rfl) : NE X CT (.Call (.Name "isinstance" p) [a, b] [] pos) (evIsi [t] ma) := by
  obtain ⟨_, pa, sa⟩ := ha
  exact ⟨_, pe_callB call_isi hg hm PyProof.Rows.boot_isinstance (pa_cons pa (pa_cons hb pa_nil he2) he) (he := he) (hpl := hpl), simIsi (k := kx X CT) ok ht sa⟩
theorem pTy {x : Str} {n : String} (hv : bootBuiltins x = some (.type n)) (hm : X.mg x = none) (hg : Gl X x := by rfl) (hn : x ≠ "__name__" := by decide) (hd : (x == ("__debug__" : Str)) = false := by decide) : PE X (.Name x p) (tC (.ty n)) := pe_bltn hg hm hv rfl hn hd
theorem pCl {x : Str} {C : Addr} (hm : X.mg x = some (.ref C)) (hg : Gl X x := by rfl) (hd : (x == ("__debug__" : Str)) = false := by decide) : PE X (.Name x p) (tC (.ref C)) := pe_glob hg hm rfl hd
/-! fields -/
theorem nFld {f : Str} {fn : FNs} (ok : FldOk (kx X CT) fn) (ha : NE X CT a ma) (hb : attributeBase a f X.env (eval a X.env) = eval a X.env := by rfl) : NE X CT (.Attribute a f pos) (evUn (fldD fn f) ma) := by
  obtain ⟨_, pa, sa⟩ := ha
  exact ⟨_, pe_fld pa hb, simFld (k := kx X CT) ok sa⟩
/-! calls -/
def FunK (P : Program) (w : World) (K : PySem.W.Frag) (mg : Str → Option Value) (base : Heap) (CT : CTab) (n : Nat) (f : Addr) (io : Bool) (np : Nat) (cm : CM) : Prop := ∃ fd ps, FnOk P w K mg base CX0 n f fd ps (spF ⟨K, CT⟩ io np cm) ∧ Binds K fd ps []
abbrev Fun (X : Cx) (CT : CTab) (n : Nat) (f : Addr) (io : Bool) (np : Nat) (cm : CM) : Prop := FunK X.prog X.w X.K X.mg X.base CT n f io np cm
variable {f C : Addr} {io : Bool} {np j : Nat} {cm : CM}
theorem nCall (F : Fun X CT j f io np cm) (hr : Room j X.A) (hm : X.mg x = some (.ref f)) (hk : PySem.W.keepIn X.K (.ref f) = true) (ha : NA X CT (e :: es) mr) (hg : Gl X x := by rfl) (hdb : (x == ("__debug__" : Str)) = false := by decide)
    (he : starEach (e :: es) X.env = (false, eval e X.env) :: starEach es X.env := by rfl) (hpl : (backTo pos (starEach es X.env)).any (·.1) = false := by rfl) : NE X CT (.Call (.Name x p) (e :: es) [] pos) (evCallL np cm mr) := by
  obtain ⟨fd, ps, F, hb⟩ := F
  obtain ⟨_, pa, sa⟩ := ha
  exact ⟨_, pe_call F hr hg hm hk hb .nil (pass0) pa hdb he hpl, simCallL sa⟩
theorem nCallI (F : Fun X CT j f true np cm) (hr : Room j X.A) (hm : X.mg x = some (.ref f)) (hk : PySem.W.keepIn X.K (.ref f) = true) (ha : NA X CT (e :: es) mr) (hg : Gl X x := by rfl) (hdb : (x == ("__debug__" : Str)) = false := by decide)
    (he : starEach (e :: es) X.env = (false, eval e X.env) :: starEach es X.env := by rfl) (hpl : (backTo pos (starEach es X.env)).any (·.1) = false := by rfl) : NE X CT (.Call (.Name x p) (e :: es) [] pos) (evCallI np cm mr) := by
  obtain ⟨fd, ps, F, hb⟩ := F
  obtain ⟨_, pa, sa⟩ := ha
  exact ⟨_, pe_call F hr hg hm hk hb .nil (pass0) pa hdb he hpl, simCallI sa⟩
theorem nMake {ci : Int} {ns : List Str} (hC : CT ci = some (C, ns)) (M : Mk X.K C f) (F : Fun X CT j f true np cm) (hr : Room (j + 1) X.A) (hm : X.mg x = some (.ref C)) (ha : NA X CT (e :: es) mr) (hg : Gl X x := by rfl) (hdb : (x == ("__debug__" : Str)) = false := by decide)
    (he : starEach (e :: es) X.env = (false, eval e X.env) :: starEach es X.env := by rfl) (hpl : (backTo pos (starEach es X.env)).any (·.1) = false := by rfl) : NE X CT (.Call (.Name x p) (e :: es) [] pos) (evMake ci np cm mr) := by
  obtain ⟨fd, ps, F, hb⟩ := F
  obtain ⟨_, pa, sa⟩ := ha
  exact ⟨_, pe_make M F hr hg hm hb .nil (pass0) pa hdb he hpl, simMake (k := kx X CT) hC sa⟩
theorem nLenA {lm : Int → Option (Nat × CM)} (ok : LenOk (kx X CT) X j lm) (hr : Room (j + 1) X.A) (hm : X.mg "len" = none) (ha : NE X CT a ma) (hg : Gl X "len" := by rfl) (he : starEach [a] X.env = (false, eval a X.env) :: starEach [] X.env := by rfl) : NE X CT (.Call (.Name "len" p) [a] [] pos) (evLen lm ma) := by
  obtain ⟨_, pa, sa⟩ := ha
  exact ⟨_, pe_callB (cr_lenS.or (cr_lenOwn hr)) hg hm boot_len (pa_cons pa pa_nil he) (he := he), simLenA (k := kx X CT) ok rfl sa⟩
end
end Pv

/-! Pvo: nodes: walks, targets, comprehensions, methods, statements, defs. -/
namespace Pv
open PySem PySem.Spec PySem.SeqAt L2
section
variable {X : Cx} {CT : CTab} {pos p : Pos} {a b c e tg it : Expr} {ma mb mc me : EM} {es tgs : List Expr} {mr : AM} {mt mu : TM} {P ts us : List Nat} {Wx : Option WX} {mi : IM} {mg : GM} {mgs : GsM} {mb' : SM}
/-! what is walked -/
theorem iSeqN : NE X CT it me → NI X CT tg it (ivSeq me) := fun ⟨_, pa, sa⟩ => ⟨_, pi_seq pa, simSeqI (k := kx X CT) sa⟩
theorem iRng1N (hm : X.mg "range" = none) (ha : NA X CT [a] mr) (hg : Gl X "range" := by rfl) (hs : starEach [a] X.env = [(false, eval a X.env)] := by rfl) : NI X CT tg (.Call (.Name "range" p) [a] [] pos) (ivArgs rng1 mr) := by
  obtain ⟨_, pa, sa⟩ := ha
  exact ⟨_, pi_range1 hg hm pa hs, simRng1 sa⟩
theorem iRng2N (hm : X.mg "range" = none) (ha : NA X CT [a, b] mr) (hg : Gl X "range" := by rfl) (hs : starEach [a, b] X.env = [(false, eval a X.env), (false, eval b X.env)] := by rfl) (hs2 : starEach [b] X.env = [(false, eval b X.env)] := by rfl) : NI X CT tg (.Call (.Name "range" p) [a, b] [] pos) (ivArgs rng2 mr) := by
  obtain ⟨_, pa, sa⟩ := ha
  exact ⟨_, pi_range2 hg hm pa hs hs2, simRng2 sa⟩
theorem iEnumN {tpos : Pos} {elts : List Expr} {kk : Nat} (hm : X.mg "enumerate" = none) (ha : NE X CT a ma) (hg : Gl X "enumerate" := by rfl) (hs : starEach [a] X.env = [(false, eval a X.env)] := by rfl) (hs2 : starEach [a] X.env = (false, eval a X.env) :: starEach [] X.env := by rfl) :
    NI X CT (.Tuple elts kk tpos) (.Call (.Name "enumerate" p) [a] [] pos) (ivEnum ma) := by
  obtain ⟨_, pa, sa⟩ := ha
  exact ⟨_, pi_enumS hg hm (pa_cons pa pa_nil hs2) hs, simEnum (k := kx X CT) sa⟩
/-! targets -/
theorem gNameN (i : Nat) {x : Str} (hN : X.N.Nodup) (hi : X.N[i]? = some x := by rfl) (hx : Loc X.env.scope x := by first | exact Or.inl rfl | exact Or.inr rfl) (hf : X.fn x = true ∨ X.env.scope.names.lookup x = some .local := by first | exact .inl rfl | exact .inr rfl) : NG X CT P [i] (.Name x pos) (tgName P i) :=
  ⟨_, pg_name hN hi hx hf, simGName⟩
theorem gsNilN : NGs X CT P [] [] tgNil := ⟨_, pgs_nil, simGsNil⟩
theorem gsConsN (h1 : NG X CT P ts tg mg) (h2 : NGs X CT P us tgs mgs) (hs : (assignEach (tg :: tgs) X.env).map (·.2) = assign tg X.env :: (assignEach tgs X.env).map (·.2) := by rfl) : NGs X CT P (ts ++ us) (tg :: tgs) (tgCons mg mgs) := by
  obtain ⟨_, p1, s1⟩ := h1
  obtain ⟨_, p2, s2⟩ := h2
  exact ⟨_, pgs_cons p1 p2 hs, simGsCons s1 s2⟩
theorem gTupN {kk n : Nat} (hc : X.calm = true) (h : NGs X CT P ts tgs mgs) (hn : (assignEach tgs X.env).length = n := by rfl) (hst : (assignEach tgs X.env).findIdx? (·.1) = none := by rfl) : NG X CT P ts (.Tuple tgs kk pos) (tgTup n mgs) := by
  obtain ⟨_, p1, s1⟩ := h
  exact ⟨_, pg_tup hc p1 hn hst, simGTup (k := kx X CT) s1⟩
/-! comprehensions -/
abbrev Blk (X : Cx) (scope : Scope) (Φ : Cx → Prop) : Prop := ∀ (s : Shared) (H : Hp) (C : Addr) (cl : List (Str × Addr)) (fp : List Addr), Φ (X.blk s H scope (compEnvC scope cl C X.env) fp)
theorem nComp {scope : Scope} {ifs : List Expr} {vs : List Nat} (own : List (Str × Nat)) (hc : X.calm = true) (hN : X.N.Nodup) (ok : BlkOk X.N X.env.scope scope own) (hi : NI X CT tg it mi) (hg : Blk X scope fun Y => NG Y CT [] ts tg mg) (ht : Blk X scope fun Y => NTs Y CT ifs mt) (he : Blk X scope fun Y => NE Y CT e me)
    (hv : ∀ t ∈ ts, t ∈ own.map (·.2) := by decide) (hs : ∀ x, foldedSetIterable it X.env x = pure x := by intro _; rfl) (hvs : own.map (·.2) = vs := by rfl) : NE X CT (.ListComp e [⟨tg, it, ifs, 0⟩] scope pos) (evComp mi mg mt me vs) := by
  obtain ⟨_, p1, s1⟩ := hi
  subst hvs
  exact ⟨_, pe_lc hc hN p1 ok (fun s H C cl fp => cG_of (k := kx X CT) (hg s H C cl fp)) (fun s H C cl fp => cT_of (k := kx X CT) (ht s H C cl fp)) (fun s H C cl fp => cE_of (k := kx X CT) (he s H C cl fp)) hs, simComp s1 cG_sim cT_sim cE_sim hv⟩
/-! methods of lists -/
theorem nAppend (i : Nat) {x : Str} {apos : Pos} (ho : PE X (.Name x p) (tVar i)) (ha : NA X CT [e] mr) (hbase : attributeBase (.Name x p) "append" X.env (eval (.Name x p) X.env) = eval (.Name x p) X.env := by rfl)
    (hfew : ((backTo pos (starEach [e] X.env)).all (fun x => !x.1) && (backToKw pos (keywordEach [] X.env)).all (fun x => x.1.isSome) && decide ([e].length + ([] : List Keyword).length + (if ([] : List Keyword).isEmpty then 0 else 1) < 30)) = true := by rfl)
    (hline : (apos.endLine == pos.line) = true := by rfl) (hs : starEach [e] X.env = (false, eval e X.env) :: starEach [] X.env := by rfl) : NE X CT (.Call (.Attribute (.Name x p) "append" apos) [e] [] pos) (evMut fAppend i mr) := by
  obtain ⟨_, pa, sa⟩ := ha
  exact ⟨_, pe_bm PySem.F.plainAttrs_list PySem.F.slot_list_append PySem.F.type_list_append mt_append ho pa hbase hfew hline hs, simMut (k := kx X CT) simAppend sa⟩
/-! statements -/
theorem sBad {st : Stmt} : NS X CT P Wx st exBad := ⟨_, ps_never, simBad⟩
theorem sSet (i : Nat) {x : Str} {pos' : Pos} (hN : X.N.Nodup) (he : NE X CT e me) (hi : X.N[i]? = some x := by rfl) (hx : Loc X.env.scope x := by first | exact Or.inl rfl | exact Or.inr rfl) (hs : swapsWith e (some (.Name x pos')) pos.line X.env = pure false := by rfl)
    (hf : X.fn x = true ∨ X.env.scope.names.lookup x = some .local := by first | exact .inl rfl | exact .inr rfl) : NS X CT P Wx (.Assign [.Name x pos'] e pos) (exAsg P i me) := by
  obtain ⟨_, pa, sa⟩ := he
  exact ⟨_, ps_set hN hi hx pa hs hf, simAsg sa⟩
theorem sSetLc (i : Nat) {y : Str} {py spos : Pos} {scope : Scope} {ifs : List Expr} {vs : List Nat} (own : List (Str × Nat)) (hc : X.calm = true) (hN : X.N.Nodup) (ok : BlkOk X.N X.env.scope scope own) (hi : NI X CT tg it mi) (hg : Blk X scope fun Y => NG Y CT [] ts tg mg) (ht : Blk X scope fun Y => NTs Y CT ifs mt) (he : Blk X scope fun Y => NE Y CT e me)
    (hy : X.N[i]? = some y := by rfl) (hyl : X.env.scope.names.lookup y = some .local := by rfl) (hsw : swapsWith (.ListComp e [⟨tg, it, ifs, 0⟩] scope pos) (some (.Name y py)) spos.line X.env = pure true := by exact sw_true rfl rfl rfl (by decide +kernel))
    (hv : ∀ t ∈ ts, t ∈ own.map (·.2) := by decide) (hs : ∀ x, foldedSetIterable it X.env x = pure x := by intro _; rfl) (hvs : own.map (·.2) = vs := by rfl) : NS X CT P Wx (.Assign [.Name y py] (.ListComp e [⟨tg, it, ifs, 0⟩] scope pos) spos) (exAsg P i (evComp mi mg mt me vs)) := by
  obtain ⟨_, p1, s1⟩ := hi
  subst hvs
  exact ⟨_, ps_setLc hc hN hy hyl hsw p1 ok (fun s H C cl fp => cG_of (k := kx X CT) (hg s H C cl fp)) (fun s H C cl fp => cT_of (k := kx X CT) (ht s H C cl fp)) (fun s H C cl fp => cE_of (k := kx X CT) (he s H C cl fp)) hs, simAsg (simComp s1 cG_sim cT_sim cE_sim hv)⟩
theorem sPar2 (i j : Nat) {x y : Str} {px py pt : Pos} {kt k2 pt2} (hc : X.calm = true) (hN : X.N.Nodup) (ha : NA X CT [a, b] mr) (hij : i ≠ j := by decide) (hi : X.N[i]? = some x := by rfl) (hj : X.N[j]? = some y := by rfl)
    (hx : X.env.scope.names.lookup x = some .local := by rfl) (hy : X.env.scope.names.lookup y = some .local := by rfl) (hw : swappedStores [.Tuple [.Name x px, .Name y py] kt pt] (.Tuple [a, b] k2 pt2) X.env = pure (some [x, y]) := by rfl)
    (hs : swapsWithSole [.Tuple [.Name x px, .Name y py] kt pt] (.Tuple [a, b] k2 pt2) pos.line X.env = pure false := by rfl) : NS X CT P Wx (.Assign [.Tuple [.Name x px, .Name y py] kt pt] (.Tuple [a, b] k2 pt2) pos) (exPar P [i, j] mr) := by
  obtain ⟨_, pa, sa⟩ := ha
  exact ⟨_, ps_par hc hN hi hj hij hx hy pa hw hs, simPar sa⟩
theorem sPar3 (i j l : Nat) {x y z : Str} {px py pz pt : Pos} {kt k2 pt2} (hc : X.calm = true) (hN : X.N.Nodup) (ha : NA X CT [a, b, c] mr) (hij : i ≠ j := by decide) (hil : i ≠ l := by decide) (hjl : j ≠ l := by decide) (hi : X.N[i]? = some x := by rfl) (hj : X.N[j]? = some y := by rfl) (hl : X.N[l]? = some z := by rfl)
    (hx : X.env.scope.names.lookup x = some .local := by rfl) (hy : X.env.scope.names.lookup y = some .local := by rfl) (hz : X.env.scope.names.lookup z = some .local := by rfl) (hw : swappedStores [.Tuple [.Name x px, .Name y py, .Name z pz] kt pt] (.Tuple [a, b, c] k2 pt2) X.env = pure (some [x, y, z]) := by rfl)
    (hs : swapsWithSole [.Tuple [.Name x px, .Name y py, .Name z pz] kt pt] (.Tuple [a, b, c] k2 pt2) pos.line X.env = pure false := by rfl) : NS X CT P Wx (.Assign [.Tuple [.Name x px, .Name y py, .Name z pz] kt pt] (.Tuple [a, b, c] k2 pt2) pos) (exPar P [i, j, l] mr) := by
  obtain ⟨_, pa, sa⟩ := ha
  exact ⟨_, ps_par3 hc hN hi hj hl hij hil hjl hx hy hz pa hw hs, simPar3 sa⟩
def NNs (X : Cx) (tgs : List Expr) (is : List Nat) : Prop := PGs X tgs (gNames is)
theorem nnNil : NNs X [] [] := pgs_nil
theorem nnCons (i : Nat) {x : Str} {is : List Nat} (hN : X.N.Nodup) (h : NNs X tgs is) (hi : X.N[i]? = some x := by rfl) (hx : Loc X.env.scope x := by first | exact Or.inl rfl | exact Or.inr rfl) (hf : X.fn x = true ∨ X.env.scope.names.lookup x = some .local := by first | exact .inl rfl | exact .inr rfl)
    (hs : (assignEach (.Name x pos :: tgs) X.env).map (·.2) = assign (.Name x pos) X.env :: (assignEach tgs X.env).map (·.2) := by rfl) : NNs X (.Name x pos :: tgs) (i :: is) := pgs_cons (pg_name hN hi hx hf) h hs
theorem sParT (is : List Nat) {n : Nat} {pt : Pos} {kt k2 pt2} (hc : X.calm = true) (h : NNs X tgs is) (ha : NA X CT es mr) (hl : is.length = n := by rfl) (hn : (assignEach tgs X.env).length = n := by rfl) (hst : (assignEach tgs X.env).findIdx? (·.1) = none := by rfl) (hz : n ≤ sizeLine := by decide)
    (hs : swapsWithSole [.Tuple tgs kt pt] (.Tuple es k2 pt2) pos.line X.env = pure false := by rfl) (hw : swappedStores [.Tuple tgs kt pt] (.Tuple es k2 pt2) X.env = pure none := by rfl) (h1 : (assignEach [.Tuple tgs kt pt] X.env).map (·.2) = [assign (.Tuple tgs kt pt) X.env] := by rfl) :
    NS X CT P Wx (.Assign [.Tuple tgs kt pt] (.Tuple es k2 pt2) pos) (exPar P is mr) := by
  obtain ⟨_, pa, sa⟩ := ha
  exact ⟨_, ps_asg (pe_tup pa) (pg_tup hc h hn hst) hs hw h1, simParT (k := kx X CT) hl hz sa⟩
theorem sSto (j : Nat) {x : Str} {pp : Pos} (ho : PE X (.Name x p) (tVar j)) (hi : NE X CT a ma) (he : NE X CT e me) (ha : ∀ v, assign (.Subscript (.Name x p) a pp) X.env v = (do
      let ov ← holding [v] (eval (.Name x p) X.env)
      let iv ← holding [v, ov] (eval a X.env)
      standAt pp
      holding [v, ov, iv] (setItem ov iv v)
      release [v, ov, iv] []) := by intro _; rfl) (hs : swapsWithSole [.Subscript (.Name x p) a pp] e pos.line X.env = pure false := by rfl) (hw : swappedStores [.Subscript (.Name x p) a pp] e X.env = pure none := by rfl) (h1 : (assignEach [.Subscript (.Name x p) a pp] X.env).map (·.2) = [assign (.Subscript (.Name x p) a pp) X.env] := by rfl) :
    NS X CT P Wx (.Assign [.Subscript (.Name x p) a pp] e pos) (exSto j ma me) := by
  obtain ⟨_, pi, si⟩ := hi
  obtain ⟨_, pe, se⟩ := he
  exact ⟨_, ps_asg pe (pg_sub ho pi set_list ha) hs hw h1, simSto (k := kx X CT) si se⟩
theorem sFldN (i : Nat) {x f : Str} {pos' : Pos} {fn : FNs} (ok : FldOk (kx X CT) fn) (ho : PE X (.Name x p) (tVar i)) (he : NE X CT e me) (hs : swapsWith e (some (.Attribute (.Name x p) f pos')) pos.line X.env = pure false := by rfl) : NS X CT P Wx (.Assign [.Attribute (.Name x p) f pos'] e pos) (exFld fn i f me) := by
  obtain ⟨_, pe, se⟩ := he
  exact ⟨_, ps_fld ho pe hs, simFldS (k := kx X CT) ok se⟩
theorem sExpr (he : NE X CT e me) (hs : swapsWith e none pos.line X.env = pure false := by rfl) : NS X CT P Wx (.Expr e pos) (exExpr me) := by
  obtain ⟨_, pe, se⟩ := he
  exact ⟨_, ps_expr pe hs, simExpr se⟩
theorem sRet : NE X CT e me → NS X CT P Wx (.Return (some e) pos) (exRet me) := fun ⟨_, pe, se⟩ => ⟨_, ps_ret pe, simRet se⟩
variable {st : Stmt} {rest body orelse : List Stmt} {m n : SM}
theorem ssNil : NSs X CT P Wx [] exPass := ⟨_, pss_nil, simPass⟩
theorem ssOne : NS X CT P Wx st m → NSs X CT P Wx [st] m := fun ⟨_, p, s⟩ => ⟨_, pss_one p, s⟩
theorem ssCons : NS X CT P Wx st m → NSs X CT P Wx rest n → NSs X CT P Wx (st :: rest) (exSeq m n) := fun ⟨_, p, s⟩ ⟨_, p2, s2⟩ => ⟨_, pss_cons p p2, simSeq s s2⟩
theorem sIf : NT X CT c mt → NSs X CT P Wx body m → NSs X CT P Wx orelse n → NS X CT P Wx (.If c body orelse pos) (exIf mt m n) := fun ⟨_, pc, sc⟩ ⟨_, p, s⟩ ⟨_, p2, s2⟩ => ⟨_, ps_if pc p p2, simIfS sc s s2⟩
theorem sFor (ks : List Nat) (hp : PassesOwn (model X.prog X.w) X.A X.env X.xe) (hc : X.calm = true) (hi : NI X CT tg it mi) (hg : NG X CT P ts tg mg) (hb : NSs X CT P Wx body m) (hs : ∀ x, foldedSetIterable it X.env x = pure x := by intro _; rfl) : NS X CT P Wx (.For tg it body [] pos) (exFor mi mg (exKill ks m)) := by
  obtain ⟨_, p1, s1⟩ := hi
  obtain ⟨_, p2, s2⟩ := hg
  obtain ⟨_, p3, s3⟩ := hb
  exact ⟨_, ps_for hp hc p1 p2 p3 hs, simFor s1 s2 (simKill ks s3)⟩
theorem sWhile (fu : Nat) (ks : List Nat) (hp : PassesOwn (model X.prog X.w) X.A X.env X.xe) (ht : NT X CT c mt) (hb : NSs X CT P Wx body m) : NS X CT P Wx (.While c body [] pos) (exWhile mt (exKill ks m) fu) := by
  obtain ⟨_, p1, s1⟩ := ht
  obtain ⟨_, p3, s3⟩ := hb
  exact ⟨_, ps_while hp p1 p3, simWhile s1 (simKill ks s3) fu⟩
end
/-! ### defs -/
section
variable {P : Program} {w : World} {K : PySem.W.Frag} {mg : Str → Option Value} {base : Heap} {x qual : Str} {params : Arguments} {body : List Stmt} {scope : Scope} {f : Addr} {fd : FuncData}
abbrev cxF (P : Program) (w : World) (K : PySem.W.Frag) (mg : Str → Option Value) (base : Heap) (N : List Str) (qual : Str) (scope : Scope) (f : Addr) (cd : Value) (A : Around) (outer : List Env) (s : Shared) (H : Hp) (E : XK) : Cx := (cxOf CX0 P w K mg base N qual scope f cd A outer s H E).nox
theorem spF_len {k : Kx} {io : Bool} {np : Nat} {cm : CM} {vs : List V} {H : Hp} {Q : VK} {E : XK} (h : spF k io np cm vs H Q E) : vs.length = np := by
  obtain ⟨F, args, _, _, e, _⟩ := h; exact e
theorem def_ok {CT : CTab} {io : Bool} {np nl n : Nat} {N ps : List Str} {mb : SM} (F : FunD K x qual params body scope [] [] f fd) (S : FnScope N ps scope) (hps : ps.length = np) (hN : N.length = nl) (hio : io = true → 0 < np)
    (hb : ∀ (cd : Value) (A : Around) (outer : List Env) (s : Shared) (H : Hp) (E : XK), Room n (cxF P w K mg base N qual scope f cd A outer s H E).A → NSs (cxF P w K mg base N qual scope f cd A outer s H E) CT (if io = true then [0] else []) none body mb) :
    FnOk P w K mg base CX0 (n + 1) f fd ps (spF ⟨K, CT⟩ io np (runB io nl mb)) := by
  refine F.ok S (fun vs H Q E h => by rw [hps]; exact spF_len h) fun cd A outer s H vs Q E hr h => ?_
  obtain ⟨ts, p, si⟩ := hb cd A outer s H E hr
  exact ⟨ts, p.nox, runB_ok hN hio si h⟩
theorem bot_ok {CT : CTab} {io : Bool} {np n : Nat} {ps : List Str} (hps : ps.length = np) : FnOk P w K mg base CX0 n f fd ps (spF ⟨K, CT⟩ io np fun _ => none) :=
  ⟨fun vs H Q E h => by rw [hps]; exact spF_len h, fun A outer s H args us vs Q E _ _ _ _ h => by obtain ⟨F, as, _, _, _, z⟩ := h; exact z.elim⟩
end
end Pv

/-! Pvq: what the head tells, by numbers. -/
namespace Pv
open PySem PySem.Spec PySem.SeqAt L2
structure ClE where
  fst : Str
  snd : List Str
  pr : List (Str × Str) := []
  tp : List (Str × List Int) := []
  ie : List (Str × Str) := []
  tt : List (Str × List Str) := []
abbrev ClsT := List ClE
def getterB (K : PySem.W.Frag) (f : Str) : FuncData → Bool
  | ⟨_, qn, ⟨[], [⟨a, _, _⟩], none, [], [], none, []⟩, .stmts [.Return (some (.Attribute (.Name b _) f' _)) _], sc, gl, [], .none, _, _, _, _, cdv, _, bi⟩ => decide (a = "self") && (decide (b = "self") && (decide (f' = f) && (decide (gl = mainGlobals) && (decide (bi = builtinsNs) && (PySem.W.codeIn K cdv qn &&
    (decide (sc.kind = .function) && (decide (sc.isCoroutine = false) && (decide (sc.isGenerator = false) && (decide (sc.names.lookup ("self" : Str) = some .local) && sc.names.all fun y => decide (y.2 ≠ .free))))))))))
  | _ => false
def propB (K : PySem.W.Frag) (C f fld : Str) : Bool := match PySem.W.findIn K (.ref (He.ga K C)) f with
  | some (some (.ref p)) => He.eqO (PySem.W.specialIn K (.ref p) "__get__") (some (some (.builtin "property.__get__"))) && (decide (PySem.W.takesIn K (.ref p) = some true) && match PySem.W.recIn K p "property" with
    | some (.ref g :: _) => (match K.lookup g with
      | some ⟨_, _, .func fd, _⟩ => getterB K fld fd
      | _ => false)
    | _ => false)
  | _ => false
theorem getter_ok {P : Program} {w : World} {K : PySem.W.Frag} {mg : Str → Option Value} {base : Heap} {k : Nat} {C g : Addr} {f : Str} {fd : FuncData} {oc : Value} {od : Option Addr} {osl : Array (Option Value)} (lk : K.lookup g = some ⟨oc, od, .func fd, osl⟩) (h : getterB K f fd = true) (c : Cls K C) (n : NoAttr K C f) :
    FnOk P w K mg base CX0 (k + 1) g fd ["self"] (getSp C f) ∧ Binds K fd ["self"] [] := by
  unfold getterB at h
  split at h
  · simp only [Bool.and_eq_true, decide_eq_true_eq] at h
    obtain ⟨rfl, rfl, rfl, rfl, rfl, hcd, h1, h2, h3, h4, h5⟩ := h
    refine ⟨fn_getter (N := ["self"]) lk hcd ⟨h1, h2, h3, by decide, rfl, fun x hx => ?_, fun y hy => of_decide_eq_true (List.all_eq_true.mp h5 y hy)⟩ rfl rfl c n, Binds.all fun us hl => ?_⟩
    · rw [List.mem_singleton.mp hx]; exact .inl h4
    · match us, hl with
      | [_], _ => rfl
  · cases h
theorem propB_ok {K : PySem.W.Frag} {C f fld : Str} (h : propB K C f fld = true) : ∃ p g oc od fd osl, PropOf K (He.ga K C) f p g ∧ K.lookup g = some ⟨oc, od, .func fd, osl⟩ ∧ getterB K fld fd = true := by
  unfold propB at h
  split at h
  · rename_i p e1
    simp only [Bool.and_eq_true, decide_eq_true_eq] at h
    obtain ⟨h1, h2, h3⟩ := h
    split at h3
    · rename_i g rest e2
      split at h3
      · rename_i oc od fd osl e3
        exact ⟨p, g, oc, od, fd, osl, ⟨e1, He.eqO_ok h1, h2, rest, e2⟩, e3, h3⟩
      · cases h3
    · cases h3
  · cases h
def absI : Value → Option Int
  | .int i _ => some i
  | _ => none
def tupB (K : PySem.W.Frag) (x : Str) (ns : List Int) : Bool := match K.lookup (He.ga K x) with
  | some ⟨.type n, _, .seq its _, _⟩ => decide (n = "tuple") && (Nat.ble its.size 1000 && decide (its.toList.map absI = ns.map some))
  | _ => false
def absS : Value → Option Str
  | .str z _ => some z
  | _ => none
def txtB (K : PySem.W.Frag) (x : Str) (ts : List Str) : Bool := match K.lookup (He.ga K x) with
  | some ⟨.type n, _, .seq its _, _⟩ => decide (n = "tuple") && (Nat.ble its.size 1000 && decide (its.toList.map absS = ts.map some))
  | _ => false
def neB (K : PySem.W.Frag) (c : Str) : Bool := He.eqO (PySem.W.findIn K (.ref (He.ga K c)) "__ne__") (some (some (.builtin "object.__ne__"))) && decide (PySem.W.mroIn K (He.ga K c) (.type "object") = some true)
def ttB (K : PySem.W.Frag) (x : Str) (ts : List Str) : Bool := if x = "!=" then ts.all fun c => neB K c else txtB K x ts
def clV (K : PySem.W.Frag) (c : Str) : Value := if c = "ValueError" then .type "ValueError" else .ref (He.ga K c)
def ieB (K : PySem.W.Frag) (x c : Str) : Bool :=
  He.eqO (PySem.W.findIn K (.ref (He.ga K x)) "__getattribute__") (some (some (.builtin "BaseException.__getattribute__"))) && (He.eqO (PySem.W.findIn K (.ref (He.ga K x)) "__getattr__") (some none) && (decide (PySem.W.subIn K (.ref (He.ga K x)) (.type "BaseException") = some true) && (PySem.W.hasDictIn K (He.ga K x) &&
  (He.eqO (PySem.W.findIn K (.ref (He.ga K x)) "__class__") (some (some (.builtin "object.__class__"))) && (He.eqO (PySem.W.specialIn K (.builtin "object.__class__") "__get__") (some (some (.builtin "getset_descriptor.__get__"))) && (decide (PySem.W.takesIn K (.builtin "object.__class__") = some true) && (decide (PySem.W.mroIn K (He.ga K x) (.type "object") = some true) && decide (PySem.W.kitOne K (.ref (He.ga K x)) (clV K c) = some true))))))))
def clAt (cs : ClsT) (c : Int) : Option ClE := if 0 ≤ c then cs[c.toNat]? else none
def ctOf (cs : ClsT) (K : PySem.W.Frag) (T : List NdefX.NTab := []) (nf : Option (Addr → NdefX.NF) := none) : CTab := ⟨fun c => (clAt cs c).map fun q => (He.ga K q.1, q.2), T, nf⟩
def fnsOf (cs : ClsT) : FNs := fun c => match clAt cs c with
  | some q => q.2
  | none => []
def eqB (a b : Option Bool) : Bool := decide (a = b)
def exCl (K : PySem.W.Frag) (q : ClE) : Bool :=
  (He.Fa.cls q.1).ok K && (He.eqO (PySem.W.findIn K (.ref (He.ga K q.1)) "__class__") (some (some (.builtin "object.__class__"))) && (He.eqO (PySem.W.specialIn K (.builtin "object.__class__") "__get__") (some (some (.builtin "getset_descriptor.__get__"))) &&
  (eqB (PySem.W.takesIn K (.builtin "object.__class__")) (some true) && (eqB (PySem.W.mroIn K (He.ga K q.1) (.type "object")) (some true) &&
  ((tyNames.all fun a => eqB (PySem.W.kitOne K (.type a) (.ref (He.ga K q.1))) (some false)) && ((tyNames.all fun a => eqB (PySem.W.kitOne K (.ref (He.ga K q.1)) (.type a)) (some false)) && ((q.2.all fun f => (He.Fa.noat q.1 f).ok K) && ((q.pr.all fun z => propB K q.1 z.1 z.2 && q.2.contains z.2) && ((q.tp.all fun z => tupB K z.1 z.2) && ((q.ie.all fun z => ieB K z.1 z.2) && (q.tt.all fun z => ttB K z.1 z.2)))))))))))
def exK (cs : ClsT) (K : PySem.W.Frag) : Bool := (cs.all fun q => exCl K q) && ((List.range cs.length).all fun i => (List.range cs.length).all fun j => match cs[i]?, cs[j]? with
  | some q, some r => eqB (PySem.W.kitOne K (.ref (He.ga K q.1)) (.ref (He.ga K r.1))) (some (i == j))
  | _, _ => true)
theorem eqB_ok {a b : Option Bool} (h : eqB a b = true) : a = b := of_decide_eq_true h
theorem clAt_some {cs : ClsT} {c : Int} {q : ClE} (h : clAt cs c = some q) : 0 ≤ c ∧ cs[c.toNat]? = some q := by
  unfold clAt at h
  split at h
  · exact ⟨by assumption, h⟩
  · cases h
theorem ct_some {cs : ClsT} {K : PySem.W.Frag} {c : Int} {C : Addr} {ns : List Str} {T : List NdefX.NTab} {nf : Option (Addr → NdefX.NF)} (h : ctOf cs K T nf c = some (C, ns)) : ∃ q, clAt cs c = some q ∧ C = He.ga K q.1 ∧ ns = q.2 := by
  replace h : (clAt cs c).map (fun q => (He.ga K q.1, q.2)) = some (C, ns) := h
  cases e : clAt cs c with
  | none => rw [e] at h; cases h
  | some q => rw [e] at h; cases h; exact ⟨q, rfl, rfl, rfl⟩
theorem exCl_ok {K : PySem.W.Frag} {q : ClE} (h : exCl K q = true) : Cls K (He.ga K q.1) ∧ PySem.W.findIn K (.ref (He.ga K q.1)) "__class__" = some (some (.builtin "object.__class__")) ∧ PySem.W.specialIn K (.builtin "object.__class__") "__get__" = some (some (.builtin "getset_descriptor.__get__")) ∧
    PySem.W.takesIn K (.builtin "object.__class__") = some true ∧ PySem.W.mroIn K (He.ga K q.1) (.type "object") = some true ∧ (∀ a, tyNames.contains a = true → PySem.W.kitOne K (.type a) (.ref (He.ga K q.1)) = some false) ∧ (∀ a, tyNames.contains a = true → PySem.W.kitOne K (.ref (He.ga K q.1)) (.type a) = some false) ∧ (∀ f ∈ q.2, NoAttr K (He.ga K q.1) f) ∧ (∀ z ∈ q.pr, propB K q.1 z.1 z.2 = true ∧ z.2 ∈ q.2) ∧ (∀ z ∈ q.tp, tupB K z.1 z.2 = true) ∧ (∀ z ∈ q.ie, ieB K z.1 z.2 = true) ∧ ∀ z ∈ q.tt, ttB K z.1 z.2 = true := by
  unfold exCl at h
  simp only [Bool.and_eq_true] at h
  obtain ⟨h1, h2, h3, h4, h5, h6, h7, h8, h9, h10, h11, h12⟩ := h
  refine ⟨He.cls_ok h1, He.eqO_ok h2, He.eqO_ok h3, eqB_ok h4, eqB_ok h5, fun a ha => ?_, fun a ha => ?_, fun f hf => He.noat_ok (List.all_eq_true.mp h8 f hf), fun z hz => by
    have := List.all_eq_true.mp h9 z hz
    rw [Bool.and_eq_true] at this
    exact ⟨this.1, by simpa using this.2⟩, fun z hz => List.all_eq_true.mp h10 z hz, fun z hz => List.all_eq_true.mp h11 z hz, fun z hz => List.all_eq_true.mp h12 z hz⟩
  · exact eqB_ok (List.all_eq_true.mp h6 a (by simpa using ha))
  · exact eqB_ok (List.all_eq_true.mp h7 a (by simpa using ha))
theorem exK_isi {cs : ClsT} {K : PySem.W.Frag} {T : List NdefX.NTab} {nf : Option (Addr → NdefX.NF)} (h : exK cs K = true) : IsiOk ⟨K, ctOf cs K T nf⟩ := by
  unfold exK at h
  obtain ⟨h1, h2⟩ := He.ba h
  have one : ∀ c C ns, ctOf cs K T nf c = some (C, ns) → ∃ q, 0 ≤ c ∧ cs[c.toNat]? = some q ∧ C = He.ga K q.1 ∧ exCl K q = true := fun c C ns e => by
    obtain ⟨q, e1, e2, e3⟩ := ct_some e
    obtain ⟨z, e4⟩ := clAt_some e1
    exact ⟨q, z, e4, e2, List.all_eq_true.mp h1 q (List.mem_of_getElem? e4)⟩
  refine ⟨fun c C ns e => ?_, fun a c C ns ha e => ?_, fun a c C ns ha e => ?_, fun c c' C C' ns ns' e e' => ?_⟩
  · obtain ⟨q, _, _, rfl, h3⟩ := one c C ns e
    obtain ⟨z1, z2, z3, z4, z5, _⟩ := exCl_ok h3
    exact ⟨z1, z2, z3, z4, z5⟩
  · obtain ⟨q, _, _, rfl, h3⟩ := one c C ns e
    exact (exCl_ok h3).2.2.2.2.2.1 a ha
  · obtain ⟨q, _, _, rfl, h3⟩ := one c C ns e
    exact (exCl_ok h3).2.2.2.2.2.2.1 a ha
  · obtain ⟨q, z, e1, rfl, _⟩ := one c C ns e
    obtain ⟨r, z', e2, rfl, _⟩ := one c' C' ns' e'
    have l1 := (List.getElem?_eq_some_iff.mp e1).1
    have l2 := (List.getElem?_eq_some_iff.mp e2).1
    have h3 := List.all_eq_true.mp (List.all_eq_true.mp h2 c.toNat (List.mem_range.mpr l1)) c'.toNat (List.mem_range.mpr l2)
    rw [e1, e2] at h3
    have h4 := eqB_ok h3
    rw [h4]
    have : (c.toNat == c'.toNat) = (c == c') := by
      by_cases y : c = c'
      · subst y; rw [beq_self_eq_true, beq_self_eq_true]
      · have : c.toNat ≠ c'.toNat := by omega
        rw [beq_eq_false_iff_ne.mpr this, beq_eq_false_iff_ne.mpr y]
    rw [this]
def clsB (cs : ClsT) : Bool := cs.all fun q => decide (q.2.length < 1000 ∧ q.2.Nodup)
theorem exK_fld {cs : ClsT} {K : PySem.W.Frag} {T : List NdefX.NTab} {nf : Option (Addr → NdefX.NF)} (h : exK cs K = true) (hc : clsB cs = true) : FldOk ⟨K, ctOf cs K T nf⟩ (fnsOf cs) := by
  have one : ∀ c C ns, ctOf cs K T nf c = some (C, ns) → ∃ q, clAt cs c = some q ∧ C = He.ga K q.1 ∧ ns = q.2 ∧ exCl K q = true ∧ q.2.length < 1000 ∧ q.2.Nodup := fun c C ns e => by
    obtain ⟨q, e1, e2, e3⟩ := ct_some e
    obtain ⟨z, e4⟩ := clAt_some e1
    exact ⟨q, e1, e2, e3, List.all_eq_true.mp (He.ba h).1 q (List.mem_of_getElem? e4), of_decide_eq_true (List.all_eq_true.mp hc q (List.mem_of_getElem? e4))⟩
  refine ⟨fun c C ns e => ?_, fun c C ns f e hf => ?_, fun c C ns e => ?_, fun c C ns e => ?_⟩
  · obtain ⟨q, e1, _, rfl, _⟩ := one c C ns e
    unfold fnsOf; rw [e1]
  · obtain ⟨q, _, rfl, rfl, h3, _⟩ := one c C ns e
    exact (exCl_ok h3).2.2.2.2.2.2.2.1 f hf
  · obtain ⟨q, _, rfl, rfl, h3, _⟩ := one c C ns e
    exact (exCl_ok h3).1
  · obtain ⟨q, _, _, rfl, _, h3⟩ := one c C ns e
    exact h3
theorem exK_prop {cs : ClsT} {K : PySem.W.Frag} (h : exK cs K = true) {c : Int} {q : ClE} (e : clAt cs c = some q) {z : Str × Str} (hz : z ∈ q.pr) : Cls K (He.ga K q.1) ∧ NoAttr K (He.ga K q.1) z.2 ∧ propB K q.1 z.1 z.2 = true := by
  obtain ⟨_, e4⟩ := clAt_some e
  have h3 := exCl_ok (List.all_eq_true.mp (He.ba h).1 q (List.mem_of_getElem? e4))
  exact ⟨h3.1, h3.2.2.2.2.2.2.2.1 z.2 (h3.2.2.2.2.2.2.2.2.1 z hz).2, (h3.2.2.2.2.2.2.2.2.1 z hz).1⟩
structure Fx (fa : List He.Fa) (fn : List He.DefD) (cs : ClsT) (K : PySem.W.Frag) (mg : Str → Option Value) : Prop where
  d : He.SaysD fa fn K
  ex : exK cs K = true
  fr : ∀ x, (He.Fa.free x).ok K = true → mg x = none
  gl : ∀ x, (He.Fa.glo x).ok K = true → mg x = some (.ref (He.ga K x))
  it : ∀ x i, (He.Fa.int x i).ok K = true → ∃ t, mg x = some (.int i t)
  st : ∀ x z, (He.Fa.str x z).ok K = true → ∃ t, mg x = some (.str z t)
section
variable {fa : List He.Fa} {fn : List He.DefD} {cs : ClsT} {K : PySem.W.Frag} {mg : Str → Option Value}
theorem Fx.of {w : World} {h : Heap} (X : K.In h) (G : h.Ns mainGlobals mg) (c : He.SaysX fa fn [] [] (exK cs) w h K) : Fx fa fn cs K mg :=
  ⟨c.t.d, c.more, fun x => He.free_ok X G, fun x => He.glo_ok X G, fun x i => He.int_ok X G, fun x z => He.str_ok X G⟩
theorem Fx.free (h : Fx fa fn cs K mg) (i : Nat) {x : Str} (e : fa[i]? = some (.free x) := by rfl) : mg x = none := h.fr x (h.d.fact i e)
theorem Fx.glo (h : Fx fa fn cs K mg) (i : Nat) {x : Str} (e : fa[i]? = some (.glo x) := by rfl) : mg x = some (.ref (He.ga K x)) := h.gl x (h.d.fact i e)
theorem Fx.int (h : Fx fa fn cs K mg) (i : Nat) {x : Str} {n : Int} (e : fa[i]? = some (.int x n) := by rfl) : ∃ t, mg x = some (.int n t) := h.it x n (h.d.fact i e)
theorem Fx.str (h : Fx fa fn cs K mg) (i : Nat) {x z : Str} (e : fa[i]? = some (.str x z) := by rfl) : ∃ t, mg x = some (.str z t) := h.st x z (h.d.fact i e)
theorem Fx.meth (h : Fx fa fn cs K mg) (i : Nat) {x m : Str} (e : fa[i]? = some (.meth x m) := by rfl) : Meth K (He.ga K x) m (He.ma K (He.ga K x) m) := He.meth_ok (h.d.fact i e)
theorem Fx.mkr (h : Fx fa fn cs K mg) (i : Nat) {x : Str} (e : fa[i]? = some (.mkr x) := by rfl) : Mk K (He.ga K x) (He.ma K (He.ga K x) "__init__") := He.mkr_ok (h.d.fact i e)
theorem Fx.def_ (h : Fx fa fn cs K mg) (i : Nat) {d : He.DefD} (e : fn[i]? = some d := by rfl) : ∃ fd, FunD K d.name d.qual d.params d.body d.scope (d.dvs K) (d.kws K) (He.fAd K d.at_) fd := h.d.def_ i e
theorem Fx.kp (h : Fx fa fn cs K mg) (i : Nat) {d : He.DefD} (e : fn[i]? = some d := by rfl) : PySem.W.keepIn K (.ref (He.fAd K d.at_)) = true := by
  obtain ⟨fd, F⟩ := h.d.def_ i e
  exact F.kp
theorem Fx.isi {T : List NdefX.NTab} {nf : Option (Addr → NdefX.NF)} (h : Fx fa fn cs K mg) : IsiOk ⟨K, ctOf cs K T nf⟩ := exK_isi h.ex
end
end Pv

/-! Pvz: evaluating the pure functions. -/
namespace Pv
open PySem
/-! iL -/
theorem eLe {a b : Int} : gLeD (.int a) (.int b) = some (.val (.bool (decide (a ≤ b)))) := by
  simp [gDat, pLt, PyData.plain, PySem.W.alike, PyData.depth, PySem.W.dataLt_int]
  by_cases h : b < a
  · simp [h, Int.not_le.mpr h]
  · simp [h, Int.not_lt.mp h]
theorem eGe {a b : Int} : gGeD (.int a) (.int b) = some (.val (.bool (decide (b ≤ a)))) := by
  simp [gDat, pLt, PyData.plain, PySem.W.alike, PyData.depth, PySem.W.dataLt_int]
  by_cases h : a < b
  · simp [h, Int.not_le.mpr h]
  · simp [h, Int.not_lt.mp h]
theorem eLt {a b : Int} : gLtD (.int a) (.int b) = some (.val (.bool (decide (a < b)))) := by
  simp [gDat, pLt, PyData.plain, PySem.W.alike, PyData.depth, PySem.W.dataLt_int]
theorem eGt {a b : Int} : gGtD (.int a) (.int b) = some (.val (.bool (decide (b < a)))) := by
  simp [gDat, pLt, PyData.plain, PySem.W.alike, PyData.depth, PySem.W.dataLt_int]
theorem eEq {a b : Int} : gEqD (.int a) (.int b) = some (.val (.bool (decide (a = b)))) := by
  simp [gDat, pEq, PyData.plain, PyData.depth, PyData.eqv]
  by_cases h : a = b <;> simp [h]
theorem eNe {a b : Int} : gNeD (.int a) (.int b) = some (.val (.bool (!decide (a = b)))) := by
  simp [gDat, pEq, PyData.plain, PyData.depth, PyData.eqv]
  by_cases h : a = b <;> simp [h]
theorem eEqB {a b : Bool} : gEqD (.bool a) (.bool b) = some (.val (.bool (decide (a = b)))) := by
  simp [gDat, pEq, PyData.plain, PyData.depth, PyData.eqv]
  cases a <;> cases b <;> simp
theorem eNeB {a b : Bool} : gNeD (.bool a) (.bool b) = some (.val (.bool (!decide (a = b)))) := by
  simp [gDat, pEq, PyData.plain, PyData.depth, PyData.eqv]
  cases a <;> cases b <;> simp
/-! lists of iL -/
abbrev iL (l : List Int) : List D := l.map PyData.int
/-! naturals -/
theorem small {n m : Nat} (h : n ≤ m) (hm : m ≤ 16777216 := by decide) : n ≤ sizeLine := by
  have : sizeLine = 16777216 := by decide
  omega
theorem cDiv_ok {i j : Int} (h : 0 < j) (h2 : j < 1073741824) : cDiv i j = true := by
  simp [cDiv]; omega
theorem cPos_ok {i j : Int} (h : 0 < j) : cPos i j = true := by
  simp [cPos]; omega
theorem cMul_r {i j : Int} (h : j.natAbs ≤ 18446744073709551615) : cMul i j = true := by
  simp [cMul, h]
theorem cPow_10 : cPow 10 18 = true := by decide
end Pv

/-! Pvy: more of evaluating; reachable blocks. -/
namespace Pv
open PySem
/-! blocks -/
abbrev Cov := List (List Nat)
def Vl (b : Nat) (l : List Nat) : Prop := (∀ x ∈ l, x < b) ∧ l.Pairwise (· < ·)
def Vc (cov : Cov) : Prop := ∀ (b : Nat) (l : List Nat), cov[b]? = some l → Vl b l
theorem range_lt (b : Nat) : (List.range b).Pairwise (· < ·) := List.pairwise_lt_range
theorem Vl.range (b : Nat) : Vl b (List.range b) := ⟨fun x hx => List.mem_range.mp hx, range_lt b⟩
theorem Vl.filter {b : Nat} {l : List Nat} (h : Vl b l) (t : Nat → Bool) : Vl b (l.filter t) := ⟨fun x hx => h.1 x (List.mem_filter.mp hx).1, h.2.filter t⟩
theorem Vc.snoc {cov : Cov} {l : List Nat} (h : Vc cov) (hl : Vl cov.length l) : Vc (cov ++ [l]) := by
  intro b m e
  by_cases hb : b < cov.length
  · rw [List.getElem?_append_left hb] at e; exact h b m e
  · rw [List.getElem?_append_right (by omega)] at e
    have : b - cov.length = 0 := by
      have := (List.getElem?_eq_some_iff.mp e).1
      simp at this; omega
    rw [this] at e
    simp at e
    subst e
    rw [show b = cov.length by omega]; exact hl
def at_ (cov : Cov) (b : Nat) : List Nat := cov.getD b []
inductive Rc (cov : Cov) : Nat → Nat → Prop
  | one {b x : Nat} : x ∈ at_ cov b → Rc cov b x
  | more {b y x : Nat} : y ∈ at_ cov b → Rc cov y x → Rc cov b x
theorem Vc.at {cov : Cov} (h : Vc cov) (b : Nat) : Vl b (at_ cov b) := by
  unfold at_
  cases e : cov[b]? with
  | none => rw [List.getD_eq_getElem?_getD, e]; exact ⟨by simp, by simp⟩
  | some l => rw [List.getD_eq_getElem?_getD, e]; exact h b l e
theorem Rc.lt {cov : Cov} (h : Vc cov) {b x : Nat} (r : Rc cov b x) : x < b := by
  induction r with
  | one hx => exact (h.at _).1 _ hx
  | more hy _ ih => have := (h.at _).1 _ hy; omega
theorem Rc.left {cov : Cov} {b x : Nat} (r : Rc cov b x) : b < cov.length := by
  have one : ∀ {b x : Nat}, x ∈ at_ cov b → b < cov.length := fun {b x} hx => by
    by_cases z : b < cov.length
    · exact z
    · unfold at_ at hx
      rw [List.getD_eq_getElem?_getD, List.getElem?_eq_none (by omega)] at hx
      simp at hx
  cases r with
  | one hx => exact one hx
  | more hy _ => exact one hy
theorem Rc.trans {cov : Cov} {a b c : Nat} (h : Rc cov a b) (g : Rc cov b c) : Rc cov a c := by
  induction h with
  | one hx => exact .more hx g
  | more hy _ ih => exact .more hy (ih g)
theorem Vl.len {b : Nat} {l : List Nat} (h : Vl b l) : l.length ≤ b := by
  have h1 : l.Nodup := h.2.imp fun h => Nat.ne_of_lt h
  have := List.Nodup.length_le_of_subset h1 (l₂ := List.range b) fun x hx => List.mem_range.mpr (h.1 x hx)
  simpa using this
end Pv

/-! Pvt: starred arguments. -/
namespace Pv
open PySem PySem.Spec PySem.SeqAt L2
def evStar (me : EM) (mr : AM) : AM := fun ρ => (me ρ).bind fun a => (rdD a.2 a.1).bind fun d => (seqD d).bind fun xs => (mr a.2).bind fun b => some (xs.map (fun x => Rv.sv (.val x)) ++ b.1, b.2)
theorem RRs.vals {k : Kx} {F : Hp} {ρ : Rho} {σ : L2.St} {H H1 : Hp} {rs : List Rv} {us : List V} (h : RRs k F ρ σ H H1 rs us) : ∀ {vs : List V} {xs : List D}, RepL k F vs xs → RRs k F ρ σ H H1 (xs.map (fun x => Rv.sv (.val x)) ++ rs) (vs ++ us)
  | _, _, .nil => h
  | _, _, .cons a b => .cons a (RRs.vals h b) (fun _ z => z) fun o e => by cases e
theorem RRs.lower {k : Kx} {F : Hp} {ρ : Rho} {σ : L2.St} {H H0 H1 : Hp} (hs : ∀ p, H0 p ≠ none → H1 p ≠ none) : ∀ {rs : List Rv} {vs : List V}, RRs k F ρ σ H H1 rs vs → RRs k F ρ σ H H0 rs vs
  | _, _, .nil => .nil
  | _, _, .cons (r := r) a b c d => by
    refine .cons ?_ b (fun p z => c p (hs p z)) d
    match r, a with
    | .sv (.val _), a => exact a
    | .sv (.own o), ⟨p, ho, e, n, q⟩ =>
      refine ⟨p, ho, e, ?_, q⟩
      cases z : H0 p with
      | none => rfl
      | some u => exact absurd n (hs p (by rw [z]; simp))
    | .plc i, a => exact a
theorem simStar {k : Kx} {te : TE} {tr : TA} {me : EM} {mr : AM} (he : SimE k te me) (hr : SimA k tr mr) : SimA k (StX.tStar k.K te tr) (evStar me mr) := by
  intro F ρ σ H Q f h
  unfold evStar at h
  refine he F ρ σ H _ f ((wpo_bind.mp h).mono fun a _ h => ?_)
  intro v F1 H1 A1 R1
  have h := wpo_bind.mp h
  cases e1 : rdD a.2 a.1 with
  | none => rw [e1] at h; exact h.elim
  | some d =>
    rw [e1] at h
    have h : wpo ((seqD d).bind _) _ := h
    cases e2 : seqD d with
    | none => rw [e2] at h; exact h.elim
    | some xs =>
      rw [e2] at h
      obtain ⟨p, vs, rfl, hp, rl⟩ := (R1.rd A1.fr e1).seq A1.fr.sub e2
      refine ⟨p, vs, rfl, hp.symm, ?_⟩
      have h : wpo ((mr a.2).bind _) _ := h
      refine hr F1 a.2 σ H1 _ A1.fr ((wpo_bind.mp h).mono fun b _ h => ?_)
      intro us F2 H2 A2 R2
      refine h (vs ++ us) F2 H2 (A1.trans A2) (RRs.vals (RRs.lower (fun q z => ?_) R2) (rl.mono A2.tr.sub))
      cases y : H q with
      | none => exact absurd y z
      | some u => obtain ⟨u', hu'⟩ := A1.tr.there q u y; rw [hu']; simp
theorem aStar {X : Cx} {CT : CTab} {e : Expr} {es : List Expr} {me : EM} {mr : AM} {p : Pos} (he : NE X CT e me) (hr : NA X CT es mr) (hs : starEach (.Starred e p :: es) X.env = (true, eval e X.env) :: starEach es X.env := by rfl) : NA X CT (.Starred e p :: es) (evStar me mr) := by
  obtain ⟨_, pe, se⟩ := he
  obtain ⟨_, pr, sr⟩ := hr
  exact ⟨_, StX.pa_star pe pr hs, simStar (k := kx X CT) se sr⟩
end Pv

/-! Pvu: comprehensions of two clauses. -/
namespace Pv
open PySem PySem.Spec PySem.SeqAt L2
def goComp2 (mg : GM) (mt : TM) (mi1 : IM) (mg1 : GM) (mt1 : TM) (me : EM) (vs vs1 : List Nat) : List D → Rho → Option (List D × Rho)
  | [], ρ => some ([], ρ)
  | d :: r, ρ => (mg d ρ).bind fun ρ1 => (mt ρ1).bind fun b => if b.1 = true then (mi1 b.2).bind fun c => (goComp mg1 mt1 me vs1 c.1 (kill vs1 c.2)).bind fun z => (goComp2 mg mt mi1 mg1 mt1 me vs vs1 r (kill vs z.2)).bind fun y => some (z.1 ++ y.1, y.2)
      else goComp2 mg mt mi1 mg1 mt1 me vs vs1 r (kill vs b.2)
def evComp2 (mi : IM) (mg : GM) (mt : TM) (mi1 : IM) (mg1 : GM) (mt1 : TM) (me : EM) (vs vs1 : List Nat) : EM := fun ρ => (mi ρ).bind fun a => (goComp2 mg mt mi1 mg1 mt1 me vs vs1 a.1 (kill vs a.2)).bind fun z => if z.1.length ≤ sizeLine then some (.sv (.own (.lst z.1)), restore vs a.2 z.2) else none
structure CJ (k : Kx) (e : Ent) (O : Addr → Prop) (ρ0 ρ : Rho) (σ : L2.St) (F H : Hp) (T : Addr) (acc : List V) (ds : List D) : Prop where
  s : SInv k e ρ σ F H
  ow : ∀ p, Own ρ σ p → O p
  sl : ∀ (i : Nat) (x : SV), ρ0[i]? = some (some x) → ∃ x', ρ[i]? = some (some x')
  hT : H T = some (.lst acc)
  fT : F T = none
  r : RepL k F acc ds
theorem CJ.aft {k : Kx} {e : Ent} {O : Addr → Prop} {ρ0 ρ ρ' : Rho} {σ : L2.St} {F H F' H' : Hp} {T : Addr} {acc : List V} {ds : List D} (c : CJ k e O ρ0 ρ σ F H T acc ds) (nO : ¬ O T) (A : Aft k ρ σ F H ρ' F' H') : CJ k e O ρ0 ρ' σ F' H' T acc ds :=
  ⟨c.s.aft A, fun p z => c.ow p (A.ow p z), fun i x q => let ⟨x', q'⟩ := c.sl i x q; A.sl i x' q', A.tr.keep T _ c.hT trivial fun z => nO (c.ow T z), A.tr.new T _ c.hT trivial c.fT fun z => nO (c.ow T z), c.r.mono A.tr.sub⟩
theorem CJ.wiped {k : Kx} {e : Ent} {O : Addr → Prop} {ρ0 ρ : Rho} {σ : L2.St} {F H : Hp} {T : Addr} {acc : List V} {ds : List D} {ws : List Nat} (c : CJ k e O ρ0 ρ σ F H T acc ds) (he : e.pr = []) (hw : ∀ i ∈ ws, ∀ x, ρ0[i]? ≠ some (some x)) : CJ k e O ρ0 (kill ws ρ) (wipe σ ws) F H T acc ds :=
  ⟨⟨c.s.fr.wiped, c.s.tr, fun p z => c.s.ow p z.wiped, fun q hq => by rw [he] at hq; cases hq⟩, fun p z => c.ow p z.wiped, fun i x q => by
    obtain ⟨x', q'⟩ := c.sl i x q
    exact ⟨x', by rw [kill_out fun z => hw i z x q]; exact q'⟩, c.hT, c.fT, c.r⟩
theorem CJ.newF {k : Kx} {e : Ent} {O : Addr → Prop} {ρ0 ρ : Rho} {σ : L2.St} {F H : Hp} {T U : Addr} {o : HO} {acc : List V} {ds : List D} (c : CJ k e O ρ0 ρ σ F H T acc ds) (hU : H U = none) : CJ k e O ρ0 ρ σ (upd F U o) (upd H U o) T acc ds := by
  have ne : T ≠ U := fun z => by rw [← z, c.hT] at hU; cases hU
  exact ⟨c.s.newF hU, c.ow, c.sl, by rw [upd_ne ne]; exact c.hT, by rw [upd_ne ne]; exact c.fT, c.r.mono (Sub.upd (c.s.fr.sub.none_of hU))⟩
theorem CJ.target {k : Kx} {e : Ent} {O : Addr → Prop} {ρ0 ρ ρ' : Rho} {σ σ' : L2.St} {F H : Hp} {T : Addr} {acc : List V} {ds : List D} (c : CJ k e O ρ0 ρ σ F H T acc ds) (s' : SInv k e ρ' σ' F H) (ow : ∀ p, Own ρ' σ' p → Own ρ σ p) (sl : Sls ρ ρ') : CJ k e O ρ0 ρ' σ' F H T acc ds :=
  ⟨s', fun p z => c.ow p (ow p z), fun i x q => let ⟨x', q'⟩ := c.sl i x q; sl i x' q', c.hT, c.fT, c.r⟩
theorem CJ.push {k : Kx} {e : Ent} {O : Addr → Prop} {ρ0 ρ : Rho} {σ : L2.St} {F H : Hp} {T : Addr} {acc : List V} {ds : List D} {v : V} {d : D} (c : CJ k e O ρ0 ρ σ F H T acc ds) (nO : ¬ O T) (eT : e.H T = none) (r : Rep k F v d) : CJ k e O ρ0 ρ σ F (upd H T (.lst (acc ++ [v]))) T (acc ++ [v]) (ds ++ [d]) :=
  ⟨c.s.temp eT c.fT (fun z => nO (c.ow T z)) (ntc_at c.hT), c.ow, c.sl, upd_same, c.fT, c.r.append (.cons r .nil)⟩
theorem lc_in {J : It} {n : Nat} {G : Hp → Prop} {Y : Nat → Hp → V → Hp → Prop} (w : Walk J n G Y) {g1 : TG} {tt1 : TT} {te : TE} {vs1 : List Nat} {σ2 : L2.St} {H4 : Hp} {D : Addr} {Nx : Hp → Prop} (Pv : Nat → Hp → Prop) (h0 : Pv 0 H4) (hG : ∀ i H, i ≤ n → Pv i H → G H)
    (hs : ∀ i x H H', i < n → Pv i H → Y i H x H' → g1 x (wipe σ2 vs1) H' fun σ3 H5 => wipe σ3 vs1 = wipe σ2 vs1 ∧ tt1 σ3 H5 fun b H6 => if b = true then te σ3 H6 fun y H7 => ∃ acc, H7 D = some (.lst acc) ∧ acc.length < sizeLine ∧ Pv (i + 1) (upd H7 D (.lst (acc ++ [y]))) else Pv (i + 1) H6) (hd : ∀ H, Pv n H → Nx H) :
    ∃ W1 : Nat → Nat → Hp → Prop, (∃ m, W1 0 m H4) ∧ ∀ j k H, W1 j k H →
      (J.stop j H ∧ Nx H) ∨ (J.go j H ∧ ∃ Nx1 : Hp → Prop, (∀ H', Nx1 H' → ∃ k', k' < k ∧ W1 (j + 1) k' H') ∧ ∀ x H', J.yld j H x H' → g1 x (wipe σ2 vs1) H' fun σ3 H5 => wipe σ3 vs1 = wipe σ2 vs1 ∧ tt1 σ3 H5 fun b H6 =>
        if b = true then te σ3 H6 fun y H7 => ∃ acc, H7 D = some (.lst acc) ∧ acc.length < sizeLine ∧ Nx1 (upd H7 D (.lst (acc ++ [y]))) else Nx1 H6) := by
  refine ⟨fun i m H => m = n - i ∧ i ≤ n ∧ Pv i H, ⟨n, by simp, Nat.zero_le _, h0⟩, ?_⟩
  rintro i m H ⟨rfl, hi, p⟩
  have q := hG i H hi p
  by_cases hlt : i < n
  · exact .inr ⟨w.goes i H hlt q, Pv (i + 1), fun H' p' => ⟨n - (i + 1), by omega, rfl, hlt, p'⟩, fun x H' y => hs i x H H' hlt p (w.yields i H x H' hlt q y)⟩
  · have e : i = n := by omega
    subst e
    exact .inl ⟨w.stops H q, hd H p⟩
section
variable {k : Kx} {e : Ent} {O : Addr → Prop} {ρ0 : Rho} {T : Addr} (he0 : e.pr = []) (nO : ¬ O T) (eT : e.H T = none)
include he0 nO eT
theorem turn_in {ts1 vs1 : List Nat} {g1 : TG} {tt1 : TT} {te : TE} {mg1 : GM} {mt1 : TM} {me : EM} (hg : SimG k [] ts1 g1 mg1) (ht : SimT k tt1 mt1) (hee : SimE k te me) (hv : ∀ t ∈ ts1, t ∈ vs1) (hw : ∀ i ∈ vs1, ∀ x, ρ0[i]? ≠ some (some x)) {ρ : Rho} {σ2 : L2.St} {F H : Hp} {acc : List V} {ds : List D} {x : V} {d : D} {N : Hp → Prop} {r : List D} {C : List D × Rho → Prop}
    (c : CJ k e O ρ0 ρ (wipe σ2 vs1) F H T acc ds) (rp : Rep k F x d) (h : wpo (goComp mg1 mt1 me vs1 (d :: r) ρ) C) (hC : ∀ z, C z → (ds ++ z.1).length ≤ sizeLine)
    (fin : ∀ ρ' F' H' acc' zs, Sub F F' → CJ k e O ρ0 ρ' (wipe σ2 vs1) F' H' T acc' (ds ++ zs) → wpo (goComp mg1 mt1 me vs1 r ρ') (fun z => C (zs ++ z.1, z.2)) → N H') :
    g1 x (wipe σ2 vs1) H fun σ3 H5 => wipe σ3 vs1 = wipe σ2 vs1 ∧ tt1 σ3 H5 fun b H6 => if b = true then te σ3 H6 fun y H7 => ∃ acc, H7 T = some (.lst acc) ∧ acc.length < sizeLine ∧ N (upd H7 T (.lst (acc ++ [y]))) else N H6 := by
  unfold goComp at h
  refine hg e ρ (wipe σ2 vs1) F H x _ _ (fun q hq => by rw [he0] at hq; cases hq) c.s rp ((wpo_bind.mp h).mono fun ρ1 _ h => ?_)
  intro σ3 s3 ag ow3 sl3
  have ew : wipe σ3 vs1 = wipe σ2 vs1 := (wipe_agr ag hv).trans wipe_wipe
  have c3 := c.target s3 ow3 sl3
  refine ⟨ew, ht F ρ1 σ3 H _ s3.fr ((wpo_bind.mp h).mono fun b _ h => ?_)⟩
  intro F3 H3 A3
  have c4 := c3.aft nO A3
  split at h
  · rename_i eb
    rw [if_pos eb]
    refine hee F3 b.2 σ3 H3 _ c4.s.fr ((wpo_bind.mp h).mono fun z _ h => ?_)
    intro v F4 H4 A4 R4
    have h := wpo_bind.mp h
    cases ef : frz1 z.2 z.1 with
    | none => rw [ef] at h; exact h.elim
    | some y =>
      rw [ef] at h
      obtain ⟨F5, A5, s5, r5, _⟩ := frz1_ok c4.s.fr A4 R4 ef
      have c5 := c4.aft nO A5
      have h : wpo ((goComp mg1 mt1 me vs1 r (kill vs1 y.2)).bind fun z => some (y.1 :: z.1, z.2)) C := h
      have h := wpo_bind.mp h
      have hl : acc.length < sizeLine := by
        rw [c.r.length]
        cases q : goComp mg1 mt1 me vs1 r (kill vs1 y.2) with
        | none => rw [q] at h; exact h.elim
        | some u =>
          rw [q] at h
          have := hC _ h
          simp only [List.length_append, List.length_cons] at this
          omega
      refine ⟨acc, c5.hT, hl, ?_⟩
      have c6 := (c5.push nO eT r5).wiped (ws := vs1) he0 hw
      rw [ew] at c6
      exact fin (kill vs1 y.2) F5 _ _ [y.1] (A3.tr.sub.trans A5.tr.sub) c6 (h.mono fun u _ q => q)
  · rename_i eb
    rw [if_neg eb]
    have c6 := c4.wiped (ws := vs1) he0 hw
    rw [ew] at c6
    exact fin (kill vs1 b.2) F3 H3 acc [] A3.tr.sub (by rw [List.append_nil]; exact c6) (h.mono fun u _ q => q)
theorem walk_in {ts1 vs1 : List Nat} {wi1 : TI} {g1 : TG} {tt1 : TT} {te : TE} {mi1 : IM} {mg1 : GM} {mt1 : TM} {me : EM} (hi : SimI k wi1 mi1) (hg : SimG k [] ts1 g1 mg1) (ht : SimT k tt1 mt1) (hee : SimE k te me) (hv : ∀ t ∈ ts1, t ∈ vs1) (hw : ∀ i ∈ vs1, ∀ x, ρ0[i]? ≠ some (some x)) {ρ : Rho} {σ2 : L2.St} {F H : Hp} {acc : List V} {ds : List D} {N : Hp → Prop} {C : List D × Rho → Prop}
    (c : CJ k e O ρ0 ρ σ2 F H T acc ds) (h : wpo (mi1 ρ) fun a => wpo (goComp mg1 mt1 me vs1 a.1 (kill vs1 a.2)) C) (hC : ∀ z, C z → (ds ++ z.1).length ≤ sizeLine)
    (fin : ∀ F' H' acc' z, C z → CJ k e O ρ0 z.2 (wipe σ2 vs1) F' H' T acc' (ds ++ z.1) → N H') :
    wi1 σ2 H fun J1 H4 => ∃ W1 : Nat → Nat → Hp → Prop, (∃ m, W1 0 m H4) ∧ ∀ j k H, W1 j k H →
      (J1.stop j H ∧ N H) ∨ (J1.go j H ∧ ∃ Nx1 : Hp → Prop, (∀ H', Nx1 H' → ∃ k', k' < k ∧ W1 (j + 1) k' H') ∧ ∀ x H', J1.yld j H x H' → g1 x (wipe σ2 vs1) H' fun σ3 H5 => wipe σ3 vs1 = wipe σ2 vs1 ∧ tt1 σ3 H5 fun b H6 =>
        if b = true then te σ3 H6 fun y H7 => ∃ acc, H7 T = some (.lst acc) ∧ acc.length < sizeLine ∧ Nx1 (upd H7 T (.lst (acc ++ [y]))) else Nx1 H6) := by
  refine hi F ρ σ2 H _ c.s.fr (h.mono fun a _ h => ?_)
  intro J F1 H1 A1 W
  obtain ⟨G, Y, w, hG, hY⟩ := W.w
  have c1 := (c.aft nO A1).wiped (ws := vs1) he0 hw
  refine lc_in w (fun i H => ∃ ρ F acc zs, Sub F1 F ∧ CJ k e O ρ0 ρ (wipe σ2 vs1) F H T acc (ds ++ zs) ∧ wpo (goComp mg1 mt1 me vs1 (a.1.drop i) ρ) (fun z => C (zs ++ z.1, z.2))) ?_ ?_ ?_ ?_
  · exact ⟨_, F1, acc, [], Sub.refl _, by rw [List.append_nil]; exact c1, h.mono fun z _ q => q⟩
  · rintro i H hi ⟨ρ', F', acc', zs, sb, c', _⟩
    exact hG F' H sb c'.s.fr.sub
  · rintro i x H H' hi ⟨ρ', F', acc', zs, sb, c', h⟩ y
    have e1 : a.1[i]? = some a.1[i] := List.getElem?_eq_getElem hi
    rw [List.drop_eq_getElem_cons hi] at h
    have go : ∀ F2 H2, Sub F1 F2 → CJ k e O ρ0 ρ' (wipe σ2 vs1) F2 H2 T acc' (ds ++ zs) → Rep k F2 x a.1[i] → _ := fun F2 H2 sb2 c2 rp =>
      turn_in he0 nO eT hg ht hee hv hw (N := fun H => ∃ ρ F acc zs, Sub F1 F ∧ CJ k e O ρ0 ρ (wipe σ2 vs1) F H T acc (ds ++ zs) ∧ wpo (goComp mg1 mt1 me vs1 (a.1.drop (i + 1)) ρ) (fun z => C (zs ++ z.1, z.2))) c2 rp h
        (fun z q => by have := hC _ q; simpa [List.append_assoc] using this) fun ρ4 F4 H4 acc4 zs4 sb4 c4 h4 => ⟨ρ4, F4, acc4, zs ++ zs4, sb2.trans sb4, by rw [← List.append_assoc]; exact c4, h4.mono fun u _ q => by
          have : (zs ++ zs4) ++ u.1 = zs ++ (zs4 ++ u.1) := List.append_assoc ..
          rw [this]; exact q⟩
    obtain ⟨F2, A2, rp⟩ := (hY i _ F' H x H' e1 sb c'.s.fr.sub y).aft c'.s.fr
    exact go F2 H' (sb.trans A2.tr.sub) (c'.aft nO A2) rp
  · rintro H' ⟨ρ', F', acc', zs, sb, c', h⟩
    rw [List.drop_length] at h
    have h : C (zs ++ [], ρ') := h
    rw [List.append_nil] at h
    exact fin F' H' acc' (zs, ρ') h c'
end
theorem wipe_sub {σ : L2.St} {vs vs1 : List Nat} (h : ∀ i ∈ vs1, i ∈ vs) : wipe (wipe σ vs1) vs = wipe σ vs := by
  apply List.ext_getElem?
  intro i
  by_cases hi : i ∈ vs
  · rw [wipe_in hi, wipe_in hi, wipe_length]
  · rw [wipe_ne hi, wipe_ne hi, wipe_ne fun z => hi (h i z)]
theorem simComp2_at {k : Kx} {ts ts1 vs vs1 : List Nat} {wi wi1 : TI} {g g1 : TG} {tt tt1 : TT} {te : TE} {mi mi1 : IM} {mg mg1 : GM} {mt mt1 : TM} {me : EM} (hg : SimG k [] ts g mg) (ht : SimT k tt mt) (hi1 : SimI k wi1 mi1) (hg1 : SimG k [] ts1 g1 mg1) (ht1 : SimT k tt1 mt1) (he : SimE k te me) (hv : ∀ t ∈ ts, t ∈ vs) (hv1 : ∀ t ∈ ts1, t ∈ vs1) (hvv : ∀ i ∈ vs1, i ∈ vs) {F : Hp} {ρ : Rho} {σ : L2.St} {H : Hp} {Q : VK} (f : FR k F ρ σ H)
    (hi : ∀ R : It → Hp → Prop, wpo (mi ρ) (fun x => ∀ J F' H', Aft k ρ σ F H x.2 F' H' → WalkL k J F' H' x.1 → R J H') → wi σ H R)
    (h : wpo (evComp2 mi mg mt mi1 mg1 mt1 me vs vs1 ρ) (fun x => ∀ v F' H', Aft k ρ σ F H x.2 F' H' → RR k H F' x.2 σ H' x.1 v → Q v H')) : tLc2 wi g tt wi1 g1 tt1 te vs vs1 σ H Q := by
  unfold evComp2 at h
  refine hi _ ((wpo_bind.mp h).mono fun a _ h => ?_)
  intro J F1 H1 A1 W T hT
  obtain ⟨G, Y, w, hG, hY⟩ := W.w
  let e : Ent := ⟨F1, H1, Own (kill vs a.2) (wipe σ vs), []⟩
  have s0 : SInv k e (kill vs a.2) (wipe σ vs) F1 H1 := ⟨A1.fr.wiped, Tr.refl, fun p z => .inl z, fun q hq => by cases hq⟩
  have nT : F1 T = none := A1.fr.sub.none_of hT
  have eT : e.H T = none := hT
  have nO : ¬ Own (kill vs a.2) (wipe σ vs) T := fun z => by
    obtain ⟨u, hu⟩ := s0.fr.own_some z
    rw [hT] at hu; cases hu
  have hw : ∀ i ∈ vs, ∀ x, (kill vs a.2)[i]? ≠ some (some x) := fun i hi x q => (kill_get q).2 hi
  have lk : ∀ {ρ' : Rho} {F' H' : Hp}, SInv k e ρ' (wipe σ vs) F' H' → LkK F1 H1 H' := fun {ρ' F' H'} s' b od u h1 h2 => s'.tr.keep b _ h2 trivial fun z => h1 (s0.fr.own_none z)
  let C : List D → List D × Rho → Prop := fun ds z => (ds ++ z.1).length ≤ sizeLine ∧ ∀ v F' H', Aft k ρ σ F H (restore vs a.2 z.2) F' H' → RR k H F' (restore vs a.2 z.2) σ H' (.sv (.own (.lst (ds ++ z.1)))) v → Q v H'
  let Pv : Nat → Hp → Prop := fun i H => ∃ ρ F acc ds, CJ k e (Own (kill vs a.2) (wipe σ vs)) (kill vs a.2) ρ (wipe σ vs) F H T acc ds ∧ wpo (goComp2 mg mt mi1 mg1 mt1 me vs vs1 (a.1.drop i) ρ) (C ds)
  have P0 : Pv 0 (upd H1 T (.lst [])) := by
    refine ⟨kill vs a.2, F1, [], [], ⟨s0.temp hT nT nO (ntc_none hT), fun p z => z, fun i x q => ⟨x, q⟩, upd_same, nT, .nil⟩, (wpo_bind.mp h).mono fun z _ h => ?_⟩
    split at h
    · rename_i hz
      exact ⟨hz, fun v F' H' A R => h v F' H' A R⟩
    · exact h.elim
  refine ⟨fun i m H => m = a.1.length - i ∧ i ≤ a.1.length ∧ Pv i H, ⟨a.1.length, by simp, Nat.zero_le _, P0⟩, ?_⟩
  rintro i m H ⟨rfl, hin, ρ', F', acc, ds, c, h⟩
  have q := hG F' H c.s.tr.sub c.s.fr.sub (lk c.s)
  by_cases hlt : i < a.1.length
  · refine .inr ⟨w.goes i H hlt q, Pv (i + 1), fun H' p' => ⟨a.1.length - (i + 1), by omega, rfl, hlt, p'⟩, fun x H' y => ?_⟩
    have y := w.yields i H x H' hlt q y
    have e1 : a.1[i]? = some a.1[i] := List.getElem?_eq_getElem hlt
    rw [List.drop_eq_getElem_cons hlt] at h
    unfold goComp2 at h
    have go : ∀ F2 H2, CJ k e (Own (kill vs a.2) (wipe σ vs)) (kill vs a.2) ρ' (wipe σ vs) F2 H2 T acc ds → Rep k F2 x a.1[i] → g x (wipe σ vs) H2 fun σ2 H2 => wipe σ2 vs = wipe σ vs ∧ tt σ2 H2 fun b H3 =>
    if b = true then wi1 σ2 H3 fun J1 H4 => ∃ W1 : Nat → Nat → Hp → Prop, (∃ m, W1 0 m H4) ∧ ∀ j k H, W1 j k H →
      (J1.stop j H ∧ Pv (i + 1) H) ∨ (J1.go j H ∧ ∃ Nx1 : Hp → Prop, (∀ H', Nx1 H' → ∃ k', k' < k ∧ W1 (j + 1) k' H') ∧ ∀ x H', J1.yld j H x H' → g1 x (wipe σ2 vs1) H' fun σ3 H5 => wipe σ3 vs1 = wipe σ2 vs1 ∧ tt1 σ3 H5 fun b H6 =>
        if b = true then te σ3 H6 fun y H7 => ∃ acc, H7 T = some (.lst acc) ∧ acc.length < sizeLine ∧ Nx1 (upd H7 T (.lst (acc ++ [y]))) else Nx1 H6)
    else Pv (i + 1) H3 := by
      intro F2 H2 c rp
      refine hg e ρ' (wipe σ vs) F2 H2 x _ _ (fun q hq => by cases hq) c.s rp ((wpo_bind.mp h).mono fun ρ1 _ h => ?_)
      intro σ3 s3 ag ow3 sl3
      have ew : wipe σ3 vs = wipe σ vs := (wipe_agr ag hv).trans wipe_wipe
      have c3 := c.target s3 ow3 sl3
      refine ⟨ew, ht F2 ρ1 σ3 H2 _ s3.fr ((wpo_bind.mp h).mono fun b _ h => ?_)⟩
      intro F3 H3 A3
      have c4 := c3.aft nO A3
      split at h
      · rename_i eb
        rw [if_pos eb]
        refine walk_in (k := k) (e := e) rfl nO eT hi1 hg1 ht1 he hv1 (fun i hi => hw i (hvv i hi)) c4 (C := fun z => wpo (goComp2 mg mt mi1 mg1 mt1 me vs vs1 (a.1.drop (i + 1)) (kill vs z.2)) (C (ds ++ z.1))) ((wpo_bind.mp h).mono fun u _ h => (wpo_bind.mp h).mono fun z _ h => (wpo_bind.mp h).mono fun v _ h => ?_) (fun z hz => ?_) fun F' H' acc' z hz cz => ?_
        · obtain ⟨h1, h2⟩ := h
          exact ⟨by simpa [List.append_assoc] using h1, fun v F' H' A R => h2 v F' H' A (by rw [List.append_assoc] at R; exact R)⟩
        · cases q : goComp2 mg mt mi1 mg1 mt1 me vs vs1 (a.1.drop (i + 1)) (kill vs z.2) with
          | none => rw [q] at hz; exact hz.elim
          | some u =>
            rw [q] at hz
            have := hz.1
            simp only [List.length_append] at this ⊢
            omega
        · have c6 := cz.wiped (ws := vs) rfl hw
          rw [wipe_sub hvv, ew] at c6
          exact ⟨kill vs z.2, F', acc', _, c6, hz⟩
      · rename_i eb
        rw [if_neg eb]
        have c6 := c4.wiped (ws := vs) rfl hw
        rw [ew] at c6
        exact ⟨kill vs b.2, F3, acc, ds, c6, h⟩
    obtain ⟨F2, A2, rp⟩ := (hY i _ F' H x H' e1 c.s.tr.sub c.s.fr.sub (lk c.s) y).aft c.s.fr
    exact go F2 H' (c.aft nO A2) rp
  · have ei : i = a.1.length := by omega
    subst ei
    rw [List.drop_length] at h
    have h : C ds ([], ρ') := h
    refine .inl ⟨w.stops H q, h.2 _ F' H ?_ ?_⟩
    · refine A1.trans ⟨FR.restored A1.fr c.s.tr c.ow c.s.fr, ⟨c.s.tr.sub, fun p o q mt nI => c.s.tr.keep p o q mt fun z => nI z.wiped, fun p o q m f nI => c.s.tr.new p o q m f fun z => nI z.wiped, c.s.tr.there⟩, fun p z => z.restored c.ow, fun i s q => ?_⟩
      by_cases hi : i ∈ vs
      · refine ⟨s, restore_in q ?_ (.inl hi)⟩
        have l1 := (List.getElem?_eq_some_iff.mp q).1
        have l2 := c.s.fr.len
        rw [wipe_length] at l2
        show i < ρ'.length
        have l3 := A1.fr.len
        omega
      · obtain ⟨x', q'⟩ := c.sl i s (by rw [kill_out hi]; exact q)
        exact ⟨x', by rw [restore_out hi]; exact q'⟩
    · exact ⟨T, _, rfl, A1.none_of hT, c.hT, c.fT, acc, rfl, by rw [List.append_nil]; exact c.r⟩
theorem simComp2 {k : Kx} {ts ts1 vs vs1 : List Nat} {wi wi1 : TI} {g g1 : TG} {tt tt1 : TT} {te : TE} {mi mi1 : IM} {mg mg1 : GM} {mt mt1 : TM} {me : EM} (hi : SimI k wi mi) (hg : SimG k [] ts g mg) (ht : SimT k tt mt) (hi1 : SimI k wi1 mi1) (hg1 : SimG k [] ts1 g1 mg1) (ht1 : SimT k tt1 mt1) (he : SimE k te me) (hv : ∀ t ∈ ts, t ∈ vs) (hv1 : ∀ t ∈ ts1, t ∈ vs1) (hvv : ∀ i ∈ vs1, i ∈ vs) :
    SimE k (tLc2 wi g tt wi1 g1 tt1 te vs vs1) (evComp2 mi mg mt mi1 mg1 mt1 me vs vs1) := fun F ρ σ H Q f h => simComp2_at hg ht hi1 hg1 ht1 he hv hv1 hvv f (fun R q => hi F ρ σ H R f (q.mono fun x _ q J F1 H1 A W => q J F1 H1 A W.l)) h
section
variable {X : Cx} {CT : CTab} {pos : Pos} {e tg it tg1 it1 : Expr} {mi mi1 : IM} {mg mg1 : GM} {mt mt1 : TM} {me : EM} {P ts ts1 vs vs1 : List Nat} {Wx : Option WX}
def cI (k : Kx) (m : IM) : TI := fun σ H R => ∃ F ρ, FR k F ρ σ H ∧ wpo (m ρ) (fun x => ∀ J F' H', Aft k ρ σ F H x.2 F' H' → WalkD k J F' x.1 → R J H')
theorem cI_sim {k : Kx} {m : IM} : SimI k (cI k m) m := fun F ρ σ H R f h => ⟨F, ρ, f, h⟩
theorem cI_pi {k : Kx} {X : Cx} {tg it : Expr} {m : IM} (h : ∃ w, PI X tg it w ∧ SimI k w m) : PI X tg it (cI k m) := by
  obtain ⟨te, p, s⟩ := h
  exact ⟨fun pins sh σ H R I ⟨F, ρ, f, q⟩ => p.run pins sh σ H R I (s F ρ σ H R f q)⟩
theorem nComp2 {scope : Scope} {ifs ifs1 : List Expr} (own : List (Str × Nat)) (hc : X.calm = true) (hN : X.N.Nodup) (ok : BlkOk X.N X.env.scope scope own) (hi : NI X CT tg it mi) (hg : Blk X scope fun Y => NG Y CT [] ts tg mg) (ht : Blk X scope fun Y => NTs Y CT ifs mt) (hi1 : Blk X scope fun Y => NI Y CT tg1 it1 mi1) (hg1 : Blk X scope fun Y => NG Y CT [] ts1 tg1 mg1) (ht1 : Blk X scope fun Y => NTs Y CT ifs1 mt1) (he : Blk X scope fun Y => NE Y CT e me)
    (hv : ∀ t ∈ ts, t ∈ own.map (·.2) := by decide) (hv1 : ∀ t ∈ ts1, t ∈ vs1 := by decide) (hvv : ∀ t ∈ vs1, t ∈ own.map (·.2) := by decide) (hs : ∀ x, foldedSetIterable it X.env x = pure x := by intro _; rfl) (hs1 : ∀ env x, foldedSetIterable it1 env x = pure x := by intro _ _; rfl) (hvs : own.map (·.2) = vs := by rfl) :
    NE X CT (.ListComp e [⟨tg, it, ifs, 0⟩, ⟨tg1, it1, ifs1, 0⟩] scope pos) (evComp2 mi mg mt mi1 mg1 mt1 me vs vs1) := by
  obtain ⟨_, p1, s1⟩ := hi
  subst hvs
  exact ⟨_, pe_lc2 hc hN p1 ok hvv (fun s H C cl fp => cG_of (k := kx X CT) (hg s H C cl fp)) (fun s H C cl fp => cT_of (k := kx X CT) (ht s H C cl fp)) (fun s H C cl fp => cI_pi (k := kx X CT) (hi1 s H C cl fp)) (fun s H C cl fp => cG_of (k := kx X CT) (hg1 s H C cl fp)) (fun s H C cl fp => cT_of (k := kx X CT) (ht1 s H C cl fp)) (fun s H C cl fp => cE_of (k := kx X CT) (he s H C cl fp)) hs hs1,
    simComp2 s1 cG_sim cT_sim cI_sim cG_sim cT_sim cE_sim hv hv1 hvv⟩
end
end Pv

/-! Pvv: sorted(xs, key=f), f a def of one's own. -/
namespace Pv
open PySem PySem.Spec PySem.SeqAt L2 PySem.W PyProof.Rows
/-! the node -/
end Pv

/-! Pvw: set(tuple of ints). -/
namespace Pv
open PySem PySem.Spec PySem.SeqAt L2
open PyProof.Rows (IntsAre)
section
variable {P : Program} {w : World} {A : Around} {E : Value → Shared → Prop} {s : Shared}
end
section
variable {X : Cx} {CT : CTab} {pos p : Pos} {e : Expr} {mr : AM}
end
end Pv

/-! Pvx: things repeated. -/
namespace Pv
open PySem PySem.Spec PySem.SeqAt L2
def repOk (xs : List D) (k : Int) : Bool := decide (xs ≠ []) && Nat.ble 2 k.toNat && Nat.ble k.toNat 1000 && Nat.ble xs.length 1000
def repOkL (xs : List D) (k : Int) : Bool := decide (0 ≤ k) && Nat.ble k.toNat 1000 && Nat.ble xs.length 1000
def gMulA : D → D → Option SV
  | .tuple xs, .int k => if repOk xs k = true then some (.val (.tuple (List.replicate k.toNat xs).flatten)) else none
  | .list xs, .int k => if repOkL xs k = true then some (.own (.lst (List.replicate k.toNat xs).flatten)) else none
  | x, y => gMulI x y
theorem gMulA_int (i j : Int) : gMulA (.int i) (.int j) = gMulI (.int i) (.int j) := rfl
theorem repOk_ok {xs : List D} {k : Int} (h : repOk xs k = true) : xs ≠ [] ∧ 2 ≤ k ∧ k ≤ 1000 ∧ xs.length ≤ 1000 := by
  simp only [repOk, Bool.and_eq_true, decide_eq_true_eq, Nat.ble_eq] at h
  obtain ⟨⟨⟨h1, h2⟩, h3⟩, h4⟩ := h
  exact ⟨h1, by omega, by omega, h4⟩
theorem repOkL_ok {xs : List D} {k : Int} (h : repOkL xs k = true) : 0 ≤ k ∧ k ≤ 1000 ∧ xs.length ≤ 1000 := by
  simp only [repOkL, Bool.and_eq_true, decide_eq_true_eq, Nat.ble_eq] at h
  obtain ⟨⟨h2, h3⟩, h4⟩ := h
  exact ⟨h2, by omega, h4⟩
def rMulA (K : PySem.W.Frag) : R2 := fun x y H Q => (rI CMul (fun i j => .int (i * j)) x y H Q ∨ rRepT K x y H Q) ∨ rRep x y H Q
theorem op_mulA {X : Cx} : OpR X (binaryOp .Mult) (rMulA X.K) := (op_mul.or op_repT).or op_rep
theorem RepL.rep {k : Kx} {F : Hp} {vs : List V} {ds : List D} (h : RepL k F vs ds) : ∀ n, RepL k F (List.replicate n vs).flatten (List.replicate n ds).flatten
  | 0 => .nil
  | n + 1 => by
    rw [List.replicate_succ, List.replicate_succ, List.flatten_cons, List.flatten_cons]
    exact h.append (RepL.rep h n)
theorem simMulA {k : Kx} : OpSim k (rMulA k.K) gMulA := by
  intro F ρ σ H x y dx dy Q f rx ry h
  unfold gMulA at h
  split at h
  · rename_i xs i
    split at h
    · rename_i hz
      obtain ⟨z1, z2, z3, z4⟩ := repOk_ok hz
      obtain ⟨a, vs, rfl, ha', ha, ra⟩ := rx.tup f.sub
      refine .inl (.inr ⟨a, _, vs, rfl, ry.int, ha, fun e => ?_, z2, z3, by rw [ra.length]; exact z4, fun p hp => ?_⟩)
      · subst e; cases ra; exact z1 rfl
      · exact h _ _ _ (Aft.newF f hp) (Rep.tup upd_same ((ra.rep _).mono (Sub.upd (f.sub.none_of hp))))
    · exact h.elim
  · rename_i xs i
    split at h
    · rename_i hz
      obtain ⟨z2, z3, z4⟩ := repOkL_ok hz
      obtain ⟨a, vs, rfl, ha, ra⟩ := rx.lst f.sub
      refine .inr ⟨a, _, vs, rfl, ry.int, ha, by omega, by omega, ?_, fun p hp => ?_⟩
      · rw [ra.length]
        have := Nat.mul_le_mul z4 (show i.toNat ≤ 1000 by omega)
        exact Nat.le_trans this (by decide)
      · exact h _ F _ (Aft.newO f hp) ⟨p, _, rfl, hp, upd_same, f.sub.none_of hp, _, rfl, ra.rep _⟩
    · exact h.elim
  · exact .inl (.inl (simMulI F ρ σ H x y _ _ Q f rx ry h))
section
variable {X : Cx} {CT : CTab} {a b : Expr} {ma mb : EM}
theorem nMulA {pos} : NE X CT a ma → NE X CT b mb → NE X CT (.BinOp a .Mult b pos) (evBin gMulA ma mb) := fun ⟨_, pa, sa⟩ ⟨_, pb, sb⟩ => ⟨_, pe_op op_mulA pa pb, simBin (k := kx X CT) simMulA sa sb⟩
end
end Pv

/-! Pw1: zip of two lists or of two tuples. -/
namespace Pv
open PySem PySem.Spec PySem.SeqAt L2 RZ
section
variable {X : Cx} {CT : CTab} {pos p : Pos} {a b : Expr} {mr : AM}
end
end Pv

/-! Pw2: a list goes from one name to another. -/
namespace Pv
open PySem PySem.Spec PySem.SeqAt L2
section
variable {X : Cx} {CT : CTab} {P : List Nat} {Wx : Option WX} {e : Expr} {pos : Pos}
end
end Pv

/-! Pw3: tuples taken once, or not at all. -/
namespace Pv
open PySem PySem.Spec PySem.SeqAt L2 PyProof.Rows
end Pv
namespace Pv
open PySem PySem.Spec PySem.SeqAt L2 PyProof.Rows
section
variable {X : Cx}
end
section
variable {X : Cx} {CT : CTab} {a b : Expr} {ma mb : EM}
end
end Pv

/-! Pw4: properties that tell a field. -/
namespace Pv
open PySem PySem.Spec PySem.SeqAt L2
def propD (fn : FNs) (c : Int) (f : Str) : D → Option SV
  | .dict [(.none, .int c'), (.none, .tuple fs)] => if c' = c then (((fn c').zip fs).lookup f).map SV.val else none
  | _ => none
theorem simProp {k : Kx} {fn : FNs} (ok : FldOk k fn) {c : Int} {C : Addr} {ns : List Str} (hC : k.CT c = some (C, ns)) {f : Str} {E : XK} {te : TE} {me : EM} (he : SimE k te me) : SimE k (tProp C (getSp C f) [] E te) (evUn (propD fn c f) me) := by
  have one : UnSim k (fun x H Q => ∃ a dx fs, x = .ref a ∧ H a = some (.ins C dx fs) ∧ getSp C f [.ref a] H Q E) (propD fn c f) := by
    intro F ρ σ H x d Q fr r h
    unfold propD at h
    split at h
    · rename_i c' fs
      split at h
      · rename_i ec
        subst ec
        obtain ⟨a, dx, C', ns', vs, rfl, q1, q2, q3, q4⟩ := r.obj fr.sub
        have q1' := q1
        rw [hC] at q1'
        cases q1'
        have en := ok.ns c' C ns q1
        subst en
        cases e : ((fn c').zip fs).lookup f with
        | none => rw [e] at h; exact h.elim
        | some d =>
          rw [e] at h
          obtain ⟨h1, v, h2, h3⟩ := lookup_zip q3 e
          exact ⟨a, dx, _, rfl, q2, a, dx, _, v, rfl, q2, h2, h v F H (Aft.refl fr) h3⟩
      · exact h.elim
    · exact h.elim
  intro F ρ σ H Q fr h
  exact simUn one he F ρ σ H Q fr h
section
variable {X : Cx} {a : Expr} {ma : EM} {pos : Pos}
theorem nProp {cs : ClsT} {T0 : List NdefX.NTab} {nf0 : Option (Addr → NdefX.NF)} (ex : exK cs X.K = true) (hc : clsB cs = true) (c : Int) {q : ClE} {f fld : Str} (hr : Room 2 X.A) (ha : NE X (ctOf cs X.K T0 nf0) a ma) (e : clAt cs c = some q := by rfl) (hz : (f, fld) ∈ q.pr := by decide) (hb : attributeBase a f X.env (eval a X.env) = eval a X.env := by rfl) : NE X (ctOf cs X.K T0 nf0) (.Attribute a f pos) (evUn (propD (fnsOf cs) c fld) ma) := by
  obtain ⟨_, pa, sa⟩ := ha
  obtain ⟨h1, h2, h3⟩ := exK_prop ex e hz
  obtain ⟨p, g, oc, od, fd, osl, h4, h5, h6⟩ := propB_ok h3
  obtain ⟨F, B⟩ := getter_ok (P := X.prog) (w := X.w) (mg := X.mg) (base := X.base) (k := 0) h5 h6 h1 h2
  exact ⟨_, pe_prop pa h1 h4 F hr B .nil pass0 hb, simProp (k := kx X (ctOf cs X.K T0 nf0)) (exK_fld ex hc) (ns := q.2) (by simp only [kx, ctOf, e]; rfl) sa⟩
end
end Pv

/-! Pw5: a value is frozen where it is made. -/
namespace Pv
open PySem PySem.Spec PySem.SeqAt L2
end Pv

/-! Pw6: list(range(a, b)). -/
namespace Pv
open PySem PySem.Spec PySem.SeqAt L2
section
variable {X : Cx} {CT : CTab} {a b : Expr} {ma mb : EM} {p pos : Pos}
end
end Pv

/-! Pw7: l.index(n), of ints. -/
namespace Pv
open PySem PySem.Spec PySem.SeqAt L2
section
variable {X : Cx} {CT : CTab} {e : Expr} {mr : AM} {p pos : Pos}
end
end Pv

/-! Pw8: the truth of a list or a tuple. -/
namespace Pv
open PySem PySem.Spec PySem.SeqAt L2
def toT : D → Option Bool
  | .list xs => some (!xs.isEmpty)
  | .tuple xs => some (!xs.isEmpty)
  | _ => none
def tvT (ma : EM) : TM := fun ρ => (ma ρ).bind fun a => (rdD a.2 a.1).bind fun d => (toT d).bind fun b => some (b, a.2)
theorem repL_empty {k : Kx} {F : Hp} {ws : List V} {xs : List D} (h : RepL k F ws xs) : xs.isEmpty = ws.isEmpty := by cases h <;> rfl
theorem simTvT {k : Kx} {ta : TE} {ma : EM} (ha : SimE k ta ma) : SimT k (fun σ H Q => ta σ H fun x H' => ∃ b, TruV k.K x H' b ∧ Q b H') (tvT ma) := by
  intro F ρ σ H Q f h
  unfold tvT at h
  refine ha F ρ σ H _ f ((wpo_bind.mp h).mono fun a _ h => ?_)
  intro v F1 H1 A1 R1
  have h := wpo_bind.mp h
  cases e1 : rdD a.2 a.1 with
  | none => rw [e1] at h; exact h.elim
  | some d =>
    rw [e1] at h
    have h := wpo_bind.mp h
    have rd := R1.rd A1.fr e1
    cases e2 : toT d with
    | none => rw [e2] at h; exact h.elim
    | some b =>
      rw [e2] at h
      refine ⟨b, ?_, h F1 H1 A1⟩
      unfold toT at e2
      split at e2
      · cases e2
        obtain ⟨p, vs, rfl, hs, ra⟩ := rd.lst A1.fr.sub
        exact .inl ⟨vs, SqL.of hs, by rw [repL_empty ra]⟩
      · cases e2
        obtain ⟨p, vs, rfl, _, hs, ra⟩ := rd.tup A1.fr.sub
        exact .inr (.inl ⟨vs, hs, by rw [repL_empty ra]⟩)
      · cases e2
section
variable {X : Cx} {CT : CTab} {a : Expr} {ma : EM}
theorem qTruth (h : NE X CT a ma) (he : ∀ whole, isTrue a X.env whole = (do let v ← whole; standAt a.pos; holding [v] (truthy v)) := by intro _; rfl) : NT X CT a (tvT ma) := by
  obtain ⟨_, pa, sa⟩ := h
  exact ⟨_, pt_truth pa he, simTvT (k := kx X CT) sa⟩
end
end Pv

/-! Pw9: l.insert(i, x). -/
namespace Pv
open PySem PySem.Spec PySem.SeqAt L2
section
variable {X : Cx} {CT : CTab} {e f : Expr} {mr : AM} {p pos : Pos}
end
end Pv

/-! PwA: dicts whose keys are tuples of ints, or ints. -/
namespace Pv
open PySem PySem.Spec PySem.SeqAt L2
def intsOf : List D → Option (List Int)
  | [] => some []
  | .int i :: r => (intsOf r).map (i :: ·)
  | _ => none
def decK : List D → Option (List (List Int))
  | [] => some []
  | .tuple xs :: r => (intsOf xs).bind fun k => (decK r).map (k :: ·)
  | _ => none
theorem intsOf_map : ∀ k : List Int, intsOf (k.map .int) = some k
  | [] => rfl
  | i :: r => by simp [intsOf, intsOf_map r]
theorem decK_map : ∀ ks : List (List Int), decK (ks.map fun k => .tuple (k.map .int)) = some ks
  | [] => rfl
  | k :: r => by simp [decK, intsOf_map, decK_map r]
theorem intsOf_eq : ∀ {xs : List D} {k : List Int}, intsOf xs = some k → xs = k.map .int
  | [], k, h => by simp [intsOf] at h; subst h; rfl
  | d :: r, k, h => by
    cases d with
    | int i =>
      simp only [intsOf, Option.map_eq_some_iff] at h
      obtain ⟨k', h1, rfl⟩ := h
      rw [intsOf_eq h1]; rfl
    | _ => simp [intsOf] at h
def keyOf (t : Bool) (d : D) : Option (List Int) := match t, d with
  | true, .tuple xs => intsOf xs
  | false, .int i => some [i]
  | _, _ => none
def valD : List (List Int) → List D → List Int → Option D
  | k :: ks, d :: ds, x => if k = x then some d else valD ks ds x
  | _, _, _ => none
def replD {α : Type} : List (List Int) → List α → List Int → α → List α
  | k :: ks, d :: ds, x, e => (if k = x then e else d) :: replD ks ds x e
  | _, _, _, _ => []
def putKD (ks : List (List Int)) (ds : List D) (x : List Int) (e : D) : List (List Int) × List D := if ks.contains x = true then (ks, replD ks ds x e) else (ks ++ [x], ds ++ [e])
theorem tKey_inj {a b : List Int} (h : tKey a = tKey b) : a = b := by
  unfold tKey at h
  exact List.map_inj_right (fun _ _ z => Sum.inl.inj z) |>.mp h
theorem repInts {k : Kx} {F : Hp} : ∀ {vs : List V} {x : List Int}, RepL k F vs (x.map .int) → vs = (tKey x).map kV
  | _, [], .nil => rfl
  | _, i :: r, .cons a b => by
    cases a
    rw [repInts b]; rfl
theorem RdR.dct {k : Kx} {F H : Hp} {v : V} {t : Bool} {kd ds : List D} (s : Sub F H) (h : RdR k F H v (.dict [(.bool false, .tuple [.bool t, .list kd, .list ds])])) : ∃ a ks vs, v = .ref a ∧ kd = ks.map (fun k => (PyData.tuple (k.map .int) : D)) ∧ Rd H a (hoD t ks vs) ∧ ks.length = vs.length ∧ RepL k F vs ds := by
  rcases h with h | ⟨q, o, ho, rfl, h1, h2, e⟩
  · cases h with
    | dct h hl r => exact ⟨_, _, _, rfl, rfl, s.rd h rdK_hoD, hl, r⟩
  · cases o with
    | lst ys => cases e
    | ins c fs => cases e
    | dct t' ks ds' =>
      cases e
      obtain ⟨vs, rfl, hl, r⟩ := h2
      exact ⟨q, ks, vs, rfl, rfl, .inl h1, hl, r⟩
    | dcn ks ds => cases e
theorem valT_ok {k : Kx} {F : Hp} (x : List Int) : ∀ {ks : List (List Int)} {vs : List V} {ds : List D}, ks.length = vs.length → RepL k F vs ds → match valD ks ds x with
    | some d => ∃ v, valV ((ks.map tKey).zip vs) (tKey x) = some v ∧ Rep k F v d
    | none => valV ((ks.map tKey).zip vs) (tKey x) = none
  | [], [], _, _, .nil => rfl
  | y :: ks, v :: vs, d :: ds, hl, .cons a b => by
    have ih := valT_ok x (ks := ks) (by simpa using hl) b
    simp only [valD]
    by_cases e : y = x
    · subst e
      rw [if_pos rfl]
      exact ⟨v, valV_pos rfl, a⟩
    · rw [if_neg e]
      have e2 : valV (((y :: ks).map tKey).zip (v :: vs)) (tKey x) = valV ((ks.map tKey).zip vs) (tKey x) := valV_neg (fun z => e (tKey_inj z))
      rw [e2]; exact ih
theorem valI_ok {k : Kx} {F : Hp} (x : Int) : ∀ {ks : List (List Int)} {vs : List V} {ds : List D}, (∀ y ∈ ks, y.length = 1) → ks.length = vs.length → RepL k F vs ds → match valD ks ds [x] with
    | some d => ∃ v, valV ((ks.map iKey).zip vs) (.inl x) = some v ∧ Rep k F v d
    | none => valV ((ks.map iKey).zip vs) (.inl x) = none
  | [], [], _, _, _, .nil => rfl
  | y :: ks, v :: vs, d :: ds, h1, hl, .cons a b => by
    have ih := valI_ok x (ks := ks) (fun z hz => h1 z (.tail _ hz)) (by simpa using hl) b
    obtain ⟨i, rfl⟩ : ∃ i, y = [i] := List.length_eq_one_iff.mp (h1 y (.head _))
    simp only [valD]
    by_cases e : i = x
    · subst e
      rw [if_pos rfl]
      exact ⟨v, valV_pos rfl, a⟩
    · rw [if_neg (by simpa using e)]
      have e2 : valV ((([i] :: ks).map iKey).zip (v :: vs)) (.inl x) = valV ((ks.map iKey).zip vs) (.inl x) := valV_neg (fun z => e (Sum.inl.inj z))
      rw [e2]; exact ih
theorem key_ok {k : Kx} {F H : Hp} {y : V} {dy : D} {t : Bool} {x : List Int} (s : Sub F H) (r : RdR k F H y dy) (h : keyOf t dy = some x) : (t = true ∧ ∃ b, y = .ref b ∧ H b = some (.tup ((tKey x).map kV))) ∨ (t = false ∧ ∃ i, x = [i] ∧ y = .int i) := by
  unfold keyOf at h
  split at h
  · rename_i xs
    obtain ⟨b, vs, rfl, hb, _, ra⟩ := r.tup s
    have e := intsOf_eq h
    subst e
    refine .inl ⟨rfl, b, rfl, ?_⟩
    rw [s.ex hb, repInts ra]
  · cases h
    exact .inr ⟨rfl, _, rfl, r.int⟩
  · cases h
theorem dgetK {H : Hp} {a : Addr} {kvs : List (Key × V)} {k : Key} (e : Rd H a (.dK kvs)) : DGet H a (kV k) (valV kvs k) := .inl ⟨kvs, k, e, rfl, rfl⟩
theorem dgetT {H : Hp} {a b : Addr} {kvs : List (List Key × V)} {k : List Key} (e : Rd H a (.dT kvs)) (eb : H b = some (.tup (k.map kV))) : DGet H a (.ref b) (valV kvs k) := .inr ⟨kvs, k, b, e, rfl, eb, rfl⟩
def oneB (t : Bool) (ks : List (List Int)) : Bool := t || ks.all fun k => decide (k.length = 1)
theorem get_ok {k : Kx} {F H : Hp} {a : Addr} {y : V} {dy : D} {t : Bool} {ks : List (List Int)} {vs : List V} {ds : List D} {x : List Int} (s : Sub F H) (ha : Rd H a (hoD t ks vs)) (hl : ks.length = vs.length) (ra : RepL k F vs ds) (ry : RdR k F H y dy) (hk : keyOf t dy = some x) (h1 : oneB t ks = true) :
    match valD ks ds x with
    | some d => ∃ v, DGet H a y (some v) ∧ Rep k F v d
    | none => DGet H a y none := by
  rcases key_ok s ry hk with ⟨rfl, b, rfl, hb⟩ | ⟨rfl, i, rfl, rfl⟩
  · have v := valT_ok x hl ra
    have ha' : Rd H a (.dT ((ks.map tKey).zip vs)) := ha
    cases e : valD ks ds x with
    | some d =>
      rw [e] at v
      obtain ⟨v, h2, h3⟩ := v
      exact ⟨v, by rw [← h2]; exact dgetT ha' hb, h3⟩
    | none =>
      rw [e] at v
      have v : valV ((ks.map tKey).zip vs) (tKey x) = none := v
      show DGet H a (.ref b) none
      rw [← v]; exact dgetT ha' hb
  · have h1 : ∀ y ∈ ks, y.length = 1 := by simpa [oneB] using h1
    have v := valI_ok i h1 hl ra
    have ha' : Rd H a (.dK ((ks.map iKey).zip vs)) := ha
    cases e : valD ks ds [i] with
    | some d =>
      rw [e] at v
      obtain ⟨v, h2, h3⟩ := v
      exact ⟨v, by rw [← h2]; exact dgetK (k := .inl i) ha', h3⟩
    | none =>
      rw [e] at v
      have v : valV ((ks.map iKey).zip vs) (.inl i) = none := v
      show DGet H a (.int i) none
      rw [← v]; exact dgetK (k := .inl i) ha'
def gDGet : D → D → Option SV
  | .dict [(.bool false, .tuple [.bool t, .list kd, .list ds])], y => (decK kd).bind fun ks => (keyOf t y).bind fun x => if oneB t ks = true then (valD ks ds x).map SV.val else none
  | _, _ => none
def rDGet : R2 := fun x y H Q => ∃ a v, x = .ref a ∧ DGet H a y (some v) ∧ Q v H
theorem simDGet {k : Kx} : OpSim k rDGet gDGet := by
  intro F ρ σ H x y dx dy Q f rx ry h
  unfold gDGet at h
  split at h
  · obtain ⟨a, ks, vs, rfl, rfl, ha, hl, ra⟩ := rx.dct f.sub
    rw [decK_map, Option.bind_some] at h
    have h := wpo_bind.mp h
    cases e : keyOf _ dy with
    | none => rw [e] at h; exact h.elim
    | some x =>
      rw [e] at h
      replace h : wpo (if oneB _ ks = true then _ else none) _ := h
      split at h
      · rename_i h1
        have g := get_ok f.sub ha hl ra ry e h1
        cases ev : valD ks _ x with
        | none => rw [ev] at h; exact h.elim
        | some d =>
          rw [ev] at h g
          obtain ⟨v, g1, g2⟩ := g
          exact ⟨a, v, rfl, g1, h v F H (Aft.refl f) g2⟩
      · exact h.elim
  · exact h.elim
def gDIn : D → D → Option SV
  | y, .dict [(.bool false, .tuple [.bool t, .list kd, .list ds])] => (decK kd).bind fun ks => (keyOf t y).bind fun x => if oneB t ks = true then some (.val (.bool (valD ks ds x).isSome)) else none
  | _, _ => none
def rDIn : R2 := fun y x H Q => ∃ a o, x = .ref a ∧ DGet H a y o ∧ Q (.bl o.isSome) H
theorem simDIn {k : Kx} : OpSim k rDIn gDIn := by
  intro F ρ σ H y x dy dx Q f ry rx h
  unfold gDIn at h
  split at h
  · obtain ⟨a, ks, vs, rfl, rfl, ha, hl, ra⟩ := rx.dct f.sub
    rw [decK_map, Option.bind_some] at h
    have h := wpo_bind.mp h
    cases e : keyOf _ _ with
    | none => rw [e] at h; exact h.elim
    | some x =>
      rw [e] at h
      replace h : wpo (if oneB _ ks = true then _ else none) _ := h
      split at h
      · rename_i h1
        have g := get_ok f.sub ha hl ra ry e h1
        cases ev : valD ks _ x with
        | none =>
          rw [ev] at h g
          exact ⟨a, none, rfl, g, h _ F H (Aft.refl f) (.bl _)⟩
        | some d =>
          rw [ev] at h g
          obtain ⟨v, g1, g2⟩ := g
          exact ⟨a, some v, rfl, g1, h _ F H (Aft.refl f) (.bl _)⟩
      · exact h.elim
  · exact h.elim
def evDNew (t : Bool) : EM := fun ρ => some (.sv (.own (.dct t [] [])), ρ)
theorem simDNewT {k : Kx} : SimE k tDNewT (evDNew true) := fun F ρ σ H Q f h p hp => h (.ref p) F _ (Aft.newO f hp) ⟨p, _, rfl, hp, upd_same, f.sub.none_of hp, [], rfl, rfl, .nil⟩
theorem simDNewK {k : Kx} : SimE k tDNewK (evDNew false) := fun F ρ σ H Q f h p hp => h (.ref p) F _ (Aft.newO f hp) ⟨p, _, rfl, hp, upd_same, f.sub.none_of hp, [], rfl, rfl, .nil⟩
section
variable {X : Cx} {CT : CTab} {a b : Expr} {ma mb : EM} {pos : Pos}
theorem nDNewT : NE X CT (.Dict [] [] pos) (evDNew true) := ⟨_, pe_dnewT, simDNewT⟩
theorem nDNewK : NE X CT (.Dict [] [] pos) (evDNew false) := ⟨_, pe_dnewK, simDNewK⟩
theorem nDGet (hu : X.A.units + 1 < cLine) (ha : NE X CT a ma) (hb : NE X CT b mb) (hs : NoSl b := by intro _ _; rfl) : NE X CT (.Subscript a b pos) (evBin gDGet ma mb) := by
  obtain ⟨_, pa, sa⟩ := ha
  obtain ⟨_, pb, sb⟩ := hb
  exact ⟨_, pe_dget hu pa pb hs, simBin (k := kx X CT) simDGet sa sb⟩
end
/-! d[y] = v -/
theorem replRep {k : Kx} {F : Hp} {x : List Int} {v : V} {d : D} (r : Rep k F v d) : ∀ {ks : List (List Int)} {vs : List V} {ds : List D}, ks.length = vs.length → RepL k F vs ds → RepL k F (replD ks vs x v) (replD ks ds x d) ∧ (replD ks vs x v).length = ks.length
  | [], [], _, _, .nil => ⟨.nil, rfl⟩
  | y :: ks, u :: vs, e :: ds, hl, .cons a b => by
    obtain ⟨h1, h2⟩ := replRep (x := x) r (ks := ks) (by simpa using hl) b
    simp only [replD]
    by_cases c : y = x
    · simp only [c, if_true]; exact ⟨.cons r h1, by simp [h2]⟩
    · simp only [c, if_false]; exact ⟨.cons a h1, by simp [h2]⟩
theorem any_zip {κ : Type} [DecidableEq κ] (f : List Int → κ) {x : List Int} : ∀ {ks : List (List Int)} {vs : List V}, ks.length = vs.length → (∀ y ∈ ks, f y = f x ↔ y = x) → (((ks.map f).zip vs).any fun kv => decide (kv.1 = f x)) = ks.contains x
  | [], [], _, _ => rfl
  | y :: ks, u :: vs, hl, hi => by
    have ih := any_zip f (x := x) (ks := ks) (vs := vs) (by simpa using hl) fun z hz => hi z (.tail _ hz)
    have h0 := hi y (.head _)
    simp only [List.map_cons, List.zip_cons_cons, List.any_cons, ih, List.contains_cons]
    congr 1
    by_cases c : y = x
    · subst c; simp
    · have : ¬ f y = f x := fun z => c (h0.mp z)
      have c2 : ¬ x = y := fun z => c z.symm
      simp [this, c2]
theorem map_zip {κ : Type} [DecidableEq κ] (f : List Int → κ) {x : List Int} {v : V} : ∀ {ks : List (List Int)} {vs : List V}, ks.length = vs.length → (∀ y ∈ ks, f y = f x ↔ y = x) → ((ks.map f).zip vs).map (fun kv => if kv.1 = f x then (kv.1, v) else kv) = (ks.map f).zip (replD ks vs x v)
  | [], [], _, _ => rfl
  | y :: ks, u :: vs, hl, hi => by
    have ih := map_zip f (x := x) (v := v) (ks := ks) (vs := vs) (by simpa using hl) fun z hz => hi z (.tail _ hz)
    have h0 := hi y (.head _)
    simp only [List.map_cons, List.zip_cons_cons, replD, ih]
    by_cases c : y = x
    · subst c; simp
    · have : ¬ f y = f x := fun z => c (h0.mp z)
      simp [this, c]
theorem put_ok {κ : Type} [DecidableEq κ] (f : List Int → κ) {k : Kx} {F : Hp} {x : List Int} {v : V} {d : D} (r : Rep k F v d) {ks : List (List Int)} {vs : List V} {ds : List D} (hl : ks.length = vs.length) (ra : RepL k F vs ds) (hi : ∀ y ∈ ks, f y = f x ↔ y = x) :
    ∃ vs', putK ((ks.map f).zip vs) (f x) v = ((putKD ks ds x d).1.map f).zip vs' ∧ (putKD ks ds x d).1.length = vs'.length ∧ RepL k F vs' (putKD ks ds x d).2 := by
  unfold putK putKD
  rw [any_zip f hl hi]
  by_cases c : ks.contains x = true
  · rw [if_pos c, if_pos c]
    obtain ⟨h1, h2⟩ := replRep (x := x) r hl ra
    exact ⟨replD ks vs x v, map_zip f hl hi, h2.symm, h1⟩
  · rw [if_neg c, if_neg c]
    refine ⟨vs ++ [v], ?_, by simp [hl], ra.append (.cons r .nil)⟩
    rw [List.map_append, List.zip_append (by simpa using hl)]; rfl
def dctAt (ρ : Rho) (i : Nat) : Option (Bool × List (List Int) × List D) := match ρ[i]? with
  | some (some (.own (.dct t ks ds))) => some (t, ks, ds)
  | _ => none
theorem dctAt_eq {ρ : Rho} {i : Nat} {q : Bool × List (List Int) × List D} (h : dctAt ρ i = some q) : ρ[i]? = some (some (.own (.dct q.1 q.2.1 q.2.2))) := by
  unfold dctAt at h
  split at h
  · cases h; assumption
  · cases h
def exDPut (j : Nat) (mk mv : EM) : SM := fun ρ => (mv ρ).bind fun a => (dctAt a.2 j).bind fun _ => (mk a.2).bind fun b => (rdD b.2 b.1).bind fun dk => (frz1 b.2 a.1).bind fun c => (dctAt c.2 j).bind fun q => (keyOf q.1 dk).bind fun x =>
  if (oneB q.1 q.2.1 && Nat.ble (q.2.1.length + 1) sizeLine) = true then some (.nx, c.2.set j (some (.own (.dct q.1 (putKD q.2.1 q.2.2 x c.1).1 (putKD q.2.1 q.2.2 x c.1).2)))) else none
theorem simDPut {k : Kx} {P : List Nat} {Wx : Option WX} {j : Nat} {ty tv : TE} {mk mv : EM} (hk : SimE k ty mk) (hv : SimE k tv mv) : SimS k P Wx (sDPut (tVar j) ty tv) (exDPut j mk mv) := by
  intro e ρ σ F H D hP s h
  unfold exDPut at h
  refine hv F ρ σ H _ s.fr ((wpo_bind.mp h).mono fun a _ h => ?_)
  intro v F1 H1 A1 R1
  have h := wpo_bind.mp h
  cases e0 : dctAt a.2 j with
  | none => rw [e0] at h; exact h.elim
  | some q0 =>
    rw [e0] at h
    obtain ⟨p, ho0, s0, h0, n0, _⟩ := A1.fr.owns j _ (dctAt_eq e0)
    refine ⟨.ref p, s0, ?_⟩
    refine hk F1 a.2 σ H1 _ A1.fr ((wpo_bind.mp h).mono fun b _ h => ?_)
    intro u F2 H2 A2 R2
    have h := wpo_bind.mp h
    cases e1 : rdD b.2 b.1 with
    | none => rw [e1] at h; exact h.elim
    | some dk =>
      rw [e1] at h
      have rd := R2.rd A2.fr e1
      have h := wpo_bind.mp h
      cases e2 : frz1 b.2 a.1 with
      | none => rw [e2] at h; exact h.elim
      | some c =>
        rw [e2] at h
        obtain ⟨F3, A3, _, r3, _⟩ := frz1_ok s.fr (A1.trans A2) (R1.step s.fr A1 A2) e2
        have h := wpo_bind.mp h
        cases e3 : dctAt c.2 j with
        | none => rw [e3] at h; exact h.elim
        | some q =>
          rw [e3] at h
          obtain ⟨t, ks, ds⟩ := q
          obtain ⟨p', ho, s1, h1, n1, vs, rfl, hl, ra⟩ := A3.fr.owns j _ (dctAt_eq e3)
          rw [s0] at s1; cases s1
          have h := wpo_bind.mp h
          cases e4 : keyOf t dk with
          | none => simp only [e4] at h; exact h.elim
          | some x =>
            simp only [e4] at h
            replace h : wpo (if (oneB t ks && Nat.ble (ks.length + 1) sizeLine) = true then _ else none) _ := h
            split at h
            · rename_i hz
              simp only [Bool.and_eq_true, Nat.ble_eq] at hz
              obtain ⟨h5, h6⟩ := hz
              have small : ∀ {κ : Type} (f : List Int → κ), ((ks.map f).zip vs).length < sizeLine := fun f => by rw [List.length_zip, List.length_map]; omega
              rcases key_ok A2.fr.sub rd e4 with ⟨rfl, b', rfl, hb⟩ | ⟨rfl, i, rfl, rfl⟩
              · obtain ⟨vs', q1, q2, q3⟩ := put_ok tKey r3 hl ra (x := x) fun y _ => ⟨fun z => tKey_inj z, fun z => by rw [z]⟩
                refine ⟨p, _, rfl, DPut.t h1 hb (small tKey), ?_⟩
                rw [q1]
                exact h σ F3 _ (s.aft (A3.mutate (dctAt_eq e3) s0 ⟨vs', rfl, q2, q3⟩))
              · have h5' : ∀ y ∈ ks, y.length = 1 := by simpa [oneB] using h5
                obtain ⟨vs', q1, q2, q3⟩ := put_ok iKey r3 hl ra (x := [i]) fun y hy => by
                  obtain ⟨m, rfl⟩ := List.length_eq_one_iff.mp (h5' y hy)
                  exact ⟨fun z => by have := Sum.inl.inj z; simp at this; rw [this], fun z => by rw [z]⟩
                refine ⟨p, _, rfl, DPut.k (k := .inl i) h1 (small iKey), ?_⟩
                have q1' : putK ((ks.map iKey).zip vs) (.inl i) v = _ := q1
                rw [q1']
                exact h σ F3 _ (s.aft (A3.mutate (dctAt_eq e3) s0 ⟨vs', rfl, q2, q3⟩))
            · exact h.elim
section
variable {X : Cx} {CT : CTab} {P : List Nat} {Wx : Option WX} {o i value : Expr} {mk mv : EM} {pos pos' : Pos}
theorem sDPutN (j : Nat) (hu : X.A.units + 1 < cLine) (ho : PE X o (tVar j)) (hi : NE X CT i mk) (hv : NE X CT value mv) (hs : swapsWith value (some (.Subscript o i pos')) pos.line X.env = pure false := by rfl) : NS X CT P Wx (.Assign [.Subscript o i pos'] value pos) (exDPut j mk mv) := by
  obtain ⟨_, pi, si⟩ := hi
  obtain ⟨_, pv, sv⟩ := hv
  exact ⟨_, ps_dput hu ho pi pv hs, simDPut (k := kx X CT) si sv⟩
end
end Pv

/-! PwB: dicts in tests, y not in d. -/
namespace Pv
open PySem PySem.Spec PySem.SeqAt L2
def gDNot : D → D → Option SV := fun y x => (gDIn y x).bind fun s => match s with
  | .val (.bool b) => some (.val (.bool (!b)))
  | _ => none
def rDNot : R2 := fun y x H Q => ∃ a o, x = .ref a ∧ DGet H a y o ∧ Q (.bl (!o.isSome)) H
theorem simDNot {k : Kx} : OpSim k rDNot gDNot := by
  intro F ρ σ H y x dy dx Q f ry rx h
  have g : rDIn y x H (fun v H' => ∀ b, v = .bl b → Q (.bl (!b)) H') := by
    refine simDIn F ρ σ H y x dy dx _ f ry rx ((wpo_bind.mp h).mono fun s _ h => ?_)
    intro v F' H' A R b e
    subst e
    cases s with
    | own o => exact h.elim
    | val d =>
      have R : Rep k F' (.bl b) d := R
      cases R
      exact h _ F' H' A (.bl _)
  obtain ⟨a, o, h1, h2, h3⟩ := g
  exact ⟨a, o, h1, h2, h3 _ rfl⟩
theorem _root_.L2.Room.u1 {n : Nat} {A : Around} (r : Room n A) : A.units + 1 < cLine := by have := r.u; omega
section
variable {X : Cx} {CT : CTab} {a b : Expr} {ma mb : EM} {pos : Pos}
theorem qDNot (hu : X.A.units + 1 < cLine) (ha : NE X CT a ma) (hb : NE X CT b mb) (hm : behindInMarks .NotIn b = false := by first | exact nomark _ | with_unfolding_all rfl) : NT X CT (.Compare a [.NotIn] [b] pos) (tvB (evBin gDNot ma mb)) := by
  obtain ⟨_, pa, sa⟩ := ha
  obtain ⟨_, pb, sb⟩ := hb
  exact ⟨_, pt_cmp (pc_dnotin hu pa pb) hm, simTvB (simBin (k := kx X CT) simDNot sa sb)⟩
end
end Pv

/-! PwC: walks of dicts, locked meanwhile. -/
namespace Pv
open PySem PySem.Spec PySem.SeqAt L2
section
variable {k : Kx} {F H F' H' : Hp} {ρ ρ' : Rho} {σ σ' : L2.St} {a : Addr} {u : HO} {od : Obj}
theorem nlk_eq (hu : IsDc u) : nlk (.frz od u) = nlk u := by cases u <;> first | rfl | exact hu.elim
theorem ntc_dK {p : Addr} {x : List (Key × V)} : NTC p (.dK x) := ⟨fun _ z => HO.noConfusion z, fun q z => by unfold LamX.CodeO at z; exact HO.noConfusion z⟩
theorem ntc_dT {p : Addr} {x : List (List Key × V)} : NTC p (.dT x) := ⟨fun _ z => HO.noConfusion z, fun q z => by unfold LamX.CodeO at z; exact HO.noConfusion z⟩
theorem ntc_frz {p : Addr} {od : Obj} {u : HO} : NTC p (.frz od u) := ⟨fun _ z => HO.noConfusion z, fun q z => by unfold LamX.CodeO at z; exact HO.noConfusion z⟩
theorem IsDc.ntc {p : Addr} {u : HO} (h : IsDc u) : NTC p u := by
  cases u with
  | dK x => exact ntc_dK
  | dT x => exact ntc_dT
  | _ => exact False.elim h
theorem IsDc.nt {u : HO} (h : IsDc u) : NoT u := by
  cases u with
  | dK x => exact True.intro
  | dT x => exact True.intro
  | _ => exact False.elim h
theorem FR.lock (f : FR k F ρ σ H) (hF : F a ≠ none) (hu : IsDc u) (h : H a = some u) : FR k F ρ σ (upd H a (.frz od u)) := by
  refine ⟨fun p o e => ?_, f.len, f.vals, fun i o e => ?_, f.dist, tabs_upd f.tabs h (IsDc.ntc hu)⟩
  · obtain ⟨o', e', z⟩ := f.sub p o e
    by_cases hp : p = a
    · subst hp
      rw [h] at e'; cases e'
      exact ⟨_, upd_same, (nlk_eq hu).trans z⟩
    · exact ⟨o', by rw [upd_ne hp]; exact e', z⟩
  · obtain ⟨p, ho, q, hp, n, r⟩ := f.owns i o e
    have ne : p ≠ a := fun z => hF (z ▸ n)
    exact ⟨p, ho, q, by rw [upd_ne ne]; exact hp, n, r⟩
theorem FR.unlock (f : FR k F ρ σ H) (hF : F a ≠ none) (hu : IsDc u) (h : H a = some (.frz od u)) : FR k F ρ σ (upd H a u) := by
  refine ⟨fun p o e => ?_, f.len, f.vals, fun i o e => ?_, f.dist, tabs_upd f.tabs h ntc_frz⟩
  · obtain ⟨o', e', z⟩ := f.sub p o e
    by_cases hp : p = a
    · subst hp
      rw [h] at e'; cases e'
      exact ⟨_, upd_same, (nlk_eq hu).symm.trans z⟩
    · exact ⟨o', by rw [upd_ne hp]; exact e', z⟩
  · obtain ⟨p, ho, q, hp, n, r⟩ := f.owns i o e
    have ne : p ≠ a := fun z => hF (z ▸ n)
    exact ⟨p, ho, q, by rw [upd_ne ne]; exact hp, n, r⟩
theorem Tr.unlock {I : Addr → Prop} (t : Tr I F (upd H a (.frz od u)) F' H') (nI : ¬ I a) (hF : F a ≠ none) (hu : IsDc u) (h : H a = some u) : H' a = some (.frz od u) ∧ Tr I F H F' (upd H' a u) := by
  have e := t.keep a _ upd_same trivial nI
  refine ⟨e, t.sub, fun p o q mt n => ?_, fun p o q m z n => ?_, fun p o q => ?_⟩
  · by_cases hp : p = a
    · subst hp; rw [h] at q; cases q; exact upd_same
    · rw [upd_ne hp]; exact t.keep p o (by rw [upd_ne hp]; exact q) mt n
  · have hp : p ≠ a := fun w => hF (w ▸ z)
    exact t.new p o (by rw [upd_ne hp]; exact q) m z n
  · by_cases hp : p = a
    · subst hp; exact ⟨_, upd_same⟩
    · obtain ⟨o', q'⟩ := t.there p o (by rw [upd_ne hp]; exact q)
      exact ⟨o', by rw [upd_ne hp]; exact q'⟩
theorem RR.unlock {r : Rv} {v : V} (hF : F' a ≠ none) (R : RR k (upd H a (.frz od u)) F' ρ' σ' H' r v) : RR k H F' ρ' σ' (upd H' a u) r v := by
  match r, R with
  | .sv (.val d), R => exact R
  | .sv (.own o), ⟨p, ho, e1, n, h1, n1, q⟩ =>
    have hp : p ≠ a := fun z => hF (z ▸ n1)
    rw [upd_ne hp] at n
    exact ⟨p, ho, e1, n, by rw [upd_ne hp]; exact h1, n1, q⟩
  | .plc i, h => exact h
end
structure Lkd (k : Kx) (j : Nat) (t : Bool) (ks : List (List Int)) (vs : List V) (ds : List D) (F : Hp) (σ : L2.St) (H : Hp) (a : Addr) (od : Obj) : Prop where
  s : σ[j]? = some (some (.ref a))
  h : H a = some (.frz od (hoD t ks vs))
  f : F a ≠ none
  l : ks.length = vs.length
  r : RepL k F vs ds
/-! a statement that walks the dict of slot j -/
/-! expressions -/
/-! ### the keys -/
section
variable {X : Cx} {CT : CTab} {P ts : List Nat} {tg : Expr} {body : List Stmt} {mg : GM} {mb : SM} {mt : TM} {me : EM} {pos p : Pos} {x : Str} {e : Expr}
end
end Pv

/-! PwD: more of dicts: get, list, len, displays of one pair. -/
namespace Pv
open PySem PySem.Spec PySem.SeqAt PyProof.Rows L2
/-! list(d), len(d), truth -/
section
variable {X : Cx} {CT : CTab} {o e g : Expr} {ma mk mx : EM} {apos cpos : Pos}
end
/-! {y: z} -/
theorem Aft.temp {k : Kx} {ρ ρ' : Rho} {σ : L2.St} {F H F' H' : Hp} {p : Addr} {o o' : HO} (f : FR k F ρ σ H) (hp : H p = none) (m : IsDc o) (A : Aft k ρ σ F (upd H p o) ρ' F' H') : H' p = some o ∧ F' p = none ∧ Aft k ρ σ F H ρ' F' (upd H' p o') := by
  have nO : ¬ Own ρ σ p := fun z => by obtain ⟨u, hu⟩ := f.own_some z; rw [hp] at hu; cases hu
  have e1 := A.tr.keep p o upd_same (NoT.ntb (IsDc.nt m)) nO
  have e2 := A.tr.new p o upd_same (IsDc.nt m) (f.sub.none_of hp) nO
  refine ⟨e1, e2, ⟨⟨fun a u q => ?_, A.fr.len, A.fr.vals, fun i ob q => ?_, A.fr.dist, tabs_upd A.fr.tabs e1 (IsDc.ntc m)⟩, ⟨A.tr.sub, fun a u q mt n => ?_, fun a u q mm z n => ?_, fun a u q => ?_⟩, A.ow, A.sl⟩⟩
  · have ne : a ≠ p := fun w => by rw [w, e2] at q; cases q
    rw [upd_ne ne]; exact A.fr.sub a u q
  · obtain ⟨b, ho, s, hb, n, r⟩ := A.fr.owns i ob q
    have ne : b ≠ p := fun w => nO (A.ow p ⟨i, ob, q, w ▸ s⟩)
    exact ⟨b, ho, s, by rw [upd_ne ne]; exact hb, n, r⟩
  · have ne := ne_of_none q hp
    rw [upd_ne ne]; exact A.tr.keep a u (by rw [upd_ne ne]; exact q) mt n
  · exact A.tr.new a u (by rw [upd_ne (ne_of_none q hp)]; exact q) mm z n
  · have ne := ne_of_none q hp
    obtain ⟨u', q'⟩ := A.tr.there a u (by rw [upd_ne ne]; exact q)
    exact ⟨u', by rw [upd_ne ne]; exact q'⟩
section
variable {X : Cx} {CT : CTab} {a b : Expr} {mk mv : EM} {pos : Pos}
end
end Pv

/-! PwE: a comprehension that walks a list which stays its owner's. -/
namespace Pv
open PySem PySem.Spec PySem.SeqAt L2
structure WalkI (k : Kx) (J : It) (I : Addr → Prop) (F H : Hp) (ds : List D) : Prop where
  w : ∃ G Y, Walk J ds.length G Y ∧ (∀ F' H', Sub F F' → Sub F' H' → (∀ p o, H p = some o → NTb o → ¬ I p → H' p = some o) → G H') ∧
    ∀ (i : Nat) (d : D) (F' H' : Hp) (x : V) (H'' : Hp), ds[i]? = some d → Sub F F' → Sub F' H' → (∀ p o, H p = some o → NTb o → ¬ I p → H' p = some o) → Y i H' x H'' → YOk k F' H' x H'' d
theorem simCompI_at {k : Kx} {ts vs : List Nat} {wi : TI} {g : TG} {tt : TT} {te : TE} {mi : IM} {mg : GM} {mt : TM} {me : EM} (hg : SimG k [] ts g mg) (ht : SimT k tt mt) (he : SimE k te me) (hv : ∀ t ∈ ts, t ∈ vs) {F : Hp} {ρ : Rho} {σ : L2.St} {H : Hp} {Q : VK} (f : FR k F ρ σ H)
    (hi : ∀ R : It → Hp → Prop, wpo (mi ρ) (fun x => ∀ J F' H', Aft k ρ σ F H x.2 F' H' → WalkI k J (Own (kill vs x.2) (wipe σ vs)) F' H' x.1 → R J H') → wi σ H R)
    (h : wpo (evComp mi mg mt me vs ρ) (fun x => ∀ v F' H', Aft k ρ σ F H x.2 F' H' → RR k H F' x.2 σ H' x.1 v → Q v H')) : tLc wi g tt te vs σ H Q := by
  unfold evComp at h
  refine hi _ ((wpo_bind.mp h).mono fun a _ h => ?_)
  intro J F1 H1 A1 W T hT
  obtain ⟨G, Y, w, hG, hY⟩ := W.w
  split at h
  · rename_i hz
    let e : Ent := ⟨F1, H1, Own (kill vs a.2) (wipe σ vs), []⟩
    have s0 : SInv k e (kill vs a.2) (wipe σ vs) F1 H1 := ⟨A1.fr.wiped, Tr.refl, fun p z => .inl z, fun q hq => by cases hq⟩
    have nT : F1 T = none := A1.fr.sub.none_of hT
    have eT : e.H T = none := hT
    have noT : ¬ Own (kill vs a.2) (wipe σ vs) T := fun z => by
      obtain ⟨u, hu⟩ := s0.fr.own_some z
      rw [hT] at hu; cases hu
    have lk : ∀ {ρ' : Rho} {F' H' : Hp}, SInv k e ρ' (wipe σ vs) F' H' → ∀ p o, H1 p = some o → NTb o → ¬ Own (kill vs a.2) (wipe σ vs) p → H' p = some o := fun {ρ' F' H'} s' p o q m n => s'.tr.keep p o q m n
    let C : List D → List D × Rho → Prop := fun ds z => ∀ v F' H', Aft k ρ σ F H (restore vs a.2 z.2) F' H' → RR k H F' (restore vs a.2 z.2) σ H' (.sv (.own (.lst (ds ++ z.1)))) v → Q v H'
    refine lc_it w (fun i H => ∃ ρ F acc ds, CI k e (kill vs a.2) ρ (wipe σ vs) F H T acc ds ∧ acc.length ≤ i ∧ wpo (goComp mg mt me vs (a.1.drop i) ρ) (C ds)) ?_ ?_ ?_ ?_
    · exact ⟨kill vs a.2, F1, [], [], ⟨s0.temp hT nT noT (ntc_none hT), fun p z => z, fun i x q => ⟨x, q⟩, upd_same, nT, .nil⟩, Nat.zero_le _, (wpo_bind.mp h).mono fun z _ h => fun v F' H' A R => h v F' H' A R⟩
    · rintro i H hi ⟨ρ', F', acc, ds, c, _⟩
      exact hG F' H c.s.tr.sub c.s.fr.sub (lk c.s)
    · rintro i x H H' hi ⟨ρ', F', acc, ds, c, hl, h⟩ y
      have e1 : a.1[i]? = some a.1[i] := List.getElem?_eq_getElem hi
      rw [List.drop_eq_getElem_cons hi] at h
      unfold goComp at h
      have fin : ∀ (F2 H2 : Hp), CI k e (kill vs a.2) ρ' (wipe σ vs) F2 H2 T acc ds → Rep k F2 x a.1[i] → g x (wipe σ vs) H2 fun σ2 H2 => wipe σ2 vs = wipe σ vs ∧ tt σ2 H2 fun b H3 =>
          if b = true then te σ2 H3 fun y H4 => ∃ acc, H4 T = some (.lst acc) ∧ acc.length < sizeLine ∧ ∃ ρ F acc' ds, CI k e (kill vs a.2) ρ (wipe σ vs) F (upd H4 T (.lst (acc ++ [y]))) T acc' ds ∧ acc'.length ≤ i + 1 ∧ wpo (goComp mg mt me vs (a.1.drop (i + 1)) ρ) (C ds)
          else ∃ ρ F acc ds, CI k e (kill vs a.2) ρ (wipe σ vs) F H3 T acc ds ∧ acc.length ≤ i + 1 ∧ wpo (goComp mg mt me vs (a.1.drop (i + 1)) ρ) (C ds) := by
        intro F2 H2 c rp
        refine hg e ρ' (wipe σ vs) F2 H2 x _ _ (fun q hq => by cases hq) c.s rp ((wpo_bind.mp h).mono fun ρ1 em h => ?_)
        intro σ3 s3 ag ow3 sl3
        have ew : wipe σ3 vs = wipe σ vs := (wipe_agr ag hv).trans wipe_wipe
        refine ⟨ew, ht F2 ρ1 σ3 H2 _ s3.fr ((wpo_bind.mp h).mono fun b _ h => ?_)⟩
        intro F3 H3 A3
        have s3' := s3.aft A3
        have no3 : ¬ Own ρ1 σ3 T := fun z => noT (c.ow T (ow3 T z))
        have hT3 := A3.tr.keep T _ c.hT trivial no3
        have fT3 := A3.tr.new T _ c.hT trivial c.fT no3
        -- the slots outside of vs stay
        have slk : ∀ {ρ4 : Rho}, (∀ (i : Nat) (x : SV), ρ1[i]? = some (some x) → ∃ x', ρ4[i]? = some (some x')) → ∀ (i : Nat) (x : SV), (kill vs a.2)[i]? = some (some x) → ∃ x', (kill vs ρ4)[i]? = some (some x') := by
          intro ρ4 h4 j x0 q
          obtain ⟨q1, q2⟩ := kill_get q
          obtain ⟨x1, q3⟩ := c.sl j x0 q
          obtain ⟨x2, q4⟩ := sl3 j x1 q3
          obtain ⟨x3, q5⟩ := h4 j x2 q4
          exact ⟨x3, by rw [kill_out q2]; exact q5⟩
        have wip : ∀ {ρ4 : Rho} {F4 H4 : Hp}, SInv k e ρ4 σ3 F4 H4 → SInv k e (kill vs ρ4) (wipe σ vs) F4 H4 := fun {ρ4 F4 H4} s4 => by
          rw [← ew]
          exact ⟨s4.fr.wiped, s4.tr, fun p z => s4.ow p z.wiped, fun q hq => by cases hq⟩
        have wow : ∀ {ρ4 : Rho}, (∀ p, Own ρ4 σ3 p → Own ρ1 σ3 p) → ∀ p, Own (kill vs ρ4) (wipe σ vs) p → Own (kill vs a.2) (wipe σ vs) p := fun {ρ4} h4 p z => by
          rw [← ew] at z
          exact c.ow p (ow3 p (h4 p z.wiped))
        split at h
        · rename_i eb
          rw [if_pos eb]
          refine he F3 b.2 σ3 H3 _ s3'.fr ((wpo_bind.mp h).mono fun z _ h => ?_)
          intro v F4 H4 A4 R4
          have h := wpo_bind.mp h
          cases ef : frz1 z.2 z.1 with
          | none => rw [ef] at h; exact h.elim
          | some y =>
            rw [ef] at h
            obtain ⟨F5, A5, s5, r5, _⟩ := frz1_ok s3'.fr A4 R4 ef
            have no3' : ¬ Own b.2 σ3 T := fun z => no3 (A3.ow T z)
            have hT5 := A5.tr.keep T _ hT3 trivial no3'
            have fT5 := A5.tr.new T _ hT3 trivial fT3 no3'
            have sub5 : Sub F2 F5 := A3.tr.sub.trans A5.tr.sub
            have s5' := s3'.aft A5
            have no5 : ¬ Own (kill vs y.2) (wipe σ vs) T := fun z => noT (wow (fun p q => A3.ow p (A5.ow p q)) T z)
            refine ⟨acc, hT5, by omega, kill vs y.2, F5, acc ++ [v], ds ++ [y.1], ⟨(wip s5').temp eT fT5 no5 (ntc_at hT5), wow fun p q => A3.ow p (A5.ow p q), slk fun i x q => let ⟨x', q'⟩ := A3.sl i x q; A5.sl i x' q', upd_same, fT5, (c.r.mono sub5).append (.cons r5 .nil)⟩, by simp; omega, ?_⟩
            refine (wpo_bind.mp h).mono fun z _ h => ?_
            intro v F' H' A R
            rw [List.append_assoc] at R
            exact h v F' H' A R
        · rename_i eb
          rw [if_neg eb]
          exact ⟨kill vs b.2, F3, acc, ds, ⟨wip s3', wow A3.ow, slk A3.sl, hT3, fT3, c.r.mono A3.tr.sub⟩, by omega, h⟩
      obtain ⟨F2, A2, rp⟩ := (hY i _ F' H x H' e1 c.s.tr.sub c.s.fr.sub (lk c.s) y).aft c.s.fr
      exact fin F2 H' (c.aft noT A2) rp
    · rintro H' ⟨ρ', F', acc, ds, c, hl, h⟩
      rw [List.drop_length] at h
      have h : C ds ([], ρ') := h
      refine h _ F' H' ?_ ?_
      · refine A1.trans ⟨FR.restored A1.fr c.s.tr c.ow c.s.fr, ⟨c.s.tr.sub, fun p o q mt nI => c.s.tr.keep p o q mt fun z => nI z.wiped, fun p o q m f nI => c.s.tr.new p o q m f fun z => nI z.wiped, c.s.tr.there⟩, fun p z => z.restored c.ow, fun i s q => ?_⟩
        by_cases hi : i ∈ vs
        · refine ⟨s, restore_in q ?_ (.inl hi)⟩
          have l1 := (List.getElem?_eq_some_iff.mp q).1
          have l2 : ρ'.length = (wipe σ vs).length := c.s.fr.len
          rw [wipe_length] at l2
          show i < ρ'.length
          have l3 := A1.fr.len
          omega
        · obtain ⟨x', q'⟩ := c.sl i s (by rw [kill_out hi]; exact q)
          exact ⟨x', by rw [restore_out hi]; exact q'⟩
      · exact ⟨T, _, rfl, A1.none_of hT, c.hT, c.fT, acc, rfl, by rw [List.append_nil]; exact c.r⟩
  · exact h.elim
def evCompH (j : Nat) (mg : GM) (mt : TM) (me : EM) (vs : List Nat) : EM := fun ρ => match ρ[j]? with
  | some (some (.own (.lst ds))) => (evComp (fun ρ => some (ds, ρ)) mg mt me vs (ρ.set j none)).bind fun z => some (z.1, z.2.set j (some (.own (.lst ds))))
  | _ => none
theorem simCompH {k : Kx} {ts vs : List Nat} {j : Nat} {g : TG} {tt : TT} {te : TE} {mg : GM} {mt : TM} {me : EM} (hg : SimG k [] ts g mg) (ht : SimT k tt mt) (he : SimE k te me) (hv : ∀ t ∈ ts, t ∈ vs) : SimE k (tLc (iList k.K (tVar j)) g tt te vs) (evCompH j mg mt me vs) := by
  intro F ρ σ H Q f h
  unfold evCompH at h
  split at h
  · rename_i ds hj
    obtain ⟨p, ho, e1, hp, np, us, rfl, r⟩ := f.owns j _ hj
    have jl : j < ρ.length := (List.getElem?_eq_some_iff.mp hj).1
    have sg : ∀ {i : Nat} {s : SV}, (ρ.set j none)[i]? = some (some s) → i ≠ j ∧ ρ[i]? = some (some s) := fun {i s} q => by
      rcases set_get q with ⟨_, h, _⟩ | ⟨ne, h⟩
      · cases h
      · exact ⟨ne, h⟩
    have f' : FR k F (ρ.set j none) σ H := ⟨f.sub, by rw [List.length_set]; exact f.len, fun i d q => f.vals i d (sg q).2, fun i o q => f.owns i o (sg q).2, fun i l o o' q a b c d => f.dist i l o o' q (sg a).2 (sg b).2 c d, f.tabs⟩
    have no : ¬ Own (ρ.set j none) σ p := fun z => by
      obtain ⟨i, o, e3, e4⟩ := z
      obtain ⟨n1, n2⟩ := sg e3
      exact n1 (f.dist i j o _ p n2 hj e4 e1)
    refine simCompI_at hg ht he hv f' (fun R q => ?_) ((wpo_bind.mp h).mono fun z _ h => ?_)
    · refine ⟨.ref p, e1, p, rfl, ⟨us, .inl (.inl hp)⟩, q _ F H (Aft.refl f') ⟨fun H => SqL k.K H p us, YAt us, r.length ▸ walk_list, fun F' H' s1 s2 kp => .inl (.inl (kp p _ hp trivial fun z => no z.wiped)), fun i d F' H' x H'' e s1 s2 kp y => .inl ⟨y.1, ?_⟩⟩⟩
      obtain ⟨v, e2, r1⟩ := r.get e
      rw [y.2] at e2; cases e2
      exact r1.mono s1
    · intro v F' H' A R
      have hp' := A.tr.keep p _ hp trivial no
      have np' := A.tr.new p _ hp trivial np no
      have no' : ¬ Own z.2 σ p := fun q => no (A.ow p q)
      have l1 : z.2.length = ρ.length := by rw [A.fr.len, f.len]
      have gs : ∀ {i : Nat} {s : SV}, (z.2.set j (some (.own (.lst ds))))[i]? = some (some s) → (i = j ∧ s = .own (.lst ds)) ∨ (i ≠ j ∧ z.2[i]? = some (some s)) := fun {i s} q => by
        rcases set_get q with ⟨e, h, _⟩ | ⟨ne, h⟩
        · cases h; exact .inl ⟨e, rfl⟩
        · exact .inr ⟨ne, h⟩
      have sj : (z.2.set j (some (.own (.lst ds))))[j]? = some (some (.own (.lst ds))) := List.getElem?_set_self (by omega)
      have si : ∀ {i : Nat}, i ≠ j → (z.2.set j (some (.own (.lst ds))))[i]? = z.2[i]? := fun ne => List.getElem?_set_ne (Ne.symm ne)
      have A' : Aft k ρ σ F H (z.2.set j (some (.own (.lst ds)))) F' H' := by
        refine ⟨⟨A.fr.sub, by rw [List.length_set]; exact A.fr.len, fun i d q => ?_, fun i o q => ?_, fun i l o o' q a b c d => ?_, A.fr.tabs⟩, A.tr.mono fun q ⟨i, o, e3, e4⟩ => ⟨i, o, (sg e3).2, e4⟩, fun q ⟨i, o, e3, e4⟩ => ?_, fun i s q => ?_⟩
        · rcases gs q with ⟨_, hh⟩ | ⟨_, hh⟩
          · cases hh
          · exact A.fr.vals i d hh
        · rcases gs q with ⟨rfl, hh⟩ | ⟨_, hh⟩
          · cases hh; exact ⟨p, _, e1, hp', np', us, rfl, r.mono A.tr.sub⟩
          · exact A.fr.owns i o hh
        · rcases gs a with ⟨rfl, hh⟩ | ⟨n1, hh⟩
          · rcases gs b with ⟨rfl, h2⟩ | ⟨n2, h2⟩
            · rfl
            · rw [e1] at c; cases c
              exact absurd ⟨l, o', h2, d⟩ no'
          · rcases gs b with ⟨rfl, h2⟩ | ⟨n2, h2⟩
            · rw [e1] at d; cases d
              exact absurd ⟨i, o, hh, c⟩ no'
            · exact A.fr.dist i l o o' q hh h2 c d
        · rcases gs e3 with ⟨rfl, hh⟩ | ⟨n1, hh⟩
          · exact ⟨i, _, hj, e4⟩
          · obtain ⟨i', o2, e5, e6⟩ := A.ow q ⟨i, o, hh, e4⟩
            exact ⟨i', o2, (sg e5).2, e6⟩
        · by_cases e : i = j
          · subst e; exact ⟨_, sj⟩
          · obtain ⟨s', h'⟩ := A.sl i s (by rw [List.getElem?_set_ne (Ne.symm e)]; exact q)
            exact ⟨s', by rw [si e]; exact h'⟩
      refine h v F' H' A' ?_
      obtain ⟨z1, z2⟩ := z
      cases z1 with
      | sv s => cases s <;> exact R
      | plc i =>
        refine ⟨R.1, ?_⟩
        by_cases e : i = j
        · subst e; exact ⟨_, sj⟩
        · obtain ⟨s, q⟩ := R.2
          exact ⟨s, by rw [si e]; exact q⟩
  · exact h.elim
section
variable {X : Cx} {CT : CTab} {ts : List Nat} {tg : Expr} {mg : GM} {mt : TM} {me : EM} {pos p : Pos} {x : Str} {e : Expr}
theorem nCompH (j : Nat) {scope : Scope} {ifs : List Expr} {vs : List Nat} (own : List (Str × Nat)) (ho : PE X (.Name x p) (tVar j)) (hc : X.calm = true) (hN : X.N.Nodup) (ok : BlkOk X.N X.env.scope scope own) (hg : Blk X scope fun Y => NG Y CT [] ts tg mg) (ht : Blk X scope fun Y => NTs Y CT ifs mt) (he : Blk X scope fun Y => NE Y CT e me)
    (hv : ∀ t ∈ ts, t ∈ own.map (·.2) := by decide) (hs : ∀ y, foldedSetIterable (.Name x p) X.env y = pure y := by intro _; rfl) (hvs : own.map (·.2) = vs := by rfl) : NE X CT (.ListComp e [⟨tg, .Name x p, ifs, 0⟩] scope pos) (evCompH j mg mt me vs) := by
  subst hvs
  exact ⟨_, pe_lc hc hN (pi_list ho) ok (fun s H C cl fp => cG_of (k := kx X CT) (hg s H C cl fp)) (fun s H C cl fp => cT_of (k := kx X CT) (ht s H C cl fp)) (fun s H C cl fp => cE_of (k := kx X CT) (he s H C cl fp)) hs, simCompH (k := kx X CT) cG_sim cT_sim cE_sim hv⟩
end
end Pv

/-! PwF: a list told from its end. -/
namespace Pv
open PySem PySem.Spec PySem.SeqAt L2
section
variable {X : Cx} {CT : CTab} {a : Expr} {ma : EM}
end
end Pv

/-! PwG: xs[i] += e on a list of ints. -/
namespace Pv
open PySem PySem.Spec PySem.SeqAt L2
section
variable {X : Cx} {CT : CTab} {P : List Nat} {Wx : Option WX} {a e : Expr} {ma me : EM} {p tpos pos : Pos}
end
end Pv

/-! PwH: l.index(x), items of any depth. -/
namespace Pv
open PySem PySem.Spec PySem.SeqAt L2
section
variable {X : Cx} {CT : CTab} {e : Expr} {mr : AM} {p pos : Pos}
end
end Pv

/-! PwI: l.index(x) of a frozen list. -/
namespace Pv
open PySem PySem.Spec PySem.SeqAt L2
section
variable {X : Cx} {CT : CTab} {e : Expr} {mr : AM} {p pos : Pos}
end
end Pv

/-! PwJ: exceptions: raise, calls that may raise. -/
namespace Pv
open PySem PySem.Spec PySem.SeqAt L2
section
variable {k : Kx} {P : List Nat} {W : WX} {Wx : Option WX}
end
section
variable {X : Cx} {CT : CTab} {P : List Nat} {Wx : Option WX} {W : WX}
variable {x : Str} {p pos : Pos} {e : Expr} {es : List Expr} {f : Addr} {io : Bool} {np j : Nat} {cm : CM} {mr : AM}
variable {me : EM}
end
end Pv

/-! PwK: try, except; defs that may raise. -/
namespace Pv
open PySem PySem.Spec PySem.SeqAt L2
section
variable {X : Cx} {CT : CTab} {P : List Nat} {Wx : Option WX}
def tSuite (X : Cx) (suite : List Stmt) (a : Addr) (cls : Value) (d : Option Addr) : TS := fun D σ H => ∀ (oe : Obj) (pn : List (Addr × Obj)), Zc cls d oe → (∃ vs, oe.data = .fields vs) → ∃ ts, PSs (X.suite a ((a, oe) :: pn)) suite ts ∧ ts D σ H
theorem tSuite_ok {suite : List Stmt} (a : Addr) (oe : Obj) (cls : Value) (d : Option Addr) (pn : List (Addr × Obj)) (hz : Zc cls d oe) (hf : ∃ vs, oe.data = .fields vs) : PSs (X.suite a ((a, oe) :: pn)) suite (tSuite X suite a cls d) :=
  ⟨fun pins s σ H D I h => by
    obtain ⟨ts, p, q⟩ := h oe pn hz hf
    exact p.run pins s σ H D I q⟩
inductive NHs (X : Cx) (CT : CTab) (P : List Nat) (kn : List Str) : List ExceptHandler → List (List Str × SM) → List (Value × (Addr → Value → Option Addr → TS)) → Prop
  | nil : NHs X CT P kn [] [] []
  | cons {x : Str} {L : List Str} {m : SM} {b₀ : Stmt} {suite : List Stmt} {np pos' : Pos} {hds : List ExceptHandler} {ms : List (List Str × SM)} {l : List (Value × (Addr → Value → Option Addr → TS))} (hc : Names X x (.ref (He.ga X.K x)))
      (hx : ∀ y ∈ kn, PySem.W.exmOne X.K (.ref (He.ga X.K y)) (.ref (He.ga X.K x)) = some (decide (y ∈ L)))
      (hsu : ∀ (a : Addr) (oe : Obj) (cls : Value) (d : Option Addr) (pn : List (Addr × Obj)), Zc cls d oe → (∃ vs, oe.data = .fields vs) → NSs (X.suite a ((a, oe) :: pn)) CT P none (b₀ :: suite) m) (r : NHs X CT P kn hds ms l) :
      NHs X CT P kn (.ExceptHandler (some (.Name x np)) none (b₀ :: suite) pos' :: hds) ((L, m) :: ms) ((.ref (He.ga X.K x), tSuite X (b₀ :: suite)) :: l)
theorem NHs.ok {kn : List Str} {hds : List ExceptHandler} {ms : List (List Str × SM)} {l : List (Value × (Addr → Value → Option Addr → TS))} (h : NHs X CT P kn hds ms l) : HdsOk X hds l := by
  induction h with
  | nil => exact .nil
  | cons hc hx hsu r ih => exact .cons hc (fun a oe cls d pn hz hf => tSuite_ok a oe cls d pn hz hf) ih
end
section
variable {P : Program} {w : World} {K : PySem.W.Frag} {mg : Str → Option Value} {base : Heap} {x qual : Str} {params : Arguments} {body : List Stmt} {scope : Scope} {f : Addr} {fd : FuncData}
end
section
variable {X : Cx} {CT : CTab} {P : List Nat} {W : WX} {e : Expr} {me : EM} {pos : Pos}
end
section
variable {fa : List He.Fa} {fn : List He.DefD} {cs : ClsT} {K : PySem.W.Frag} {mg : Str → Option Value}
end
end Pv

/-! PwL: sum over tuples. -/
namespace Pv
open PySem PySem.Spec PySem.SeqAt PyProof.Rows L2
section
variable {prog : Program} {w : World} {A : Around} {E : Value → Shared → Prop} {s : Shared} {l : Addr}
end
section
variable {X : Cx}
end
section
variable {X : Cx} {n : Nat}
end
/-! e.index(x), e any list -/
section
variable {X : Cx} {CT : CTab} {e o : Expr} {mo : EM} {mr : AM} {p pos : Pos}
end
/-! a walk over a global tuple of ints -/
section
variable {X : Cx} {CT : CTab} {p : Pos} {tg : Expr}
end
section
variable {X : Cx} {CT : CTab} {p pos : Pos} {x : Str} {f : Addr} {io : Bool} {np j : Nat} {cm : CM}
end
section
variable {X : Cx} {CT : CTab} {a b : Expr} {ma mb : EM} {p pos : Pos}
end
end Pv

/-! PwM: sorted over tuples, the first of which is empty. -/
namespace PySem.SeqAt
open PySem PySem.Spec PySem.Builtin
section
variable {A : Around} {s : Shared}
end
end PySem.SeqAt
namespace PySem.W
open PySem PySem.SeqAt PySem.Calls PyProof.Rows
section
variable {prog : Program} {w : World} {A : Around} {E : Value → Shared → Prop} {s : Shared}
end
section
variable {M : Model} {A : Around} {E : Value → Shared → Prop} {s : Shared}
end
section
variable {prog : Program} {w : World} {A : Around} {s : Shared}
end
section
variable {prog : Program} {w : World} {A : Around} {E : Value → Shared → Prop} {s : Shared} {β : Type} {vs : List Value} {bs : List β} {enc : β → PyData} {R : Value → β → Prop}
end
end PySem.W
namespace Pv
open PySem PySem.Spec PySem.SeqAt L2
end Pv

/-! PwN: d[x], x a global tuple; len(set(..)) of a tuple. -/
namespace Pv
open PySem PySem.Spec PySem.SeqAt PyProof.Rows L2
section
variable {X : Cx} {CT : CTab} {a : Expr} {ma : EM} {p pos : Pos}
end
/-! len(set(xs)), xs a tuple of ints -/
section
variable {X : Cx} {CT : CTab} {a : Expr} {ma : EM} {p p2 q pos : Pos}
end
end Pv
/-! sorted(xs), xs a tuple -/
namespace PySem.W
open PySem PySem.Calls PyProof.Rows
section
variable {prog : Program} {w : World} {A : Around} {E : Value → Shared → Prop} {s : Shared} {κ : PyProof.Rows.KeyKind}
end
section
variable {prog : Program} {w : World} {A : Around} {E : Value → Shared → Prop} {s : Shared} {β : Type} {vs : List Value} {bs : List β} {enc : β → PyData} {R : Value → β → Prop}
end
end PySem.W
namespace Pv
open PySem PySem.Spec PySem.SeqAt PyProof.Rows L2
end Pv

/-! PwO: except C as e: x = a if isinstance(e, D) else b; defs as values. -/
namespace Pv
open PySem PySem.Spec PySem.SeqAt L2
section
variable {X : Cx} {CT : CTab} {P : List Nat} {Wx : Option WX}
end
end Pv
/-! ### defs as values -/
namespace Pv
open PySem PySem.Spec PySem.SeqAt L2
section
variable {X : Cx} {CT : CTab} {W : WX} {x : Str} {p pos : Pos} {e : Expr} {es : List Expr} {mr : AM} {L : List (Str × Nat × CM)}
end
end Pv

/-! PwP: {} as a value; a tuple told from its end. -/
namespace Pv
open PySem PySem.Spec PySem.SeqAt L2 PyProof.Rows
section
variable {prog : Program} {w : World} {A : Around} {E : Value → Shared → Prop} {s : Shared}
theorem part_of {v : Value} {k : Option Int} {Q : Option Int → Shared → Prop} (hv : IsPart v k) (h : Q k s) : wpAny (model prog w) A (Builtin.Slice.slicePartIndex v) Q E s := by
  cases hv with
  | none => exact slicePart_none h
  | int i t => exact slicePart_int h
theorem rev_range (xs : Array Value) : ((List.range xs.size).filterMap fun (k : Nat) => xs[((xs.size : Int) - 1 + (k : Int) * -1).toNat]?) = xs.toList.reverse := by
  apply List.ext_getElem?
  intro i
  have e : ∀ n : Nat, n ≤ xs.size → ((List.range n).filterMap fun (k : Nat) => xs[((xs.size : Int) - 1 + (k : Int) * -1).toNat]?) = (xs.toList.reverse).take n := by
    intro n
    induction n with
    | zero => simp
    | succ n ih =>
      intro hn
      rw [List.range_succ, List.filterMap_append, ih (by omega), List.take_add_one]
      congr 1
      have : ((xs.size : Int) - 1 + (n : Int) * -1).toNat = xs.size - 1 - n := by omega
      have hl : xs.size - 1 - n < xs.size := by omega
      simp only [List.filterMap_cons, List.filterMap_nil, this, Array.getElem?_eq_getElem hl]
      rw [List.getElem?_reverse (by simpa using Nat.lt_of_succ_le hn)]
      simp [Array.getElem?_eq_getElem hl]
  rw [e _ (Nat.le_refl _), List.take_of_length_le (by simp)]
theorem applied_rev {sl : Addr} {vl vu vs : Value} {n : Nat} {Q : Int × Int × Nat → Shared → Prop} (hs : s.heap.IsSliceOf sl vl vu vs) (pl : IsPart vl none) (pu : IsPart vu none) (ps : IsPart vs (some (-1))) (h : Q ((n : Int) - 1, -1, n) s) :
    wpAny (model prog w) A (Builtin.Slice.sliceApplied (.ref sl) (pure (n : Int))) Q E s := by
  obtain ⟨os, hos, hcs, hds⟩ := id hs
  unfold Builtin.Slice.sliceApplied Builtin.Slice.sliceFields
  refine wpAny_bind (wpAny_bind (wpAny_field hos hds (x := vl) rfl (wpAny_bind (wpAny_field hos hds (x := vu) rfl (wpAny_bind (wpAny_field hos hds (x := vs) rfl (wpAny_pure ?_)))))))
  refine wpAny_bind (part_of ps ?_)
  show wpAny _ _ (if ((-1 : Int) == 0) = true then _ else _) _ _ s
  rw [if_neg (by decide)]
  refine wpAny_bind (part_of pl (wpAny_bind (part_of pu (wpAny_bind (wpAny_pure ?_)))))
  show wpAny _ _ (pure ((n : Int) - 1, (-1 : Int), Builtin.Slice.slicePlaces ((n : Int) - 1) (-1) (-1))) _ _ s
  have e : Builtin.Slice.slicePlaces ((n : Int) - 1) (-1) (-1) = n := by
    unfold Builtin.Slice.slicePlaces
    have h1 : ¬ ((-1 : Int) > 0) := by decide
    simp only [h1, if_false]
    split
    · rw [show (- -1 : Int) = 1 by decide, Int.ediv_one]; omega
    · omega
  rw [e]
  exact wpAny_pure h
theorem getItem_tuple_rev {t sl : Addr} {items : Array Value} {vl vu vs : Value} {Q : Value → Shared → Prop} (ht : IsTup s.heap t items) (hs : s.heap.IsSliceOf sl vl vu vs) (pl : IsPart vl none) (pu : IsPart vu none) (ps : IsPart vs (some (-1)))
    (h : Q (.ref s.heap.objs.size) { s with heap := s.heap.push { cls := .type "tuple", data := .seq items.toList.reverse.toArray } })
    (hsz : items.size ≤ sizeLine) : wpAny (model prog w) A (getItem (.ref t) (.ref sl)) Q E s := by
  have hdrop : sizeOk (.seq items.toList.reverse.toArray) := by
    show items.toList.reverse.toArray.size ≤ sizeLine
    simpa using hsz
  obtain ⟨os, hos, hcs, hds⟩ := id hs
  have hTs : s.TypeIs (.ref sl) "slice" := ⟨os, hos, hcs⟩
  unfold getItem
  try with_reducible refine wpAny_holding ?_
  first | refine wpAny_bind (wpAny_pure ?_) | skip
  refine wpAny_bind (wpAny_sequenceKey ht.typeIs (by decide) ?_)
  refine wpAny_bind (wpAny_callSpecial?_slot (name := Str.ofString "__getitem__") ht.typeIs slot_tuple_getitem
    (wpAny_call_entry slot_tuple_getitem ht.typeIs entry_tuple_getitem ?_ (args_tuple_getitem _ _)))
  show wpAny _ _ (Builtin.Tuple.tupleItemsOf (.ref t) >>= _) _ _ s
  refine wpAny_bind (tupleItemsOf_ ht ?_)
  refine wpAny_bind (wpAny_typeOf hTs ?_)
  rw [if_pos (by decide)]
  refine wpAny_bind (applied_rev hs pl pu ps ?_)
  show wpAny _ _ (if (((items.size : Int) - 1) == 0 && (-1 : Int) == 1 && items.size == items.size) = true then _ else _) _ _ s
  rw [if_neg (by simp), rev_range items]
  first
    | exact wpAny_bind (m := Builtin.Tuple.tupleExact _) (wpAny_newObj_type (wpAny_pure ⟨_, rfl, wpAny_pure h⟩) hdrop)
    | exact wpAny_bind (m := Builtin.Tuple.tupleExact _) (wpAny_newObj_type (wpAny_bind (wpAny_pure (wpAny_pure ⟨_, rfl, wpAny_pure h⟩))) hdrop)
    | exact wpAny_bind (wpAny_bind (m := Builtin.Tuple.tupleExact _) (wpAny_newObj_type (wpAny_pure (wpAny_pure ⟨_, rfl, wpAny_pure h⟩)) hdrop))
end
def tRevT (K : PySem.W.Frag) (te : TE) : TE := fun σ H Q => te σ H fun x H1 => ∃ a xs, x = .ref a ∧ SqT K H1 a xs ∧ ∀ p, H1 p = none → Q (.ref p) (upd H1 p (.tup xs.reverse))
theorem pe_revT {X : Cx} {e : Expr} {te : TE} {k : Nat} {p1 p2 p3 pos : Pos} (he : PE X e te) : PE X (.Subscript e (.Slice none none (some (.UnaryOp .USub (.Constant (.int 1) k p1) p2)) p3) pos) (tRevT X.K te) := by
  refine ⟨fun pins s σ H Q I h => ?_⟩
  refine Subscript_ (thn (he.run pins s σ H _ I h) fun v s1 ⟨x, H1, I1, r1, q1⟩ => ?_)
  obtain ⟨a, xs, ex, hx, q⟩ := q1
  subst ex
  cases r1
  have hst : PO X (some (.UnaryOp .USub (.Constant (.int 1) k p1) p2)) (tPart (tUn (rU fun i => .int (-i)) (tC (.int 1)))) := po_some (pe_un un_neg pe_int)
  refine wpAny_Slice (thn (po_none.run pins s1 σ H1 (fun o H2 => o = none ∧ H2 = H1) I1 ⟨rfl, rfl⟩) fun vl s2 ⟨l, H2, I2, pl, el, e2⟩ => ?_)
  subst el e2
  refine thn (po_none.run pins s2 σ H2 (fun o H3 => o = none ∧ H3 = H2) I2 ⟨rfl, rfl⟩) fun vu s3 ⟨u, H3, I3, pu, eu, e3⟩ => ?_
  subst eu e3
  refine thn (hst.run pins s3 σ H3 (fun o H4 => o = some (-1) ∧ H4 = H3) I3 ⟨1, rfl, -1, rfl, rfl, rfl⟩) fun vs s4 ⟨o, H4, I4, ps, eo, e4⟩ => ?_
  subst eo e4
  have I5 : Inv X pins σ H4 { s4 with heap := s4.heap.push { cls := .type "slice", data := .fields #[vl, vu, vs] } } := I4.kept (t' := s4.toks) fun b ob q => Heap.get?_push_of_some _ q
  obtain ⟨its, r, ht, hz⟩ := I5.tuple hx
  have hlen := r.length
  show wpAny (model X.prog X.w) X.A (subscriptTail e (.Slice none none (some (.UnaryOp .USub (.Constant (.int 1) k p1) p2)) p3) (.ref a) (.ref s4.heap.objs.size)) (EP X pins σ Q) X.xe { s4 with heap := s4.heap.push { cls := .type "slice", data := .fields #[vl, vu, vs] } }
  refine tail_any (ops := [.ref a, .ref s4.heap.objs.size]) ht.typeIs slot_tuple_getitem.lookup ?_ (by with_unfolding_all rfl)
  refine getItem_tuple_rev ht (Heap.IsSliceOf.new _ vl vu vs) pl pu ps ?_ (by rw [List.size_toArray]; omega)
  refine ⟨.ref _, _, I5.laid (t' := s4.toks) (o := .tup xs.reverse) (fun b ob q => Heap.get?_push_of_some _ q) (Nat.le_refl _) ?_, rfl, q _ (I5.hok.fresh (Nat.le_refl _))⟩
  exact ⟨by rw [List.length_reverse]; exact hz, _, r.reverse, IsTup.new _ _⟩
def gRevT : D → Option SV
  | .tuple xs => some (.val (.tuple xs.reverse))
  | _ => none
def evRevT (me : EM) : EM := fun ρ => (me ρ).bind fun a => (rdD a.2 a.1).bind fun d => (gRevT d).bind fun s => some (.sv s, a.2)
theorem simRevT {k : Kx} {te : TE} {me : EM} (he : SimE k te me) : SimE k (tRevT k.K te) (evRevT me) := by
  intro F ρ σ H Q f h
  unfold evRevT at h
  refine he F ρ σ H _ f ((wpo_bind.mp h).mono fun a _ h => ?_)
  intro x F1 H1 A1 R1
  have h := wpo_bind.mp h
  cases e1 : rdD a.2 a.1 with
  | none => rw [e1] at h; exact h.elim
  | some d =>
    rw [e1] at h
    have rd := R1.rd A1.fr e1
    replace h : wpo (gRevT d) _ := wpo_bind.mp h
    unfold gRevT at h
    split at h
    · obtain ⟨p, ws, rfl, hp', hp, rl⟩ := rd.tup A1.fr.sub
      refine ⟨p, ws, rfl, hp, fun q hq => ?_⟩
      exact h _ _ _ (A1.new hq) (Rep.tup upd_same (rl.rev.mono (Sub.upd (A1.fr.sub.none_of hq))))
    · exact h.elim
theorem nRevT {X : Cx} {CT : CTab} {a : Expr} {ma : EM} {n : Nat} {p1 p2 p3 pos : Pos} : NE X CT a ma → NE X CT (.Subscript a (.Slice none none (some (.UnaryOp .USub (.Constant (.int 1) n p1) p2)) p3) pos) (evRevT ma) := fun ⟨_, pa, sa⟩ => ⟨_, pe_revT pa, simRevT (k := kx X CT) sa⟩
end Pv

/-! PwQ: what may raise, within an expression that begins with it. -/
namespace Pv
open PySem PySem.Spec PySem.SeqAt L2
section
variable {X : Cx} {CT : CTab} {W : WX} {a b c e : Expr} {es : List Expr} {ma mb me : EM} {mt : TM} {mr : AM} {pos p : Pos} {x : Str} {f : Addr} {io : Bool} {np j : Nat} {cm : CM}
end
section
variable {X : Cx} {W : WX} {a : Expr} {ma : EM} {pos : Pos}
end
end Pv

/-! PwR: for .. in l[-1], a dict; l[i], l[j] = a, b. -/
namespace Pv
open PySem PySem.Spec PySem.SeqAt L2
/-! ### l[i], l[j] = a, b -/
section
variable {X : Cx} {CT : CTab} {P : List Nat} {Wx : Option WX} {a b e : Expr} {m1 m2 me : EM}
end
/-! ### for .. in l[-1], a dict -/
section
variable {X : Cx} {CT : CTab} {P ts : List Nat} {tg : Expr} {body : List Stmt} {mg : GM} {mb : SM} {x : Str}
end
end Pv

/-! PwS: a tuple that the program names, handed on as a value: its name; a walk over such. -/
namespace Pv
open PySem PySem.Spec PySem.SeqAt L2
section
variable {X : Cx} {CT : CTab} {tg it : Expr} {me : EM}
end
end Pv

/-! PwT: {} != a tuple. -/
namespace Pv
open PySem PySem.Spec PySem.SeqAt L2
open AutoSeq1 (wpAny_loadPart')
open MeetsSeq MeetsSeq2 MeetsSeq3
end Pv

/-! PwU: l.pop(i). -/
namespace Pv
open PySem PySem.Spec PySem.SeqAt L2
section
variable {X : Cx} {CT : CTab} {e : Expr} {mr : AM} {p pos : Pos}
end
end Pv

/-! PwW: l.remove(x), items of any depth. -/
namespace Pv
open PySem PySem.Spec PySem.SeqAt L2
section
variable {X : Cx} {CT : CTab} {e : Expr} {mr : AM} {p pos : Pos}
end
end Pv

/-! PwX: a loop over a list that stays its owner's. -/
namespace Pv
open PySem PySem.Spec PySem.SeqAt L2
section
variable {X : Cx} {CT : CTab} {P ts : List Nat} {tg : Expr} {body : List Stmt} {mg : GM} {m : SM} {x : Str} {pos p : Pos}
end
end Pv

/-! PwZ: an own exception's __init__: super().__init__(x); self.f = x. -/
namespace Pv
open PySem PySem.Spec PySem.SeqAt L2 PyProof.Rows
structure SupI (P : Program) (K : PySem.W.Frag) (C fI : Addr) (x fld : Str) (name qual : Str) (params : Arguments) (body : List Stmt) (scope : Scope) (fd : FuncData) : Prop where
  ex : ∃ (oc : Value) (od : Option Addr) (osl : Array (Option Value)) (dV kV doc pm ct : Value) (an : Option Addr) (cda cc : Addr), fd = PySem.W.fnX name qual params body scope [("__class__", cc)] dV kV doc pm an (.ref cda) ct ∧
    K.lookup fI = some ⟨oc, od, .func fd, osl⟩ ∧ PySem.W.codeIn K (.ref cda) qual = true ∧
    (∃ ccl cdd vs ccs file tf, K.lookup cda = some ⟨ccl, cdd, .fields vs, ccs⟩ ∧ vs[2]? = some (.str file tf) ∧ ((P.main.file : Str) == file) = true) ∧ ∃ cl cld csl, K.lookup cc = some ⟨cl, cld, .cell (some (.ref C)), csl⟩
  cd : ∃ cdD, PySem.W.clsIn K C = some cdD ∧ PySem.W.ks_superIn K C C "__init__" = some (some (.builtin "ValueError.__init__"))
  mro : PySem.W.mroIn K C (.ref C) = some true
  ve : PySem.W.subIn K (.ref C) (.type "ValueError") = some true
  no : PySem.W.nsIn K cStatics "thirdparty.any" = some none
  T : OexC K C
  fl : PySem.W.findIn K (.ref C) fld = some none
  top : (P.main.scope.names.lookup ("super" : Str)).isSome = false
structure SupSc (x : Str) (params : Arguments) (scope : Scope) : Prop where
  sup : scope.names.lookup ("super" : Str) = some .globalImplicit
  cls : scope.names.lookup ("__class__" : Str) = some .free
  slf : scope.names.lookup ("self" : Str) = some .local
  arg : scope.names.lookup x = some .local
  kind : scope.kind = .function
  co : scope.isCoroutine = false
  gen : scope.isGenerator = false
  cell : ∀ y ∈ scope.names, y.2 ≠ .cell
  free : ∀ y, scope.names.lookup y = some .free → y = "__class__"
  hd : ∃ ar, (params.posonlyargs ++ params.args).head? = some ar ∧ ar.arg = "self"
  ne : x ≠ "self"
structure SupE (x fld qual : Str) (scope : Scope) (pl : Sem Bool) (p0 p1 p2 p3 p4 p5 p6 p7 p8 p9 : Pos) : Prop where
  ia : ∀ (L f : Addr) (cd : Value) (cl : List (Str × Addr)), interactive (PySem.W.envX qual scope L f cd cl) = false
  s1 : ∀ (L f : Addr) (cd : Value) (cl : List (Str × Addr)), swapsWith (.Call (.Attribute (.Call (.Name "super" p0) [] [] p1) "__init__" p2) [.Name x p3] [] p4) none p5.line (PySem.W.envX qual scope L f cd cl) = pure false
  ev : ∀ (L f : Addr) (cd : Value) (cl : List (Str × Addr)), eval (.Call (.Attribute (.Call (.Name "super" p0) [] [] p1) "__init__" p2) [.Name x p3] [] p4) (PySem.W.envX qual scope L f cd cl) = (do
      let ov ← attributeBase (.Call (.Name "super" p0) [] [] p1) "__init__" (PySem.W.envX qual scope L f cd cl) (eval (.Call (.Name "super" p0) [] [] p1) (PySem.W.envX qual scope L f cd cl))
      standAt p2.atName
      let (f', first) ← holding [ov] (getMethod ov "__init__" pl)
      callWith p4 f' first (backTo p4 (starEach [.Name x p3] (PySem.W.envX qual scope L f cd cl))) [])
  st : ∀ (L f : Addr) (cd : Value) (cl : List (Str × Addr)), starEach [.Name x p3] (PySem.W.envX qual scope L f cd cl) = (false, eval (.Name x p3) (PySem.W.envX qual scope L f cd cl)) :: starEach [] (PySem.W.envX qual scope L f cd cl)
  s2 : ∀ (L f : Addr) (cd : Value) (cl : List (Str × Addr)), swapsWith (.Name x p8) (some (.Attribute (.Name "self" p6) fld p7)) p9.line (PySem.W.envX qual scope L f cd cl) = pure false
end Pv

namespace Pv
open PySem PySem.Spec PySem.SeqAt L2 PyProof.Rows
def oexB (K : PySem.W.Frag) (C : Addr) : Bool := match K.lookup C with
  | some ⟨.type ty, dd, .cls ⟨nm, bs, mro, ns, qn, hd, sn, sub, ab, col, del⟩, sl⟩ => (match mro, sl with
    | .ref C' :: bm, ⟨[_, _, _, _, some (.builtin n), _]⟩ => decide (C' = C) && (decide (ty = "type") && (decide (n = "ValueError.__new__") && (hd && (!del && PySem.HandSPX.refsVE bm))))
    | _, _ => false)
  | _ => false
class PF (P : Program) (file : outParam Str) : Prop where
  fl : P.main.file = file
  sup : (P.main.scope.names.lookup ("super" : Str)).isSome = false
def cdFile (K : PySem.W.Frag) (cda : Addr) (file : Str) : Bool := match K.lookup cda with
  | some ⟨_, _, .fields vs, _⟩ => (match (vs[2]? : Option Value) with
    | some (.str fl _) => decide (fl = file)
    | _ => false)
  | _ => false
def cellIs (K : PySem.W.Frag) (cc C : Addr) : Bool := match K.lookup cc with
  | some ⟨_, _, .cell (some (.ref C')), _⟩ => decide (C' = C)
  | _ => false
def supFB (K : PySem.W.Frag) (C : Addr) (file fld : Str) : FuncData → Bool
  | ⟨_, qn, ⟨[], [⟨a0, _, _⟩, ⟨a1, _, _⟩], none, [], [], none, []⟩, .stmts [.Expr (.Call (.Attribute (.Call (.Name sn p0) [] [] p1) ini p2) [.Name x1 p3] [] p4) p5, .Assign [.Attribute (.Name sl p6) f' p7] (.Name x2 p8) p9], sc, gl, [(cn, cc)], .none, _, _, _, _, .ref cda, _, bi⟩ =>
    decide (a0 = "self") && (decide (sn = "super") && (decide (ini = "__init__") && (decide (x1 = a1) && (decide (x2 = a1) && (decide (sl = "self") && (decide (f' = fld) && (decide (cn = "__class__") && (decide (gl = mainGlobals) && (decide (bi = builtinsNs) && (PySem.W.codeIn K (.ref cda) qn && (decide (p4.line = p2.endLine) &&
    (decide (sc.kind = .function) && (decide (sc.isCoroutine = false) && (decide (sc.isGenerator = false) && (decide (sc.names.lookup ("super" : Str) = some .globalImplicit) && (decide (sc.names.lookup ("__class__" : Str) = some .free) && (decide (sc.names.lookup ("self" : Str) = some .local) && (decide (sc.names.lookup a1 = some .local) &&
    ((sc.names.all fun y => decide (y.2 ≠ .cell)) && ((sc.names.all fun y => decide (y.2 = .free → y.1 = "__class__")) && (decide (a1 ≠ "self") && (decide (a1 ≠ "__debug__") && (decide (a1 ≠ "__classdict__") && (decide (a1 = "index" ∨ a1 = "most") &&
    (cdFile K cda file && cellIs K cc C)))))))))))))))))))))))))
  | _ => false
def supCB (K : PySem.W.Frag) (C : Addr) (fld : Str) : Bool :=
  oexB K C && (He.eqO (PySem.W.findIn K (.ref C) "__setattr__") (some (some (.builtin "object.__setattr__"))) && (decide (PySem.W.subIn K (.ref C) (.type "BaseException") = some true) && (decide (PySem.W.typeIn K (.ref C) = some (.type "type")) && (PySem.W.keepIn K (.ref C) &&
  ((PySem.W.clsIn K C).isSome && (He.eqO (PySem.W.ks_superIn K C C "__init__") (some (some (.builtin "ValueError.__init__"))) && (decide (PySem.W.mroIn K C (.ref C) = some true) && (decide (PySem.W.subIn K (.ref C) (.type "ValueError") = some true) && (He.eqO (PySem.W.nsIn K cStatics "thirdparty.any") (some none) && He.eqO (PySem.W.findIn K (.ref C) fld) (some none))))))))))
structure SupC (K : PySem.W.Frag) (C : Addr) (fld : Str) : Prop where
  T : OexC K C
  cd : ∃ cdD, PySem.W.clsIn K C = some cdD ∧ PySem.W.ks_superIn K C C "__init__" = some (some (.builtin "ValueError.__init__"))
  mro : PySem.W.mroIn K C (.ref C) = some true
  ve : PySem.W.subIn K (.ref C) (.type "ValueError") = some true
  no : PySem.W.nsIn K cStatics "thirdparty.any" = some none
  fl : PySem.W.findIn K (.ref C) fld = some none
def supB (K : PySem.W.Frag) (file x fld : Str) : Bool := (supCB K (He.ga K x) fld && xfB K (He.ga K x)) && (match PySem.W.findIn K (.ref (He.ga K x)) "__init__" with
  | some (some (.ref fI)) => decide (PySem.W.typeIn K (.ref fI) = some (.type "function")) && (match K.lookup fI with
    | some ⟨_, _, .func fd, _⟩ => supFB K (He.ga K x) file fld fd
    | _ => false)
  | _ => false)
structure PX (P : Program) (K : PySem.W.Frag) (file : Str) (l : List (Str × Str)) : Prop where
  pf : PF P file
  sp : (l.all fun z => supB K file z.1 z.2) = true
theorem PX.at_ {P : Program} {K : PySem.W.Frag} {file : Str} {l : List (Str × Str)} (h : PX P K file l) (i : Nat) {x f : Str} (e : l[i]? = some (x, f)) : supB K file x f = true := List.all_eq_true.mp h.sp _ (List.mem_of_getElem? e)
structure FxP (P : Program) (file : Str) (l : List (Str × Str)) (fa : List He.Fa) (fn : List He.DefD) (cs : ClsT) (K : PySem.W.Frag) (mg : Str → Option Value) : Prop extends Fx fa fn cs K mg where
  px : PX P K file l
abbrev exP (cs : ClsT) (file : Str) (l : List (Str × Str)) (K : PySem.W.Frag) : Bool := exK cs K && l.all fun z => supB K file z.1 z.2
theorem FxP.of {P : Program} {file : Str} {l : List (Str × Str)} {fa : List He.Fa} {fn : List He.DefD} {cs : ClsT} {K : PySem.W.Frag} {mg : Str → Option Value} {w : World} {h : Heap} (X : K.In h) (G : h.Ns mainGlobals mg) (pf : PF P file) (c : He.SaysX fa fn [] [] (exP cs file l) w h K) : FxP P file l fa fn cs K mg :=
  ⟨Fx.of X G ⟨c.t, (He.ba c.more).1, c.hd, c.out, c.empty⟩, pf, (He.ba c.more).2⟩
/-! the hook that tells the interpreter's own statics too -/
section
variable {X : Cx} {CT : CTab} {P : List Nat} {Wx : Option WX} {W : WX}
end
end Pv
namespace PySem.W
open PySem PySem.Spec PySem.Calls PyProof.Rows L2
section
variable {prog : Program} {w : World} {A : Around} {E : Value → Shared → Prop} {s : Shared} {K : Frag} {x D : Addr} {ox : Obj} {od : Option Obj}
end
end PySem.W
namespace Pv
open PySem PySem.Spec PySem.SeqAt L2 PyProof.Rows
section
variable {X : Cx} {CT : CTab} {P : List Nat} {Wx : Option WX} {W : WX}
end
end Pv

/-! PxA: defs that change their last argument. -/
namespace Pv
open PySem PySem.Spec PySem.SeqAt L2
def rotL {α : Type} (l : List α) : List α := match l.getLast? with
  | some a => a :: l.dropLast
  | none => []
theorem rotL_snoc {α : Type} (l : List α) (a : α) : rotL (l ++ [a]) = a :: l := by unfold rotL; simp
def unrot {α : Type} : List α → List α
  | a :: l => l ++ [a]
  | [] => []
theorem snoc_of {α : Type} {l : List α} (h : l ≠ []) : ∃ m a, l = m ++ [a] := ⟨l.dropLast, l.getLast h, (List.dropLast_concat_getLast h).symm⟩
def spQ (k : Kx) (np : Nat) (cm : CM) : Sp := fun vs H Q E => spF k true np cm (rotL vs) H Q E
theorem rotL_len {α : Type} (l : List α) : (rotL l).length = l.length := by
  by_cases h : l = []
  · subst h; rfl
  · obtain ⟨m, a, rfl⟩ := snoc_of h
    rw [rotL_snoc]; simp
theorem spQ_len {k : Kx} {np : Nat} {cm : CM} {vs : List V} {H : Hp} {Q : VK} {E : XK} (h : spQ k np cm vs H Q E) : vs.length = np := by
  obtain ⟨_, _, _, _, hl, _⟩ := h
  rw [← rotL_len]; exact hl
section
variable {k : Kx} {F H : Hp}
theorem ArgsR.mk' : ∀ {ss : List SV} {vs : List V}, ss.length = vs.length → (∀ (i : Nat) (s : SV) (v : V), ss[i]? = some s → vs[i]? = some v → ArgR k F H s v) → (∀ (i j : Nat) (o o' : OB) (v : V), ss[i]? = some (.own o) → ss[j]? = some (.own o') → vs[i]? = some v → vs[j]? = some v → i = j) → ArgsR k F H ss vs
  | [], [], _, _, _ => .nil
  | [], _ :: _, h, _, _ => by simp at h
  | _ :: _, [], h, _, _ => by simp at h
  | s :: ss, v :: vs, h, h1, h2 => by
    refine .cons (h1 0 s v rfl rfl) (ArgsR.mk' (by simpa using h) (fun i s v a b => h1 (i + 1) s v (by simpa using a) (by simpa using b)) fun i j o o' v a b c d => ?_) fun o e j o' a b => ?_
    · have := h2 (i + 1) (j + 1) o o' v (by simpa using a) (by simpa using b) (by simpa using c) (by simpa using d)
      omega
    · have := h2 0 (j + 1) o o' v (by simp [e]) (by simpa using a) rfl (by simpa using b)
      omega
theorem get_rot {α : Type} {l : List α} {a : α} {i : Nat} {x : α} (h : (l ++ [a])[i]? = some x) : (i < l.length ∧ (a :: l)[i + 1]? = some x) ∨ (i = l.length ∧ (a :: l)[0]? = some x) := by
  by_cases e : i < l.length
  · rw [List.getElem?_append_left e] at h
    exact .inl ⟨e, by simpa using h⟩
  · have hi : i < (l ++ [a]).length := (List.getElem?_eq_some_iff.mp h).1
    have ei : i = l.length := by simp at hi; omega
    subst ei
    rw [List.getElem?_concat_length] at h
    exact .inr ⟨rfl, by simpa using h⟩
theorem rot_get {α : Type} {l : List α} {a : α} {i : Nat} {x : α} (h : (a :: l)[i]? = some x) : ∃ j, (l ++ [a])[j]? = some x ∧ (i = 0 → j = l.length) ∧ (i ≠ 0 → j + 1 = i) := by
  cases i with
  | zero => exact ⟨l.length, by rw [List.getElem?_concat_length]; simpa using h, fun _ => rfl, fun h => absurd rfl h⟩
  | succ i =>
    have h : l[i]? = some x := by simpa using h
    have := (List.getElem?_eq_some_iff.mp h).1
    exact ⟨i, by rw [List.getElem?_append_left this]; exact h, fun h => by omega, fun _ => rfl⟩
theorem ArgsR.unrot {s : SV} {v : V} {ss : List SV} {vs : List V} (h : ArgsR k F H (s :: ss) (v :: vs)) : ArgsR k F H (ss ++ [s]) (vs ++ [v]) := by
  have hl := h.len
  have hl : ss.length = vs.length := by simpa using hl
  refine ArgsR.mk' (by simp [hl]) (fun i s' v' a b => ?_) fun i j o o' v' a b c d => ?_
  · rcases get_rot a with ⟨h1, a⟩ | ⟨h1, a⟩ <;> rcases get_rot b with ⟨h2, b⟩ | ⟨h2, b⟩ <;> try omega
    · obtain ⟨u, e, r⟩ := h.get a
      rw [b] at e; cases e; exact r
    · obtain ⟨u, e, r⟩ := h.get a
      rw [b] at e; cases e; exact r
  · rcases get_rot a with ⟨h1, a⟩ | ⟨h1, a⟩ <;> rcases get_rot b with ⟨h2, b⟩ | ⟨h2, b⟩ <;> rcases get_rot c with ⟨h3, c⟩ | ⟨h3, c⟩ <;> rcases get_rot d with ⟨h4, d⟩ | ⟨h4, d⟩ <;> try omega
    · have := h.dist a b c d; omega
    · have := h.dist a b c d; omega
    · have := h.dist a b c d; omega
theorem own_rot {s : SV} {v : V} {ss : List SV} {vs : List V} (hl : ss.length = vs.length) : ArgOwn (s :: ss) (v :: vs) = ArgOwn (ss ++ [s]) (vs ++ [v]) := by
  funext p
  refine propext ⟨fun ⟨i, o, a, b⟩ => ?_, fun ⟨i, o, a, b⟩ => ?_⟩
  · obtain ⟨j, a, j0, j1⟩ := rot_get a
    obtain ⟨j', b, j0', j1'⟩ := rot_get b
    have : j = j' := by
      by_cases e : i = 0
      · rw [j0 e, j0' e, hl]
      · have := j1 e; have := j1' e; omega
    subst this
    exact ⟨j, o, a, b⟩
  · rcases get_rot a with ⟨h1, a⟩ | ⟨h1, a⟩ <;> rcases get_rot b with ⟨h2, b⟩ | ⟨h2, b⟩ <;> try omega
    · exact ⟨_, o, a, b⟩
    · exact ⟨_, o, a, b⟩
end
def retQ (q : Nat) (ρ : Rho) : Rv → Option (SV × Rho)
  | .sv s => some (s, ρ)
  | .plc j => match ρ[j]? with
    | some (some (.val d)) => some (.val d, ρ)
    | some (some (.own o)) => some (.val o.d, ρ.set j (some (.val o.d)))
    | _ => none
def outQ (q : Nat) (ρ : Rho) : Option SV := match ρ[q]? with
    | some (some s) => some s
    | _ => none
def runQ' (q nl : Nat) (mb : SM) : CM := fun args => (mb (args.map some ++ List.replicate (nl - args.length) none)).bind fun a => match a.1 with
  | .nx => (outQ q a.2).bind fun o => some (.val .none, o)
  | .ret r => (retQ q a.2 r).bind fun b => match b.1 with
    | .val d => (outQ q b.2).bind fun o => some (.val d, o)
    | _ => none
  | _ => none
def runQ (np nl : Nat) (mb : SM) : CM := fun args => runQ' (np - 1) nl mb (unrot args)
theorem runQ_gen {k : Kx} {H : Hp} {np nl : Nat} {ts : TS} {mb : SM} {N : List Str} (hN : N.length = nl) (hb : SimS k [np - 1] none ts mb) {vs : List V} {Q : VK} {E : XK} (hsp : spQ k np (runQ np nl mb) vs H Q E) (h0 : 0 < np) :
    ts { nx := fun _ H' => Q .non H', rt := Q } (L2.start N vs) H := by
  have hl := spQ_len hsp
  obtain ⟨F, args0, sb, ar0, hl0, h⟩ := hsp
  obtain ⟨xs, u, rfl⟩ := snoc_of (l := vs) (by rintro rfl; simp at hl; omega)
  rw [rotL_snoc] at ar0 h hl0
  cases ar0 with
  | @cons s _ ss _ a1 a2 a3 =>
    have ar := ArgsR.unrot (.cons a1 a2 a3)
    have al0 := a2.len
    have AO := own_rot (s := s) (v := u) al0
    have hq : np - 1 = xs.length := by simp at hl; omega
    have gu : (xs ++ [u])[np - 1]? = some u := by rw [hq, List.getElem?_concat_length]
    unfold runQ runQ' at h
    have h : wpo ((mb ((ss ++ [s]).map some ++ List.replicate (nl - (ss ++ [s]).length) none)).bind fun a => match a.1 with
      | .nx => (outQ (np - 1) a.2).bind fun o => some ((SV.val .none, o) : SV × SV)
      | .ret r => (retQ (np - 1) a.2 r).bind fun b => match b.1 with
        | .val d => (outQ (np - 1) b.2).bind fun o => some (.val d, o)
        | _ => none
      | _ => none) _ := h
    have al := ar.len
    let e : Ent := ⟨F, H, ArgOwn (ss ++ [s]) (xs ++ [u]), [(np - 1, u)]⟩
    have s0 : SInv k e ((ss ++ [s]).map some ++ List.replicate (nl - (ss ++ [s]).length) none) (L2.start N (xs ++ [u])) F H := by
      refine ⟨⟨sb.sub, ?_, fun i d q => ?_, fun i o q => ?_, fun i j o o' p e1 e2 e3 e4 => ?_, sb.tabs⟩, Tr.refl, fun p z => .inl ?_, fun q hq => ?_⟩
      · unfold L2.start
        simp only [List.length_append, List.length_map, List.length_replicate] at al ⊢
        omega
      · obtain ⟨v, h1, h2⟩ := ar.get (start_get q)
        exact ⟨v, start_of h1, h2⟩
      · obtain ⟨v, h1, p, ho, rfl, h2⟩ := ar.get (start_get q)
        exact ⟨p, ho, start_of h1, h2⟩
      · exact ar.dist (start_get e1) (start_get e2) (start_get e3) (start_get e4)
      · obtain ⟨i, o, e1, e2⟩ := z
        exact ⟨i, o, start_get e1, start_get e2⟩
      · have hq : q ∈ [(np - 1, u)] := hq
        rw [List.mem_singleton.mp hq]
        exact start_of gu
    have hP : ∀ q ∈ e.pr, q.1 ∈ [np - 1] := fun q hq => by
      have hq : q ∈ [(np - 1, u)] := hq
      rw [List.mem_singleton.mp hq]; simp
    have outs : ∀ {ρ : Rho} {σ : L2.St} {F' H' : Hp} {s : SV}, SInv k e ρ σ F' H' → outQ (np - 1) ρ = some s → (true = true → ∃ w, (u :: xs)[0]? = some w ∧ ArgR k F' H' s w) := by
      intro ρ σ F' H' s si ho _
      unfold outQ at ho
      split at ho
      · rename_i s' hs
        cases ho
        refine ⟨u, rfl, ?_⟩
        have hp : σ[np - 1]? = some (some u) := si.pr (np - 1, u) (by show _ ∈ [(np - 1, u)]; simp)
        cases s with
        | val d =>
          obtain ⟨v, h1, h2⟩ := si.fr.vals _ d hs
          rw [hp] at h1; cases h1; exact h2
        | own o =>
          obtain ⟨p, ho, h1, h2⟩ := si.fr.owns _ o hs
          rw [hp] at h1; cases h1; exact ⟨p, ho, rfl, h2⟩
      · cases ho
    have tr_ : ∀ {F' H' : Hp}, Tr (ArgOwn (ss ++ [s]) (xs ++ [u])) F H F' H' → Tr (ArgOwn (s :: ss) (u :: xs)) F H F' H' := fun {F' H'} t => by rw [AO]; exact t
    refine hb e _ _ F H _ hP s0 ((wpo_bind.mp h).mono fun a _ h => ?_)
    obtain ⟨fl, ρ1⟩ := a
    cases fl with
    | nx =>
      intro σ F' H' s'
      have h := wpo_bind.mp h
      cases eo : outQ (np - 1) ρ1 with
      | none => rw [eo] at h; exact h.elim
      | some o =>
        rw [eo] at h
        exact h .non F' H' ⟨s'.fr.sub, s'.fr.tabs⟩ (tr_ s'.tr) .non (outs s' eo)
    | ret r =>
      refine ⟨?_, fun W hW => by cases hW⟩
      intro v σ F' H' s' R
      have h := wpo_bind.mp h
      cases er : retQ (np - 1) ρ1 r with
      | none => rw [er] at h; exact h.elim
      | some b =>
        rw [er] at h
        obtain ⟨b1, b2⟩ := b
        cases b1 with
        | own o => exact h.elim
        | val d =>
          have h : wpo ((outQ (np - 1) b2).bind fun o => some ((SV.val d, o) : SV × SV)) _ := h
          have h := wpo_bind.mp h
          cases eo : outQ (np - 1) b2 with
          | none => rw [eo] at h; exact h.elim
          | some o =>
            rw [eo] at h
            have hQ : ∀ v F' H', SubT k F' H' → Tr (ArgOwn (s :: ss) (u :: xs)) F H F' H' → ResR k (ArgGiv true (s :: ss) (u :: xs)) H F' H' (.val d) v → (true = true → ∃ w, (u :: xs)[0]? = some w ∧ ArgR k F' H' o w) → Q v H' := h
            clear h
            match r, R with
            | .sv s1, R =>
              have er : some (s1, ρ1) = some (SV.val d, b2) := er
              cases er
              exact hQ v F' H' ⟨s'.fr.sub, s'.fr.tabs⟩ (tr_ s'.tr) R (outs s' eo)
            | .plc j, ⟨R1, _⟩ =>
              unfold retQ at er
              dsimp only at er
              split at er
              · rename_i d' e1
                cases er
                obtain ⟨v', h1, h2⟩ := s'.fr.vals j _ e1
                rw [R1] at h1; cases h1
                exact hQ v F' H' ⟨s'.fr.sub, s'.fr.tabs⟩ (tr_ s'.tr) h2 (outs s' eo)
              · rename_i ob e1
                cases er
                obtain ⟨F2, A2, _, r2, _⟩ := frz1_ok (r := .plc j) (v := v) s'.fr (Aft.refl s'.fr) ⟨R1, _, e1⟩ (show frz1 ρ1 (.plc j) = some (ob.d, ρ1.set j (some (.val ob.d))) by simp [frz1, e1])
                have s2 := s'.aft A2
                exact hQ v F2 H' ⟨s2.fr.sub, s2.fr.tabs⟩ (tr_ s2.tr) r2 (outs s2 eo)
              · cases er
    | bk => exact h.elim
    | ct => exact h.elim
section
variable {P : Program} {w : World} {K : PySem.W.Frag} {mg : Str → Option Value} {base : Heap} {x qual : Str} {params : Arguments} {body : List Stmt} {scope : Scope} {f : Addr} {fd : FuncData}
end
def tRot (ta : TA) : TA := fun σ H Q => ta σ H fun vs H1 => Q (rotL vs) H1
def evRotP (ma : AM) : AM := fun ρ => (ma ρ).bind fun a => match a.1.getLast? with
  | some (.plc _) => some (rotL a.1, a.2)
  | _ => none
section
variable {k : Kx} {F : Hp} {ρ : Rho} {σ : L2.St} {H : Hp}
theorem RRs.snoc : ∀ {rs : List Rv} {r : Rv} {H0 : Hp} {vs : List V}, RRs k F ρ σ H H0 (rs ++ [r]) vs → ∃ ws v Hn, vs = ws ++ [v] ∧ RRs k F ρ σ H H0 rs ws ∧ (∀ p, H0 p ≠ none → Hn p ≠ none) ∧ RR k Hn F ρ σ H r v
  | [], r, H0, _, .cons a b c d => by
    cases b
    exact ⟨[], _, H0, rfl, .nil, fun _ h => h, a⟩
  | r0 :: rs, r, H0, _, .cons a b c d => by
    obtain ⟨ws, v, Hn, rfl, h1, h2, h3⟩ := RRs.snoc b
    exact ⟨_ :: ws, v, Hn, rfl, .cons a h1 c d, fun p h => h2 p (c p h), h3⟩
end
theorem simRotP {k : Kx} {ta : TA} {ma : AM} (ha : SimA k ta ma) : SimA k (tRot ta) (evRotP ma) := by
  intro F ρ σ H Q f h
  unfold evRotP at h
  refine ha F ρ σ H _ f ((wpo_bind.mp h).mono fun a _ h => ?_)
  intro vs F1 H1 A1 R1
  split at h
  · rename_i j e
    have ne : a.1 ≠ [] := by intro z; rw [z] at e; cases e
    obtain ⟨m, r, em⟩ := snoc_of ne
    rw [em, List.getLast?_concat] at e
    cases e
    rw [em] at R1
    obtain ⟨ws, v, Hn, rfl, h1, h2, h3⟩ := RRs.snoc R1
    refine h _ F1 H1 A1 ?_
    show RRs k F1 a.2 σ H1 H (rotL a.1) (rotL (ws ++ [v]))
    rw [em, rotL_snoc, rotL_snoc]
    exact .cons h3 h1 (fun _ z => z) fun o e => by cases e
  · exact h.elim
theorem tCall_rot {k : Kx} {np : Nat} {cm : CM} {E : XK} {ta : TA} : tCall (spQ k np cm) [] E ta = tCall (spF k true np cm) [] E (tRot ta) := by
  funext σ H Q
  simp only [tCall, tRot, spQ, List.append_nil]
section
variable {X : Cx} {CT : CTab} {x : Str} {p pos : Pos} {e : Expr} {es : List Expr} {f : Addr} {np j : Nat} {cm : CM} {mr : AM}
end
/-! a or b of tuples -/
end Pv

/-! PxB: sorted(d), d a dict with tuple keys -/
namespace Pv
open PySem PySem.Spec PySem.SeqAt PySem.Calls PyProof.Rows L2
end Pv
/-! name = {k: v for ..} on one line, the name a local -/
namespace Pv
open PySem PySem.Spec PySem.SeqAt PySem.Calls PyProof.Rows L2
end Pv
namespace Pv
open PySem PySem.Spec PySem.SeqAt L2
end Pv

/-! PxC: items of two lists set at once -/
namespace Pv
open PySem PySem.Spec PySem.SeqAt L2
section
variable {X : Cx} {CT : CTab} {P : List Nat} {Wx : Option WX} {a b e : Expr} {m1 m2 me : EM}
end
end Pv

/-! PxD: sorted(set(list of tuples of ints)), of one length -/
namespace Pv
open PySem PySem.Spec PySem.SeqAt L2
section
variable {X : Cx} {CT : CTab} {pos p : Pos} {e : Expr} {mr : AM}
end
end Pv

/-! PxE: str(int) -/
namespace Pv
open PySem PySem.Spec PySem.SeqAt L2
end Pv

/-! PxF: C(..) that may raise -/
namespace Pv
open PySem PySem.Spec PySem.SeqAt L2
section
variable {X : Cx} {CX : CXT} {k : Nat} {f C : Addr} {fd : FuncData} {ps : List Str} {sp : Sp} {E : St → XK} {x : Str} {p pos : Pos} {e : Expr} {es : List Expr} {t : TA}
end
end Pv

/-! PxG: the module's run in two parts. -/
namespace Pv
open PySem PySem.Spec PySem.SeqAt L2
end Pv

/-! PxH: == of two instances of one class by its own __eq__. -/
namespace Pv
open PySem PySem.Spec PySem.SeqAt L2
end Pv

/-! PxI: dict comprehensions whose keys are ints. -/
namespace Pv
open PySem PySem.Spec PySem.SeqAt L2
abbrev KD := List (List Int) × List D
structure CID (k : Kx) (e : Ent) (ρ0 ρ : Rho) (σ : L2.St) (F H : Hp) (T : Addr) (acc : List V) (a : KD) : Prop where
  s : SInv k e ρ σ F H
  ow : ∀ p, Own ρ σ p → Own ρ0 σ p
  sl : ∀ (i : Nat) (x : SV), ρ0[i]? = some (some x) → ∃ x', ρ[i]? = some (some x')
  hT : H T = some (.dK ((a.1.map iKey).zip acc))
  fT : F T = none
  one : ∀ y ∈ a.1, y.length = 1
  len : a.1.length = acc.length
  r : RepL k F acc a.2
theorem CID.aft {k : Kx} {e : Ent} {ρ0 ρ ρ' : Rho} {σ : L2.St} {F H F' H' : Hp} {T : Addr} {acc : List V} {a : KD} (c : CID k e ρ0 ρ σ F H T acc a) (nO : ¬ Own ρ0 σ T) (A : Aft k ρ σ F H ρ' F' H') : CID k e ρ0 ρ' σ F' H' T acc a :=
  ⟨c.s.aft A, fun p z => c.ow p (A.ow p z), fun i x q => let ⟨x', q'⟩ := c.sl i x q; A.sl i x' q', A.tr.keep T _ c.hT trivial fun z => nO (c.ow T z), A.tr.new T _ c.hT trivial c.fT fun z => nO (c.ow T z), c.one, c.len, c.r.mono A.tr.sub⟩
section
variable {X : Cx} {CT : CTab} {ts : List Nat} {tg it ke vx : Expr} {mi : IM} {mg : GM} {mt : TM} {mk mv : EM} {pos : Pos}
end
end Pv

/-! PxJ: dict(l) of a list of pairs; what raises, indexed or cut. -/
namespace Pv
open PySem PySem.Spec PySem.SeqAt PyProof.Rows L2
/-! len(set(xs)), xs a list of ints -/
section
variable {X : Cx} {CT : CTab} {a : Expr} {ma : EM} {p p2 q pos : Pos}
end
section
variable {X : Cx} {CT : CTab} {W : WX} {a b : Expr} {ma mb : EM} {pos : Pos}
end
end Pv
namespace Pv
open PySem PySem.Spec PySem.SeqAt L2
section
variable {X : Cx} {CT : CTab} {ts : List Nat} {tg : Expr} {mg : GM} {mt : TM} {me : EM} {pos p : Pos} {x : Str} {e : Expr} {P : List Nat} {Wx : Option WX}
end
end Pv

/-! PxK: a + b where both may raise; (raising,). -/
namespace Pv
open PySem PySem.Spec PySem.SeqAt L2
section
variable {X : Cx} {CT : CTab} {W : WX} {a b : Expr} {ma mb : EM} {pos : Pos}
end
section
variable {X : Cx} {CT : CTab} {P : List Nat} {Wx : Option WX}
end
end Pv

/-! Tv1: typed readings of the pure functions: encoders, judgments, expressions. -/
namespace Tv
open PySem Pv
abbrev PT (α : Type) := (α → Prop) → Prop
abbrev eI : Int → D := PyData.int
abbrev eB : Bool → D := PyData.bool
abbrev eS : Str → D := PyData.str
def eU : Unit → D := fun _ => .none
def eT {α : Type} (e : α → D) (l : List α) : D := .tuple (l.map e)
def eL {α : Type} (e : α → D) (l : List α) : D := .list (l.map e)
def eP {α β : Type} (e : α → D) (f : β → D) (p : α × β) : D := .tuple [e p.1, f p.2]
def eQ {α β γ : Type} (e : α → D) (f : β → D) (g : γ → D) (p : α × β × γ) : D := .tuple [e p.1, f p.2.1, g p.2.2]
def eO {α : Type} (e : α → D) : Option α → D
  | none => .none
  | some a => e a
abbrev vV {α : Type} (e : α → D) : α → SV := fun a => .val (e a)
abbrev vL {α : Type} (e : α → D) : List α → SV := fun l => .own (.lst (l.map e))

section
variable {ω X Y α β γ δ σ : Type} {R R1 R2 R3 : ω → Rho}
def W (m : Rho → Option (X × Rho)) (R : ω → Rho) (k : α → X) (T : PT α) (R' : ω → Rho) : Prop := ∀ w Q, T Q → ∃ a w', Q a ∧ m (R w) = some (k a, R' w')
abbrev WE (m : EM) (R : ω → Rho) (k : α → Rv) (T : PT α) (R' : ω → Rho) : Prop := W m R k T R'
abbrev ret (x : α) : PT α := fun Q => Q x

/-! names, constants -/
theorem wVar (i : Nat) (e : α → D) (x : α) (h : ∀ w, (R w)[i]? = some (some (.val (e x))) := by intro _; rfl) : WE (evVar i) R (fun a => .sv (.val (e a))) (fun Q => Q x) R := fun w Q q => ⟨x, w, q, by simp only [evVar, h w]⟩
theorem wPlc (i : Nat) (o : OB) (h : ∀ w, (R w)[i]? = some (some (.own o)) := by intro _; rfl) : WE (evVar i) R (fun _ : Unit => .plc i) (fun Q => Q ()) R := fun w Q q => ⟨(), w, q, by simp only [evVar, h w]⟩
theorem wC (e : α → D) (x : α) : WE (evC (e x)) R (fun a => .sv (.val (e a))) (fun Q => Q x) R := fun w Q q => ⟨x, w, q, rfl⟩
theorem wInt (x : Int) : WE (evC (.int x)) R (fun a => .sv (.val (eI a))) (fun Q => Q x) R := wC eI x
theorem wBl (x : Bool) : WE (evC (.bool x)) R (fun a => .sv (.val (eB a))) (fun Q => Q x) R := wC eB x
theorem wNon : WE (evC .none) R (fun a => .sv (.val (eU a))) (fun Q => Q ()) R := wC eU ()
theorem wSome {m : EM} {e : α → D} {T : PT α} (h : WE m R (fun a => .sv (.val (e a))) T R1) : WE m R (fun a => .sv (.val (eO e a))) (fun Q => T fun a => Q (some a)) R1 := fun w Q q => by
  obtain ⟨a, w', h1, h2⟩ := h w _ q
  exact ⟨some a, w', h1, h2⟩
theorem wNone {m : EM} {e : α → D} {T : PT Unit} (h : WE m R (fun a => .sv (.val (eU a))) T R1) : WE m R (fun a => .sv (.val (eO e a))) (fun Q => T fun _ => Q none) R1 := fun w Q q => by
  obtain ⟨a, w', h1, h2⟩ := h w _ q
  exact ⟨none, w', h1, h2⟩

/-! operators -/
def Op1 (g : D → Option SV) (x : D) (s : γ → SV) (T : PT γ) : Prop := ∀ Q, T Q → ∃ c, Q c ∧ g x = some (s c)
def Op2 (g : D → D → Option SV) (x y : D) (s : γ → SV) (T : PT γ) : Prop := ∀ Q, T Q → ∃ c, Q c ∧ g x y = some (s c)
def OpN (g : List D → Option SV) (xs : List D) (s : γ → SV) (T : PT γ) : Prop := ∀ Q, T Q → ∃ c, Q c ∧ g xs = some (s c)
variable {ma mb mc : EM} {ra : α → Rv} {rb : β → Rv} {rc : γ → Rv} {Ta : PT α} {Tb : PT β} {Tc : PT γ}
theorem wBin {g : D → D → Option SV} {s : γ → SV} {d1 : α → D} {d2 : β → D} {top : α → β → PT γ} (ha : WE ma R ra Ta R1) (hb : WE mb R1 rb Tb R2) (ho : ∀ a b, Op2 g (d1 a) (d2 b) s (top a b)) (h1 : ∀ w a, rdD (R2 w) (ra a) = some (d1 a) := by intro _ _; rfl) (h2 : ∀ w b, rdD (R2 w) (rb b) = some (d2 b) := by intro _ _; rfl) :
    WE (evBin g ma mb) R (fun c => .sv (s c)) (fun Q => Ta fun a => Tb fun b => top a b Q) R2 := fun w Q q => by
  obtain ⟨a, w1, q1, e1⟩ := ha w _ q
  obtain ⟨b, w2, q2, e2⟩ := hb w1 _ q1
  obtain ⟨c, q3, e3⟩ := ho a b _ q2
  exact ⟨c, w2, q3, by simp only [evBin, e1, e2, h1, h2, e3, Option.bind_some]⟩
theorem wUn {g : D → Option SV} {s : γ → SV} {d1 : α → D} {top : α → PT γ} (ha : WE ma R ra Ta R1) (ho : ∀ a, Op1 g (d1 a) s (top a)) (h1 : ∀ w a, rdD (R1 w) (ra a) = some (d1 a) := by intro _ _; rfl) : WE (evUn g ma) R (fun c => .sv (s c)) (fun Q => Ta fun a => top a Q) R1 := fun w Q q => by
  obtain ⟨a, w1, q1, e1⟩ := ha w _ q
  obtain ⟨c, q3, e3⟩ := ho a _ q1
  exact ⟨c, w1, q3, by simp only [evUn, e1, h1, e3, Option.bind_some]⟩
/-! arguments -/
variable {mr : AM} {rr : β → List Rv} {Tr : PT β}
theorem wNil : W evNil R (fun _ : Unit => ([] : List Rv)) (fun Q => Q ()) R := fun w Q q => ⟨(), w, q, rfl⟩
theorem wCons (ha : WE ma R ra Ta R1) (hr : W mr R1 rr Tr R2) : W (evCons ma mr) R (fun p : α × β => ra p.1 :: rr p.2) (fun Q => Ta fun a => Tr fun b => Q (a, b)) R2 := fun w Q q => by
  obtain ⟨a, w1, q1, e1⟩ := ha w _ q
  obtain ⟨b, w2, q2, e2⟩ := hr w1 _ q1
  exact ⟨(a, b), w2, q2, by simp only [evCons, e1, e2, Option.bind_some]⟩
variable {ms : AM} {rs : α → List Rv} {Ts : PT α}
theorem wCall {g : List D → Option SV} {s : γ → SV} {ds : α → List D} {top : α → PT γ} (ha : W ms R rs Ts R1) (ho : ∀ a, OpN g (ds a) s (top a)) (h1 : ∀ w a, rdAll (R1 w) (rs a) = some (ds a) := by intro _ _; rfl) :
    WE (evCall g ms) R (fun c => .sv (s c)) (fun Q => Ts fun a => top a Q) R1 := fun w Q q => by
  obtain ⟨a, w1, q1, e1⟩ := ha w _ q
  obtain ⟨c, q3, e3⟩ := ho a _ q1
  exact ⟨c, w1, q3, by simp only [evCall, e1, h1, e3, Option.bind_some]⟩
theorem wTup {e : γ → D} {f : α → γ} {ds : α → List D} (ha : W ms R rs Ts R1) (he : ∀ a, e (f a) = .tuple (ds a)) (h1 : ∀ w a, frzs (R1 w) (rs a) = some (ds a, R2 w) := by intro _ _; rfl) (hl : ∀ a, (ds a).length ≤ sizeLine := by intro _; (try simp only [List.map_cons, List.map_nil, List.length_cons, List.length_nil]); decide) :
    WE (evTup ms) R (fun c => .sv (.val (e c))) (fun Q => Ts fun a => Q (f a)) R2 := fun w Q q => by
  obtain ⟨a, w1, q1, e1⟩ := ha w _ q
  exact ⟨f a, w1, q1, by simp only [evTup, e1, h1, Option.bind_some, if_pos (hl a), he]⟩
theorem wLst {e : γ → D} {f : α → List γ} {ds : α → List D} (ha : W ms R rs Ts R1) (he : ∀ a, (f a).map e = ds a := by intro _; rfl) (h1 : ∀ w a, frzs (R1 w) (rs a) = some (ds a, R2 w) := by intro _ _; rfl) (hl : ∀ a, (ds a).length ≤ sizeLine := by intro _; (try simp only [List.map_cons, List.map_nil, List.length_cons, List.length_nil]); decide) :
    WE (evLst ms) R (fun c => .sv (.own (.lst (c.map e)))) (fun Q => Ts fun a => Q (f a)) R2 := fun w Q q => by
  obtain ⟨a, w1, q1, e1⟩ := ha w _ q
  exact ⟨f a, w1, q1, by simp only [evLst, e1, h1, Option.bind_some, if_pos (hl a), he]⟩
/-! tests -/
theorem wTb {Tb : PT Bool} (ha : WE ma R (fun a => .sv (.val (eB a))) Tb R1) : W (tvB ma) R (fun b : Bool => b) Tb R1 := fun w Q q => by
  obtain ⟨a, w1, q1, e1⟩ := ha w _ q
  exact ⟨a, w1, q1, by simp [tvB, e1, rdD, toB, SV.d, eB]⟩
theorem wYes : W tvYes R (fun b : Bool => b) (fun Q => Q true) R := fun w Q q => ⟨true, w, q, rfl⟩
variable {mt mu : TM} {Tt Tu : PT Bool}
theorem wTNot (h : W mt R (fun b : Bool => b) Tt R1) : W (tvNot mt) R (fun b : Bool => b) (fun Q => Tt fun b => Q (!b)) R1 := fun w Q q => by
  obtain ⟨a, w1, q1, e1⟩ := h w _ q
  exact ⟨!a, w1, q1, by simp only [tvNot, e1, Option.bind_some]⟩
def andW (Ta Tb : PT Bool) : PT Bool := fun Q => Ta fun a => if a = true then Tb Q else Q false
def orW (Ta Tb : PT Bool) : PT Bool := fun Q => Ta fun a => if a = true then Q true else Tb Q
theorem wTAnd (h : W mt R (fun b : Bool => b) Tt R1) (h2 : W mu R1 (fun b : Bool => b) Tu R1) : W (tvAnd mt mu) R (fun b : Bool => b) (andW Tt Tu) R1 := fun w Q q => by
  obtain ⟨a, w1, q1, e1⟩ := h w _ q
  cases a with
  | true =>
    rw [if_pos rfl] at q1
    obtain ⟨b, w2, q2, e2⟩ := h2 w1 _ q1
    exact ⟨b, w2, q2, by simp only [tvAnd, e1, e2, Option.bind_some, if_true]⟩
  | false =>
    rw [if_neg (by decide)] at q1
    exact ⟨false, w1, q1, by simp only [tvAnd, e1, Option.bind_some]; rfl⟩
theorem wTOr (h : W mt R (fun b : Bool => b) Tt R1) (h2 : W mu R1 (fun b : Bool => b) Tu R1) : W (tvOr mt mu) R (fun b : Bool => b) (orW Tt Tu) R1 := fun w Q q => by
  obtain ⟨a, w1, q1, e1⟩ := h w _ q
  cases a with
  | false =>
    rw [if_neg (by decide)] at q1
    obtain ⟨b, w2, q2, e2⟩ := h2 w1 _ q1
    exact ⟨b, w2, q2, by simp only [tvOr, e1, e2, Option.bind_some]; rfl⟩
  | true =>
    rw [if_pos rfl] at q1
    exact ⟨true, w1, q1, by simp only [tvOr, e1, Option.bind_some]; rfl⟩
theorem wAnd {Tu : PT Bool} (h : WE ma R (fun a => .sv (.val (eB a))) Tt R1) (h2 : WE mb R1 (fun a => .sv (.val (eB a))) Tu R1) : WE (evAnd ma mb) R (fun a => .sv (.val (eB a))) (andW Tt Tu) R1 := fun w Q q => by
  obtain ⟨a, w1, q1, e1⟩ := wTb h w _ q
  cases a with
  | true =>
    rw [if_pos rfl] at q1
    obtain ⟨b, w2, q2, e2⟩ := h2 w1 _ q1
    exact ⟨b, w2, q2, by simp only [evAnd, e1, e2, Option.bind_some, if_true]⟩
  | false =>
    rw [if_neg (by decide)] at q1
    exact ⟨false, w1, q1, by simp only [evAnd, e1, Option.bind_some]; rfl⟩
theorem wOr {Tu : PT Bool} (h : WE ma R (fun a => .sv (.val (eB a))) Tt R1) (h2 : WE mb R1 (fun a => .sv (.val (eB a))) Tu R1) : WE (evOr ma mb) R (fun a => .sv (.val (eB a))) (orW Tt Tu) R1 := fun w Q q => by
  obtain ⟨a, w1, q1, e1⟩ := wTb h w _ q
  cases a with
  | false =>
    rw [if_neg (by decide)] at q1
    obtain ⟨b, w2, q2, e2⟩ := h2 w1 _ q1
    exact ⟨b, w2, q2, by simp only [evOr, e1, e2, Option.bind_some]; rfl⟩
  | true =>
    rw [if_pos rfl] at q1
    exact ⟨true, w1, q1, by simp only [evOr, e1, Option.bind_some]; rfl⟩
theorem wNot {Tb : PT Bool} (ha : WE ma R (fun a => .sv (.val (eB a))) Tb R1) : WE (evNot ma) R (fun a => .sv (.val (eB a))) (fun Q => Tb fun a => Q (!a)) R1 := fun w Q q => by
  obtain ⟨a, w1, q1, e1⟩ := wTb ha w (fun b => Q (!b)) q
  exact ⟨!a, w1, q1, by simp only [evNot, e1, Option.bind_some]⟩
theorem wIf {k : γ → Rv} {Ta Tb : PT γ} (h : W mt R (fun b : Bool => b) Tt R1) (ha : WE ma R1 k Ta R2) (hb : WE mb R1 k Tb R2) : WE (evIf mt ma mb) R k (fun Q => Tt fun b => if b = true then Ta Q else Tb Q) R2 := fun w Q q => by
  obtain ⟨a, w1, q1, e1⟩ := h w _ q
  cases a with
  | true =>
    rw [if_pos rfl] at q1
    obtain ⟨b, w2, q2, e2⟩ := ha w1 _ q1
    exact ⟨b, w2, q2, by simp only [evIf, e1, e2, Option.bind_some, if_true]⟩
  | false =>
    rw [if_neg (by decide)] at q1
    obtain ⟨b, w2, q2, e2⟩ := hb w1 _ q1
    exact ⟨b, w2, q2, by simp only [evIf, e1, e2, Option.bind_some]; rfl⟩
/-! the same, the test known -/
theorem wIsi {ts : List TR} {t : TR} {b : Bool} {d1 : α → D} (ha : WE ma R ra Ta R1) (h1 : ∀ w a, rdD (R1 w) (ra a) = some (d1 a) := by intro _ _; rfl) (h2 : ∀ a, tyD (d1 a) = some t := by intro _; rfl) (h3 : isiAny t ts = some b := by decide) : WE (evIsi ts ma) R (fun a => .sv (.val (eB a))) (fun Q => Ta fun _ => Q b) R1 := fun w Q q => by
  obtain ⟨a, w1, q1, e1⟩ := ha w _ q
  exact ⟨b, w1, q1, by simp only [evIsi, e1, h1, h2, h3, Option.bind_some]⟩
theorem wChain {g g' : D → D → Option SV} {d1 : α → D} {d2 : β → D} {d3 : γ → D} {top : α → β → PT Bool} {top' : β → γ → PT Bool} (ha : WE ma R ra Ta R1) (hb : WE mb R1 rb Tb R2) (hc : WE mc R2 rc Tc R2) (ho : ∀ a b, Op2 g (d1 a) (d2 b) (vV eB) (top a b)) (ho' : ∀ b c, Op2 g' (d2 b) (d3 c) (vV eB) (top' b c))
    (h1 : ∀ w a, rdD (R2 w) (ra a) = some (d1 a) := by intro _ _; rfl) (h2 : ∀ w b, rdD (R2 w) (rb b) = some (d2 b) := by intro _ _; rfl) (h3 : ∀ w b, rdD (R2 w) (rc b) = some (d3 b) := by intro _ _; rfl) :
    WE (evChain g g' ma mb mc) R (fun a => .sv (.val (eB a))) (fun Q => Ta fun a => Tb fun b => top a b fun t => if t = true then Tc fun c => top' b c Q else Q false) R2 := fun w Q q => by
  obtain ⟨a, w1, q1, e1⟩ := ha w _ q
  obtain ⟨b, w2, q2, e2⟩ := hb w1 _ q1
  obtain ⟨t, q3, e3⟩ := ho a b _ q2
  cases t with
  | true =>
    rw [if_pos rfl] at q3
    obtain ⟨c, w3, q4, e4⟩ := hc w2 _ q3
    obtain ⟨u, q5, e5⟩ := ho' b c _ q4
    exact ⟨u, w3, q5, by simp [evChain, e1, e2, h1, h2, e3, e4, h3, e5, SV.d, toB, eB]⟩
  | false =>
    rw [if_neg (by decide)] at q3
    exact ⟨false, w2, q3, by simp [evChain, e1, e2, h1, h2, e3, SV.d, toB, eB]⟩
end
end Tv

/-! Tv2: calls, walks, comprehensions, statements, defs. -/
namespace Pv
open PySem PySem.Spec PySem.SeqAt L2
def fz1 (i : Nat) (ρ : Rho) : Rho := match ρ[i]? with
  | some (some (.own o)) => ρ.set i (some (.val o.d))
  | _ => ρ
def fzs : List Nat → Rho → Rho
  | [], ρ => ρ
  | i :: is, ρ => fzs is (fz1 i ρ)
theorem SInv.fz1 {k : Kx} {e : Ent} {ρ : Rho} {σ : L2.St} {F H : Hp} (s : SInv k e ρ σ F H) (i : Nat) : ∃ F', SInv k e (fz1 i ρ) σ F' H := by
  unfold Pv.fz1
  split
  · rename_i o h
    obtain ⟨p, ho, h1, _⟩ := s.fr.owns i o h
    obtain ⟨F1, A1, _⟩ := frz1_ok s.fr (Aft.refl s.fr) (r := .plc i) (v := .ref p) ⟨h1, _, h⟩ (show frz1 ρ (.plc i) = some (o.d, ρ.set i (some (.val o.d))) by simp [frz1, h])
    exact ⟨F1, s.aft A1⟩
  · exact ⟨F, s⟩
theorem SInv.fzs {k : Kx} {e : Ent} {σ : L2.St} {H : Hp} : ∀ (is : List Nat) {ρ : Rho} {F : Hp}, SInv k e ρ σ F H → ∃ F', SInv k e (fzs is ρ) σ F' H
  | [], _, F, s => ⟨F, s⟩
  | i :: is, _, _, s => by
    obtain ⟨F1, s1⟩ := s.fz1 i
    exact SInv.fzs is s1
def pre (p : List Nat × List Nat) (ρ : Rho) : Rho := fzs p.2 (kill p.1 ρ)
def exPre (p : List Nat × List Nat) (m : SM) : SM := fun ρ => m (pre p ρ)
theorem simPre {k : Kx} {P : List Nat} {Wx : Option WX} {t : TS} {m : SM} (p : List Nat × List Nat) (hm : SimS k P Wx t m) : SimS k P Wx t (exPre p m) := fun e ρ σ F H D hP s h => by
  obtain ⟨F', s'⟩ := SInv.fzs p.2 (s.kill p.1)
  exact hm e (pre p ρ) σ F' H D hP s' h
theorem sPre {X : Cx} {CT : CTab} {P : List Nat} {Wx : Option WX} {st : Stmt} {m : SM} (p : List Nat × List Nat) : NS X CT P Wx st m → NS X CT P Wx st (exPre p m) := fun ⟨_, h, s⟩ => ⟨_, h, simPre p s⟩
theorem ssKill {X : Cx} {CT : CTab} {P : List Nat} {Wx : Option WX} {sts : List Stmt} {m : SM} (ks : List Nat) : NSs X CT P Wx sts m → NSs X CT P Wx sts (exKill ks m) := fun ⟨_, p, s⟩ => ⟨_, p, simKill ks s⟩
end Pv
namespace Tv
open PySem Pv
section
variable {ω X Y α β γ δ σ : Type} {R R1 R2 R3 : ω → Rho} {ma mb mc me : EM} {ms : AM} {rs : α → List Rv} {Ts : PT α}
/-! ### defs -/
def endB (io : Bool) (x : Fl × Rho) : Option (SV × SV) := match x.1 with
  | .nx => (out0 io x.2).bind fun o => some (.val .none, o)
  | .ret r => (retS io x.2 r).bind fun b => (out0 io b.2).bind fun o => some (b.1, o)
  | _ => none
def CW (c : CM) (args : List SV) (s : γ → SV) (T : PT γ) : Prop := ∀ Q, T Q → ∃ a o, Q a ∧ c args = some (s a, o)
def CR (c : CM) (row : ω → SV) (args : List SV) (s : γ → SV) (T : PT γ) : Prop := ∀ w Q, T Q → ∃ a w', Q a ∧ c (row w :: args) = some (s a, row w')
theorem wCallV {c : CM} {np : Nat} {s : γ → SV} {ss : α → List SV} {t : α → PT γ} (ha : W ms R rs Ts R1) (hc : ∀ a, CW c (ss a) s (t a)) (hp : ∀ w a, passB (R1 w) (rs a) = some (ss a) := by intro _ _; rfl) (hf : ∀ w a, frAll (R1 w) (rs a) = R1 w := by intro _ _; rfl) (hl : ∀ a, (ss a).length = np := by intro _; rfl) :
    WE (evCallL np c ms) R (fun x => .sv (s x)) (fun Q => Ts fun a => t a Q) R1 := fun w Q q => by
  obtain ⟨a, w1, q1, e1⟩ := ha w _ q
  obtain ⟨x, o, q2, e2⟩ := hc a _ q1
  exact ⟨x, w1, q2, by simp only [evCallL, e1, hp, hf, hl, e2, Option.bind_some, if_true, ite_self]⟩
theorem wCallN {c : CM} {np : Nat} {s : γ → SV} {ss : α → List SV} {t : α → PT γ} (ha : W ms R rs Ts R1) (hc : ∀ a, CW c (ss a) s (t a)) (hn : ∀ x, nlS (s x) = true) (hp : ∀ w a, passB (R1 w) (rs a) = some (ss a) := by intro _ _; rfl) (hl : ∀ a, (ss a).length = np := by intro _; rfl) :
    WE (evCallL np c ms) R (fun x => .sv (s x)) (fun Q => Ts fun a => t a Q) R1 := fun w Q q => by
  obtain ⟨a, w1, q1, e1⟩ := ha w _ q
  obtain ⟨x, o, q2, e2⟩ := hc a _ q1
  exact ⟨x, w1, q2, by simp only [evCallL, e1, hp, hl, hn, e2, Option.bind_some, if_true]⟩
theorem wCallI {c : CM} {np j : Nat} {s : γ → SV} {rs : α → List Rv} {ss : α → List SV} {t : α → PT γ} {row : ω → OB} (ha : W ms R (fun a => Rv.plc j :: rs a) Ts R1) (hc : ∀ a, CR c (fun w => .own (row w)) (ss a) s (t a)) (hj : ∀ w, (R1 w)[j]? = some (some (.own (row w))) := by intro _; rfl) (hq : ∀ a, j ∉ plcs (rs a) := by intro _; simp [plcs])
    (hp : ∀ w a, passB (R1 w) (rs a) = some (ss a) := by intro _ _; rfl) (hf : ∀ w a, frAll (R1 w) (rs a) = R1 w := by intro _ _; rfl) (hl : ∀ a, (ss a).length + 1 = np := by intro _; rfl) (hs : ∀ w w', (R1 w).set j (some (.own (row w'))) = R1 w' := by intro _ _; rfl) :
    WE (evCallI np c ms) R (fun x => .sv (s x)) (fun Q => Ts fun a => t a Q) R1 := fun w Q q => by
  obtain ⟨a, w1, q1, e1⟩ := ha w _ q
  obtain ⟨x, w2, q2, e2⟩ := hc a w1 _ q1
  exact ⟨x, w2, q2, by simp only [evCallI, e1, hj, hq, hp, hf, hl, e2, hs, Option.bind_some, if_true, if_false, ite_self]⟩
/-! ### walks -/
abbrev WI (m : IM) (R : ω → Rho) (e : δ → D) (T : PT (List δ)) (R' : ω → Rho) : Prop := W m R (fun l : List δ => l.map e) T R'
theorem wSeq {ra : α → Rv} {Ta : PT α} {e : δ → D} {l : α → List δ} (ha : WE ma R ra Ta R1) (h1 : ∀ w a, (frz1 (R1 w) (ra a)).bind (fun b => (seqD b.1).bind fun xs => some (xs, b.2)) = some ((l a).map e, R2 w) := by intro _ _; rfl) : WI (ivSeq ma) R e (fun Q => Ta fun a => Q (l a)) R2 := fun w Q q => by
  obtain ⟨a, w1, q1, e1⟩ := ha w _ q
  exact ⟨l a, w1, q1, by simp only [ivSeq, e1, h1, Option.bind_some]⟩
def rangeL (a : Int) (n : Nat) : List Int := (List.range n).map fun (i : Nat) => a + (i : Int)
def rangeW (n : Int) : PT (List Int) := fun Q => big62 n = true ∧ Q (rangeL 0 n.toNat)
def range2W (a b : Int) : PT (List Int) := fun Q => (big62 a = true ∧ big62 b = true) ∧ Q (rangeL a (b - a).toNat)
theorem rngD_map (a : Int) (n : Nat) : rngD a n = (rangeL a n).map eI := by simp [rngD, rangeL]
theorem wRng1 {v : α → Int} (ha : W ms R rs Ts R1) (h1 : ∀ w a, rdAll (R1 w) (rs a) = some [.int (v a)] := by intro _ _; rfl) : WI (ivArgs rng1 ms) R eI (fun Q => Ts fun a => rangeW (v a) Q) R1 := fun w Q q => by
  obtain ⟨a, w1, q1, e1⟩ := ha w _ q
  exact ⟨_, w1, q1.2, by simp only [ivArgs, e1, h1, rng1, q1.1, Option.bind_some, if_true, rngD_map]⟩
theorem wRng2 {v u : α → Int} (ha : W ms R rs Ts R1) (h1 : ∀ w a, rdAll (R1 w) (rs a) = some [.int (v a), .int (u a)] := by intro _ _; rfl) : WI (ivArgs rng2 ms) R eI (fun Q => Ts fun a => range2W (v a) (u a) Q) R1 := fun w Q q => by
  obtain ⟨a, w1, q1, e1⟩ := ha w _ q
  exact ⟨_, w1, q1.2, by simp only [ivArgs, e1, h1, rng2, q1.1.1, q1.1.2, Option.bind_some, Bool.and_self, if_true, rngD_map]⟩
def enumFrom : Nat → List δ → List (Int × δ)
  | _, [] => []
  | n, x :: xs => ((n : Int), x) :: enumFrom (n + 1) xs
def enumL (l : List δ) : List (Int × δ) := enumFrom 0 l
theorem enumFrom_get : ∀ (l : List δ) (n i : Nat), (enumFrom n l)[i]? = l[i]?.map fun x => (((n + i : Nat) : Int), x)
  | [], n, i => by simp [enumFrom]
  | x :: xs, n, 0 => by simp [enumFrom]
  | x :: xs, n, i + 1 => by
    simp only [enumFrom, List.getElem?_cons_succ]
    rw [enumFrom_get xs (n + 1) i, show n + 1 + i = n + (i + 1) by omega]
theorem enumL_get (l : List δ) (i : Nat) : (enumL l)[i]? = l[i]?.map fun x => ((i : Int), x) := by
  rw [enumL, enumFrom_get]; simp
theorem enumD_map (e : δ → D) (l : List δ) : enumD (l.map e) = (enumL l).map (eP eI e) := by
  apply List.ext_getElem?
  intro i
  rw [List.getElem?_map, enumL_get]
  by_cases h : i < l.length
  · simp [enumD, h, eP]
  · simp [enumD, h]
theorem wEnum {ra : α → Rv} {Ta : PT α} {e : δ → D} {l : α → List δ} (ha : WE ma R ra Ta R1) (h1 : ∀ w a, (frz1 (R1 w) (ra a)).bind (fun b => (seqD b.1).bind fun xs => some (xs, b.2)) = some ((l a).map e, R2 w) := by intro _ _; rfl) : WI (ivEnum ma) R (eP eI e) (fun Q => Ta fun a => Q (enumL (l a))) R2 := fun w Q q => by
  obtain ⟨a, w1, q1, e1⟩ := ha w _ q
  refine ⟨enumL (l a), w1, q1, ?_⟩
  have h := h1 w1 a
  simp only [Option.bind_eq_some_iff] at h
  obtain ⟨b, h2, xs, h3, h4⟩ := h
  have h5 : xs = (l a).map e ∧ b.2 = R2 w1 := by simpa using h4
  simp only [ivEnum, e1, h2, h3, Option.bind_some, h5.1, h5.2, enumD_map]
/-! ### comprehensions -/
def compG (t : δ → PT Bool) (f : δ → PT γ) : List δ → PT (List γ)
  | [], Q => Q []
  | x :: xs, Q => t x fun b => if b = true then f x fun y => compG t f xs fun ys => Q (y :: ys) else compG t f xs Q
def compW (l : List δ) (t : δ → PT Bool) (f : δ → PT γ) : PT (List γ) := fun Q => l.length ≤ sizeLine ∧ compG t f l Q
def mapG (f : δ → PT γ) : List δ → PT (List γ)
  | [], Q => Q []
  | x :: xs, Q => f x fun y => mapG f xs fun ys => Q (y :: ys)
def mapW (l : List δ) (f : δ → PT γ) : PT (List γ) := fun Q => l.length ≤ sizeLine ∧ mapG f l Q
theorem mapG_eq (f : δ → PT γ) : ∀ (l : List δ), mapG f l = compG (fun _ Q => Q true) f l
  | [] => rfl
  | x :: xs => by
    funext Q
    simp only [mapG, compG, mapG_eq f xs, if_true]
variable {mi : IM} {mg : GM} {mt : TM} {vs : List Nat} {e : δ → D} {e' : γ → D} {Ti : PT (List δ)} {R0 : ω → Rho} {Rb Rc : δ → ω → Rho} {re : δ → β → Rv} {tt : δ → PT Bool} {tb : δ → PT β} {v : δ → β → γ}
theorem comp_go (hg : ∀ w x, mg (e x) (R0 w) = some (Rb x w)) (ht : ∀ x, W mt (Rb x) (fun b : Bool => b) (tt x) (Rb x)) (he : ∀ x, WE me (Rb x) (re x) (tb x) (Rb x)) (hz : ∀ w x b, frz1 (Rb x w) (re x b) = some (e' (v x b), Rc x w)) (hk : ∀ w x, kill vs (Rb x w) = R0 w) (hk2 : ∀ w x, kill vs (Rc x w) = R0 w) :
    ∀ (l : List δ) w Q, compG tt (fun x Q => tb x fun b => Q (v x b)) l Q → ∃ ys w', Q ys ∧ goComp mg mt me vs (l.map e) (R0 w) = some (ys.map e', R0 w')
  | [], w, Q, q => ⟨[], w, q, rfl⟩
  | x :: xs, w, Q, q => by
    obtain ⟨b, w1, q1, e1⟩ := ht x w _ q
    cases b with
    | true =>
      rw [if_pos rfl] at q1
      obtain ⟨y, w2, q2, e2⟩ := he x w1 _ q1
      obtain ⟨ys, w3, q3, e3⟩ := comp_go hg ht he hz hk hk2 xs w2 _ q2
      exact ⟨v x y :: ys, w3, q3, by simp only [List.map_cons, goComp, hg, e1, e2, hz, hk2, e3, Option.bind_some, if_true]⟩
    | false =>
      rw [if_neg (by decide)] at q1
      obtain ⟨ys, w3, q3, e3⟩ := comp_go hg ht he hz hk hk2 xs w1 _ q1
      refine ⟨ys, w3, q3, ?_⟩
      simp only [List.map_cons, goComp, hg, e1, hk, Option.bind_some]
      exact e3
theorem wComp (hi : WI mi R e Ti R1) (ht : ∀ x, W mt (Rb x) (fun b : Bool => b) (tt x) (Rb x)) (he : ∀ x, WE me (Rb x) (re x) (tb x) (Rb x)) (hg : ∀ w x, mg (e x) (R0 w) = some (Rb x w) := by intro _ _; rfl) (hz : ∀ w x b, frz1 (Rb x w) (re x b) = some (e' (v x b), Rc x w) := by intro _ _ _; rfl)
    (h0 : ∀ w, kill vs (R1 w) = R0 w := by intro _; rfl) (hk : ∀ w x, kill vs (Rb x w) = R0 w := by intro _ _; rfl) (hk2 : ∀ w x, kill vs (Rc x w) = R0 w := by intro _ _; rfl) (hr : ∀ w w', restore vs (R1 w) (R0 w') = R1 w' := by intro _ _; rfl) :
    WE (evComp mi mg mt me vs) R (fun l => .sv (.own (.lst (l.map e')))) (fun Q => Ti fun l => compW l tt (fun x Q => tb x fun b => Q (v x b)) Q) R1 := fun w Q q => by
  obtain ⟨l, w1, q1, e1⟩ := hi w _ q
  obtain ⟨ys, w2, q2, e2⟩ := comp_go hg ht he hz hk hk2 l w1 _ q1.2
  exact ⟨ys, w2, q2, by simp only [evComp, e1, List.length_map, if_pos q1.1, h0, e2, hr, Option.bind_some]⟩
theorem wMap (hi : WI mi R e Ti R1) (he : ∀ x, WE me (Rb x) (re x) (tb x) (Rb x)) (hg : ∀ w x, mg (e x) (R0 w) = some (Rb x w) := by intro _ _; rfl) (hz : ∀ w x b, frz1 (Rb x w) (re x b) = some (e' (v x b), Rc x w) := by intro _ _ _; rfl)
    (h0 : ∀ w, kill vs (R1 w) = R0 w := by intro _; rfl) (hk : ∀ w x, kill vs (Rb x w) = R0 w := by intro _ _; rfl) (hk2 : ∀ w x, kill vs (Rc x w) = R0 w := by intro _ _; rfl) (hr : ∀ w w', restore vs (R1 w) (R0 w') = R1 w' := by intro _ _; rfl) :
    WE (evComp mi mg tvYes me vs) R (fun l => .sv (.own (.lst (l.map e')))) (fun Q => Ti fun l => mapW l (fun x Q => tb x fun b => Q (v x b)) Q) R1 := fun w Q q => by
  refine wComp hi (fun x => wYes) he hg hz h0 hk hk2 hr w Q ?_
  have e : (fun l => mapW l (fun x Q => tb x fun b => Q (v x b)) Q) = fun l => compW l (fun x Q => Q true) (fun x Q => tb x fun b => Q (v x b)) Q := by
    funext l; simp only [mapW, compW, mapG_eq]
  show Ti (fun l => compW l (fun x Q => Q true) (fun x Q => tb x fun b => Q (v x b)) Q)
  rw [← e]; exact q
/-! ### slices -/
theorem wSl {ra : α → Rv} {Ta : PT α} {d1 : α → D} {s : γ → SV} {top : α → PT γ} {lo hi : Option Int} (ha : WE ma R ra Ta R1) (ho : ∀ a, Op1 (gSl lo hi) (d1 a) s (top a)) {ml mh : OM} (hl : ∀ w, ml (R1 w) = some (lo, R1 w) := by intro _; rfl) (hh : ∀ w, mh (R1 w) = some (hi, R1 w) := by intro _; rfl) (h1 : ∀ w a, rdD (R1 w) (ra a) = some (d1 a) := by intro _ _; rfl) :
    WE (evSl ma ml mh) R (fun x => .sv (s x)) (fun Q => Ta fun a => top a Q) R1 := fun w Q q => by
  obtain ⟨a, w1, q1, e1⟩ := ha w _ q
  obtain ⟨c, q2, e2⟩ := ho a _ q1
  exact ⟨c, w1, q2, by simp only [evSl, e1, hl, hh, h1, e2, Option.bind_some]⟩
end
/-! ### statements -/
section
variable {ω α β γ δ σ τ : Type} {R R1 R2 R3 : ω → Rho} {ma mb mc me : EM} {ms : AM} {rs : α → List Rv} {Ts : PT α} {ra : α → Rv} {Ta : PT α} {P : List Nat} {i j : Nat} {m n m1 m2 : SM} {mt : TM} {Tt : PT Bool}
def WS (m : SM) (R : ω → Rho) (K : α → ω → Rho) (T : PT α) : Prop := ∀ w Q, T Q → ∃ a w', Q a ∧ m (R w) = some (.nx, K a w')
def WF (io : Bool) (m : SM) (R : ω → Rho) (s : γ → SV) (out : γ → ω → SV) (T : PT γ) : Prop := ∀ w Q, T Q → ∃ a w' r ρ, Q a ∧ m (R w) = some (.ret r, ρ) ∧ endB io (.ret r, ρ) = some (s a, out a w')
def WN (io : Bool) (m : SM) (R : ω → Rho) (s : γ → SV) (out : γ → ω → SV) (T : PT γ) : Prop := ∀ w Q, T Q → ∃ a w' x, Q a ∧ m (R w) = some x ∧ endB io x = some (s a, out a w')
inductive Stp (σ β : Type) where
  | go (s : σ) | stop (s : σ) | ret (b : β)
def StOk (io : Bool) (ks : List Nat) (K : σ → ω → Rho) (s : β → SV) (out : β → ω → SV) (esc : Bool) (w' : ω) (x : Fl × Rho) : Stp σ β → Prop
  | .go a => (x.1 = .ct ∨ (esc = false ∧ x.1 = .nx)) ∧ kill ks x.2 = K a w'
  | .stop a => x.1 = .bk ∧ kill ks x.2 = K a w'
  | .ret b => (∃ r ρ, x = (.ret r, ρ)) ∧ endB io x = some (s b, out b w')
def WL (io : Bool) (esc : Bool) (ks : List Nat) (m : SM) (R : ω → Rho) (K : σ → ω → Rho) (s : β → SV) (out : β → ω → SV) (T : PT (Stp σ β)) : Prop := ∀ w Q, T Q → ∃ st w' x, Q st ∧ m (R w) = some x ∧ StOk io ks K s out esc w' x st
def WSK (ks : List Nat) (m : SM) (R : ω → Rho) (K : α → ω → Rho) (T : PT α) : Prop := ∀ w Q, T Q → ∃ a w' ρ, Q a ∧ m (R w) = some (.nx, ρ) ∧ kill ks ρ = K a w'

variable {K K1 K2 : α → ω → Rho} {T : PT α}
theorem sAsg {s : α → SV} (h : WE me R (fun a => .sv (s a)) T R1) (hi : i ∉ P := by decide) (hK : ∀ w a, (R1 w).set i (some (s a)) = K a w := by intro _ _; rfl) : WS (exAsg P i me) R K T := fun w Q q => by
  obtain ⟨a, w1, q1, e1⟩ := h w _ q
  exact ⟨a, w1, q1, by simp only [exAsg, e1, stoS, if_neg hi, Option.bind_some, hK]⟩
theorem sExprW (h : WE me R ra T R1) : WS (exExpr me) R (fun _ w => R1 w) T := fun w Q q => by
  obtain ⟨a, w1, q1, e1⟩ := h w _ q
  exact ⟨a, w1, q1, by simp only [exExpr, e1, Option.bind_some]⟩
theorem sParW {is : List Nat} (h : W ms R rs T R1) (hK : ∀ w a, (frzP (R1 w) (rs a)).bind (fun b => parS P is b.1 b.2) = some (K a w) := by intro _ _; rfl) : WS (exPar P is ms) R K T := fun w Q q => by
  obtain ⟨a, w1, q1, e1⟩ := h w _ q
  refine ⟨a, w1, q1, ?_⟩
  have z := hK w1 a
  rw [Option.bind_eq_some_iff] at z
  obtain ⟨b, z1, z2⟩ := z
  simp only [exPar, e1, z1, z2, Option.bind_some]
theorem sMut {f : List D → List D → Option (D × List D)} {e : δ → D} {l : List δ} {ds : α → List D} {top : α → PT (List δ)} {K : List δ → ω → Rho} (h : W ms R rs T R1) (hf : ∀ a Q, top a Q → ∃ l' d, Q l' ∧ f (l.map e) (ds a) = some (d, l'.map e)) (h0 : ∀ w, lstAt (R w) i = some (l.map e) := by intro _; rfl) (h1 : ∀ w a, frzs (R1 w) (rs a) = some (ds a, R2 w) := by intro _ _; rfl)
    (h2 : ∀ w, lstAt (R2 w) i = some (l.map e) := by intro _; rfl) (hK : ∀ w l', (R2 w).set i (some (.own (.lst (l'.map e)))) = K l' w := by intro _ _; rfl) : WS (exExpr (evMut f i ms)) R K (fun Q => T fun a => top a Q) := fun w Q q => by
  obtain ⟨a, w1, q1, e1⟩ := h w _ q
  obtain ⟨l', d, q2, e2⟩ := hf a _ q1
  exact ⟨l', w1, q2, by simp only [exExpr, evMut, h0, e1, h1, h2, e2, hK, Option.bind_some]⟩
def appW (l : List δ) (x : δ) : PT (List δ) := fun Q => l.length < sizeLine ∧ Q (l ++ [x])
theorem f_app {e : δ → D} {l : List δ} (x : δ) (Q : List δ → Prop) (h : appW l x Q) : ∃ l' d, Q l' ∧ fAppend (l.map e) [e x] = some (d, l'.map e) := ⟨_, .none, h.2, by simp only [fAppend, List.length_map, if_pos h.1, List.map_append, List.map_cons, List.map_nil]⟩
theorem sPassW : WS exPass R (fun (_ : Unit) w => R w) (fun Q => Q ()) := fun w Q q => ⟨(), w, q, rfl⟩
theorem sRe {K' : β → ω → Rho} (f : α → β) (h : WS m R K T) (hK : ∀ w a, K a w = K' (f a) w := by intro _ _; rfl) : WS m R K' (fun Q => T fun a => Q (f a)) := fun w Q q => by
  obtain ⟨a, w1, q1, e1⟩ := h w _ q
  exact ⟨f a, w1, q1, by rw [e1, hK]⟩
theorem sReK {ks : List Nat} {K' : β → ω → Rho} (f : α → β) (h : WS m R K T) (hK : ∀ w a, kill ks (K a w) = K' (f a) w := by intro _ _; rfl) : WSK ks m R K' (fun Q => T fun a => Q (f a)) := fun w Q q => by
  obtain ⟨a, w1, q1, e1⟩ := h w _ q
  exact ⟨f a, w1, _, q1, e1, hK w1 a⟩
theorem sKillK {ks : List Nat} (h : WSK ks m R K T) : WS (exKill ks m) R K T := fun w Q q => by
  obtain ⟨a, w1, ρ, q1, e1, e2⟩ := h w _ q
  exact ⟨a, w1, q1, by simp only [exKill, e1, Option.bind_some, e2]⟩
theorem sSeqK {ks : List Nat} {K2 : β → ω → Rho} {T2 : α → PT β} (h : WS m1 R K1 T) (h2 : ∀ a, WSK ks m2 (K1 a) K2 (T2 a)) : WSK ks (exSeq m1 m2) R K2 (fun Q => T fun a => T2 a Q) := fun w Q q => by
  obtain ⟨a, w1, q1, e1⟩ := h w _ q
  obtain ⟨b, w2, ρ, q2, e2, e3⟩ := h2 a w1 _ q1
  exact ⟨b, w2, ρ, q2, by simp only [exSeq, e1, e2, Option.bind_some], e3⟩
theorem sIfW {T' : PT α} (h : W mt R (fun b : Bool => b) Tt R1) (h1 : WS m1 R1 K T) (h2 : WS m2 R1 K T') : WS (exIf mt m1 m2) R K (fun Q => Tt fun b => if b = true then T Q else T' Q) := fun w Q q => by
  obtain ⟨b, w1, q1, e1⟩ := h w _ q
  cases b with
  | true =>
    rw [if_pos rfl] at q1
    obtain ⟨b, w2, q2, e2⟩ := h1 w1 _ q1
    exact ⟨b, w2, q2, by simp only [exIf, e1, e2, Option.bind_some, if_true]⟩
  | false =>
    rw [if_neg (by decide)] at q1
    obtain ⟨b, w2, q2, e2⟩ := h2 w1 _ q1
    exact ⟨b, w2, q2, by simp only [exIf, e1, e2, Option.bind_some]; rfl⟩
theorem sIfBad (h : W mt R (fun b : Bool => b) Tt R1) (h2 : WS m2 R1 K T) : WS (exIf mt exBad m2) R K (fun Q => Tt fun b => b = false ∧ T Q) := fun w Q q => by
  obtain ⟨b, w1, q1, e1⟩ := h w _ q
  obtain ⟨hb, q1⟩ := q1
  obtain ⟨c, w2, q2, e2⟩ := h2 w1 _ q1
  exact ⟨c, w2, q2, by simp only [exIf, e1, hb, Option.bind_some]; exact e2⟩
theorem sIfFalse (h : W mt R (fun b : Bool => b) (fun Q => Q false) R1) (h1 : WS m2 R1 K T) : WS (exIf mt m1 m2) R K T := fun w Q q => by
  obtain ⟨b, w1, q1, e1⟩ := h w (fun b => b = false) rfl
  obtain ⟨c, w2, q2, e2⟩ := h1 w1 _ q
  exact ⟨c, w2, q2, by simp only [exIf, e1, q1, Option.bind_some]; exact e2⟩
/-! ### loops -/
def forW (f : δ → σ → PT σ) : List δ → σ → PT σ
  | [], s, Q => Q s
  | x :: xs, s, Q => f x s fun s' => forW f xs s' Q
def forR (f : δ → σ → PT (Stp σ β)) : List δ → σ → PT (Sum σ β)
  | [], s, Q => Q (.inl s)
  | x :: xs, s, Q => f x s fun r => match r with
    | .go s' => forR f xs s' Q
    | .stop s' => Q (.inl s')
    | .ret b => Q (.inr b)
variable {mi : IM} {mg : GM} {e : δ → D} {Ti : PT (List δ)} {K0 : σ → ω → Rho} {Kb : δ → σ → ω → Rho} {s0 : σ} {f : δ → σ → PT σ} {fr : δ → σ → PT (Stp σ γ)} {io : Bool} {s : γ → SV} {out : γ → ω → SV} {kp : List Nat × List Nat}
theorem for_go (hb : ∀ x s, WS m (Kb x s) K0 (f x s)) (hg : ∀ w x s, mg (e x) (K0 s w) = some (Kb x s w)) : ∀ (l : List δ) (s : σ) w Q, forW f l s Q → ∃ s' w', Q s' ∧ goFor mg m (l.map e) (K0 s w) = some (.nx, K0 s' w')
  | [], s, w, Q, q => ⟨s, w, q, rfl⟩
  | x :: xs, s, w, Q, q => by
    obtain ⟨a, w1, q1, e1⟩ := hb x s w _ q
    obtain ⟨s', w2, q2, e2⟩ := for_go hb hg xs a w1 _ q1
    exact ⟨s', w2, q2, by simp only [List.map_cons, goFor, hg, e1, e2, Option.bind_some]⟩
theorem sForW (s0 : σ) (hi : WI mi R1 e Ti R2) (hb : ∀ x s, WS m (Kb x s) K0 (f x s)) (h0 : ∀ w, R2 w = K0 s0 w := by intro _; rfl) (hg : ∀ w x s, mg (e x) (K0 s w) = some (Kb x s w) := by intro _ _ _; rfl) (hp : ∀ w, pre kp (R w) = R1 w := by intro _; rfl) :
    WS (exPre kp (exFor mi mg m)) R K0 (fun Q => Ti fun l => forW f l s0 Q) := fun w Q q => by
  obtain ⟨l, w1, q1, e1⟩ := hi w _ q
  obtain ⟨s', w2, q2, e2⟩ := for_go hb hg l s0 w1 _ q1
  exact ⟨s', w2, q2, by simp only [exPre, hp, exFor, e1, h0, e2, Option.bind_some]⟩
def inlW (f : σ → Prop) : Sum σ Empty → Prop
  | .inl s => f s
  | .inr b => b.elim
def LpOk (io : Bool) (K : σ → ω → Rho) (s : γ → SV) (out : γ → ω → SV) (w' : ω) (x : Fl × Rho) : Sum σ γ → Prop
  | .inl a => x = (.nx, K a w')
  | .inr b => (∃ r ρ, x = (.ret r, ρ)) ∧ endB io x = some (s b, out b w')
theorem forR_go (hb : ∀ x s', WL io false [] m (Kb x s') K0 s out (fr x s')) (hg : ∀ w x s, mg (e x) (K0 s w) = some (Kb x s w)) : ∀ (l : List δ) (s' : σ) w Q, forR fr l s' Q → ∃ r w' x, Q r ∧ goFor mg m (l.map e) (K0 s' w) = some x ∧ LpOk io K0 s out w' x r
  | [], s', w, Q, q => ⟨.inl s', w, _, q, rfl, rfl⟩
  | x :: xs, s', w, Q, q => by
    obtain ⟨a, w1, y, q1, e1, ok⟩ := hb x s' w _ q
    cases a with
    | go t =>
      obtain ⟨r, w2, z, q2, e2, ok2⟩ := forR_go hb hg xs t w1 _ q1
      refine ⟨r, w2, z, q2, ?_, ok2⟩
      obtain ⟨fl, ρ⟩ := y
      obtain ⟨ok, hρ⟩ := ok
      obtain rfl : ρ = _ := hρ
      rcases ok with h | ⟨_, h⟩
      · obtain rfl : fl = _ := h
        simp only [List.map_cons, goFor, hg, e1, e2, Option.bind_some]
      · obtain rfl : fl = _ := h
        simp only [List.map_cons, goFor, hg, e1, e2, Option.bind_some]
    | stop t =>
      obtain ⟨fl, ρ⟩ := y
      obtain ⟨ok, hρ⟩ := ok
      obtain rfl : ρ = _ := hρ
      obtain rfl : fl = _ := ok
      exact ⟨.inl t, w1, _, q1, by simp only [List.map_cons, goFor, hg, e1, Option.bind_some], rfl⟩
    | ret b =>
      obtain ⟨⟨r, ρ, rfl⟩, ok⟩ := ok
      exact ⟨.inr b, w1, _, q1, by simp only [List.map_cons, goFor, hg, e1, Option.bind_some], ⟨r, ρ, rfl⟩, ok⟩
def thenW (Tr : σ → PT γ) : Sum σ γ → PT γ
  | .inl s, Q => Tr s Q
  | .inr b, Q => Q b
theorem nForR {Tr : σ → PT γ} (s0 : σ) (hi : WI mi R1 e Ti R2) (hb : ∀ x s', WL io false [] m (Kb x s') K0 s out (fr x s')) (hr : ∀ s', WN io n (K0 s') s out (Tr s')) (h0 : ∀ w, R2 w = K0 s0 w := by intro _; rfl) (hg : ∀ w x s, mg (e x) (K0 s w) = some (Kb x s w) := by intro _ _ _; rfl) (hp : ∀ w, pre kp (R w) = R1 w := by intro _; rfl) :
    WN io (exSeq (exPre kp (exFor mi mg m)) n) R s out (fun Q => Ti fun l => forR fr l s0 fun r => thenW Tr r Q) := fun w Q q => by
  obtain ⟨l, w1, q1, e1⟩ := hi w _ q
  obtain ⟨r, w2, x, q2, e2, ok⟩ := forR_go hb hg l s0 w1 _ q1
  have e3 : exPre kp (exFor mi mg m) (R w) = some x := by simp only [exPre, hp, exFor, e1, h0, e2, Option.bind_some]
  cases r with
  | inl s' =>
    obtain rfl : x = _ := ok
    obtain ⟨a, w3, y, q3, e4, ok4⟩ := hr s' w2 _ q2
    exact ⟨a, w3, y, q3, by simp only [exSeq, e3, e4, Option.bind_some], ok4⟩
  | inr b =>
    obtain ⟨⟨r, ρ, rfl⟩, ok⟩ := ok
    exact ⟨b, w2, _, q2, by simp only [exSeq, e3, Option.bind_some], ok⟩
def whileR (c : σ → PT Bool) (f : σ → PT (Stp σ β)) : Nat → σ → PT (Sum σ β)
  | 0, _, _ => False
  | n + 1, s, Q => c s fun b => if b = true then f s fun r => (match r with
    | .go s' => whileR c f n s' Q
    | .stop s' => Q (.inl s')
    | .ret b => Q (.inr b)) else Q (.inl s)
variable {tc : σ → PT Bool} {fw : σ → PT (Stp σ γ)} {Kc : σ → ω → Rho}
theorem while_go (hc : ∀ s', W mt (K0 s') (fun b : Bool => b) (tc s') (Kc s')) (hb : ∀ s', WL io false [] m (Kc s') K0 s out (fw s')) : ∀ (n : Nat) (s' : σ) w Q, whileR tc fw n s' Q → ∃ r w' x, Q r ∧ exWhile mt m n (K0 s' w) = some x ∧ LpOk io Kc s out w' x r ∨ (∃ t, r = .inl t ∧ Q r ∧ exWhile mt m n (K0 s' w) = some (.nx, K0 t w'))
  | 0, s', w, Q, q => q.elim
  | n + 1, s', w, Q, q => by
    obtain ⟨b, w1, q1, e1⟩ := hc s' w _ q
    cases b with
    | false =>
      rw [if_neg (by decide)] at q1
      exact ⟨.inl s', w1, (.nx, Kc s' w1), .inl ⟨q1, by simp only [exWhile, e1, Option.bind_some]; rfl, rfl⟩⟩
    | true =>
      rw [if_pos rfl] at q1
      obtain ⟨a, w2, y, q2, e2, ok⟩ := hb s' w1 _ q1
      cases a with
      | go t =>
        obtain ⟨r, w3, z, h3⟩ := while_go hc hb n t w2 _ q2
        have e4 : exWhile mt m (n + 1) (K0 s' w) = exWhile mt m n (K0 t w2) := by
          obtain ⟨fl, ρ⟩ := y
          obtain ⟨ok, hρ⟩ := ok
          obtain rfl : ρ = _ := hρ
          rcases ok with h | ⟨_, h⟩
          · obtain rfl : fl = _ := h
            simp only [exWhile, e1, e2, Option.bind_some, if_true]
          · obtain rfl : fl = _ := h
            simp only [exWhile, e1, e2, Option.bind_some, if_true]
        refine ⟨r, w3, z, ?_⟩
        rw [e4]; exact h3
      | stop t =>
        obtain ⟨fl, ρ⟩ := y
        obtain ⟨ok, hρ⟩ := ok
        obtain rfl : ρ = _ := hρ
        obtain rfl : fl = _ := ok
        exact ⟨.inl t, w2, (.nx, K0 t w2), .inr ⟨t, rfl, q2, by simp only [exWhile, e1, e2, Option.bind_some, if_true]⟩⟩
      | ret b =>
        obtain ⟨⟨r, ρ, rfl⟩, ok⟩ := ok
        exact ⟨.inr b, w2, (.ret r, ρ), .inl ⟨q2, by simp only [exWhile, e1, e2, Option.bind_some, if_true], ⟨r, ρ, rfl⟩, ok⟩⟩
theorem sWhileW {fu : Nat} {fb : σ → PT (Stp σ Empty)} (s0 : σ) (hc : ∀ s', W mt (K0 s') (fun b : Bool => b) (tc s') (K0 s')) (hb : ∀ s', WL false false [] m (K0 s') K0 (fun b : Empty => b.elim) (fun _ _ => .val .none) (fb s')) (h0 : ∀ w, R1 w = K0 s0 w := by intro _; rfl) (hp : ∀ w, pre kp (R w) = R1 w := by intro _; rfl) :
    WS (exPre kp (exWhile mt m fu)) R K0 (fun Q => whileR tc fb fu s0 fun r => inlW Q r) := fun w Q q => by
  obtain ⟨r, w2, x, h⟩ := while_go hc hb fu s0 w _ q
  rcases h with ⟨q2, e2, ok⟩ | ⟨t, rfl, q2, e2⟩
  · cases r with
    | inl s' =>
      obtain rfl : x = _ := ok
      exact ⟨s', w2, q2, by simp only [exPre, hp, h0, e2]⟩
    | inr b => exact b.elim
  · exact ⟨t, w2, q2, by simp only [exPre, hp, h0, e2]⟩
/-! ### ends of defs -/
variable {Tf Tg : PT γ}
theorem fRet {v : α → γ} (h : WE me R ra T R1) (he : ∀ w a, endB io (.ret (ra a), R1 w) = some (s (v a), out (v a) w) := by intro _ _; rfl) : WF io (exRet me) R s out (fun Q => T fun a => Q (v a)) := fun w Q q => by
  obtain ⟨a, w1, q1, e1⟩ := h w _ q
  exact ⟨v a, w1, _, _, q1, by simp only [exRet, e1, Option.bind_some], he w1 a⟩
theorem fBad : WF io exBad R s out (fun _ => False) := fun w Q q => q.elim
theorem nF (h : WF io m R s out Tf) : WN io m R s out Tf := fun w Q q => by
  obtain ⟨a, w2, r, ρ, q2, e2, ok⟩ := h w _ q
  exact ⟨a, w2, _, q2, e2, ok⟩
theorem nS {v : α → γ} (h : WS m R K T) (he : ∀ w a, endB io (.nx, K a w) = some (s (v a), out (v a) w) := by intro _ _; rfl) : WN io m R s out (fun Q => T fun a => Q (v a)) := fun w Q q => by
  obtain ⟨a, w2, q2, e2⟩ := h w _ q
  exact ⟨v a, w2, _, q2, e2, he w2 a⟩
theorem nSeq {Tf : α → PT γ} (h : WS m1 R K1 T) (h2 : ∀ a, WN io m2 (K1 a) s out (Tf a)) : WN io (exSeq m1 m2) R s out (fun Q => T fun a => Tf a Q) := fun w Q q => by
  obtain ⟨a, w1, q1, e1⟩ := h w _ q
  obtain ⟨b, w2, x, q2, e2, ok⟩ := h2 a w1 _ q1
  exact ⟨b, w2, x, q2, by simp only [exSeq, e1, e2, Option.bind_some], ok⟩
theorem nIfRet {Tf : PT γ} {Tr : α → PT γ} (h : W mt R (fun b : Bool => b) Tt R1) (h1 : WF io m1 R1 s out Tf) (h2 : WS m2 R1 K T) (hr : ∀ a, WN io n (K a) s out (Tr a)) : WN io (exSeq (exIf mt m1 m2) n) R s out (fun Q => Tt fun b => if b = true then Tf Q else T fun a => Tr a Q) := fun w Q q => by
  obtain ⟨b, w1, q1, e1⟩ := h w _ q
  cases b with
  | true =>
    rw [if_pos rfl] at q1
    obtain ⟨a, w2, r, ρ, q2, e2, ok⟩ := h1 w1 _ q1
    exact ⟨a, w2, _, q2, by simp only [exSeq, exIf, e1, e2, Option.bind_some, if_true], ok⟩
  | false =>
    rw [if_neg (by decide)] at q1
    obtain ⟨a, w2, q2, e2⟩ := h2 w1 _ q1
    obtain ⟨b, w3, x, q3, e3, ok⟩ := hr a w2 _ q2
    refine ⟨b, w3, x, q3, ?_, ok⟩
    have e4 : exIf mt m1 m2 (R w) = some (.nx, K a w2) := by simp only [exIf, e1, Option.bind_some]; exact e2
    simp only [exSeq, e4, e3, Option.bind_some]
theorem nIf {Tf Tg : PT γ} (h : W mt R (fun b : Bool => b) Tt R1) (h1 : WN io m1 R1 s out Tf) (h2 : WN io m2 R1 s out Tg) : WN io (exIf mt m1 m2) R s out (fun Q => Tt fun b => if b = true then Tf Q else Tg Q) := fun w Q q => by
  obtain ⟨b, w1, q1, e1⟩ := h w _ q
  cases b with
  | true =>
    rw [if_pos rfl] at q1
    obtain ⟨a, w2, x, q2, e2, ok⟩ := h1 w1 _ q1
    exact ⟨a, w2, x, q2, by simp only [exIf, e1, e2, Option.bind_some, if_true], ok⟩
  | false =>
    rw [if_neg (by decide)] at q1
    obtain ⟨a, w2, x, q2, e2, ok⟩ := h2 w1 _ q1
    exact ⟨a, w2, x, q2, by simp only [exIf, e1, Option.bind_some]; exact e2, ok⟩
/-! ### turns of loops -/
variable {KL : σ → ω → Rho} {Tl Tl' : PT (Stp σ γ)} {esc : Bool} {ks : List Nat}
theorem lS {f : α → σ} (h : WS m R K T) (hK : ∀ w a, kill ks (K a w) = KL (f a) w := by intro _ _; rfl) : WL io false ks m R KL s out (fun Q => T fun a => Q (.go (f a))) := fun w Q q => by
  obtain ⟨a, w1, q1, e1⟩ := h w _ q
  exact ⟨.go (f a), w1, _, q1, e1, .inr ⟨rfl, rfl⟩, hK w1 a⟩
theorem lF (h : WF io m R s out Tf) : WL io esc ks m R KL s out (fun Q => Tf fun b => Q (.ret b)) := fun w Q q => by
  obtain ⟨a, w1, r, ρ, q1, e1, ok⟩ := h w _ q
  exact ⟨.ret a, w1, _, q1, e1, ⟨r, ρ, rfl⟩, ok⟩
theorem lSeq {Tl : α → PT (Stp σ γ)} (h : WS m1 R K1 T) (h2 : ∀ a, WL io esc ks m2 (K1 a) KL s out (Tl a)) : WL io esc ks (exSeq m1 m2) R KL s out (fun Q => T fun a => Tl a Q) := fun w Q q => by
  obtain ⟨a, w1, q1, e1⟩ := h w _ q
  obtain ⟨b, w2, x, q2, e2, ok⟩ := h2 a w1 _ q1
  exact ⟨b, w2, x, q2, by simp only [exSeq, e1, e2, Option.bind_some], ok⟩
theorem lIf (h : W mt R (fun b : Bool => b) Tt R1) (h1 : WL io esc ks m1 R1 KL s out Tl) (h2 : WL io esc ks m2 R1 KL s out Tl') : WL io esc ks (exIf mt m1 m2) R KL s out (fun Q => Tt fun b => if b = true then Tl Q else Tl' Q) := fun w Q q => by
  obtain ⟨b, w1, q1, e1⟩ := h w _ q
  cases b with
  | true =>
    rw [if_pos rfl] at q1
    obtain ⟨a, w2, x, q2, e2, ok⟩ := h1 w1 _ q1
    exact ⟨a, w2, x, q2, by simp only [exIf, e1, e2, Option.bind_some, if_true], ok⟩
  | false =>
    rw [if_neg (by decide)] at q1
    obtain ⟨a, w2, x, q2, e2, ok⟩ := h2 w1 _ q1
    exact ⟨a, w2, x, q2, by simp only [exIf, e1, Option.bind_some]; exact e2, ok⟩
theorem lIfEsc {Tr : α → PT (Stp σ γ)} (h : W mt R (fun b : Bool => b) Tt R1) (h1 : WL io true ks m1 R1 KL s out Tl) (h2 : WS m2 R1 K T) (hr : ∀ a, WL io esc ks n (K a) KL s out (Tr a)) : WL io esc ks (exSeq (exIf mt m1 m2) n) R KL s out (fun Q => Tt fun b => if b = true then Tl Q else T fun a => Tr a Q) := fun w Q q => by
  obtain ⟨b, w1, q1, e1⟩ := h w _ q
  cases b with
  | true =>
    rw [if_pos rfl] at q1
    obtain ⟨a, w2, x, q2, e2, ok⟩ := h1 w1 _ q1
    have e3 : exIf mt m1 m2 (R w) = some x := by simp only [exIf, e1, e2, Option.bind_some, if_true]
    cases a with
    | go t =>
      obtain ⟨fl, ρ⟩ := x
      obtain ⟨ok, hρ⟩ := ok
      rcases ok with h | ⟨z, _⟩
      · obtain rfl : fl = _ := h
        exact ⟨.go t, w2, _, q2, by simp only [exSeq, e3, Option.bind_some], .inl rfl, hρ⟩
      · cases z
    | stop t =>
      obtain ⟨fl, ρ⟩ := x
      obtain ⟨ok, hρ⟩ := ok
      obtain rfl : fl = _ := ok
      exact ⟨.stop t, w2, _, q2, by simp only [exSeq, e3, Option.bind_some], rfl, hρ⟩
    | ret b =>
      obtain ⟨⟨r, ρ, rfl⟩, ok⟩ := ok
      exact ⟨.ret b, w2, _, q2, by simp only [exSeq, e3, Option.bind_some], ⟨r, ρ, rfl⟩, ok⟩
  | false =>
    rw [if_neg (by decide)] at q1
    obtain ⟨a, w2, q2, e2⟩ := h2 w1 _ q1
    obtain ⟨b, w3, x, q3, e3, ok⟩ := hr a w2 _ q2
    refine ⟨b, w3, x, q3, ?_, ok⟩
    have e4 : exIf mt m1 m2 (R w) = some (.nx, K a w2) := by simp only [exIf, e1, Option.bind_some]; exact e2
    simp only [exSeq, e4, e3, Option.bind_some]
theorem lKill (h : WL io esc ks m R KL s out Tl) : WL io esc [] (exKill ks m) R KL s out Tl := fun w Q q => by
  obtain ⟨a, w1, x, q1, e1, ok⟩ := h w _ q
  cases a with
  | go t =>
    obtain ⟨fl, ρ⟩ := x
    obtain ⟨ok, hρ⟩ := ok
    have hρ : kill ks ρ = KL t w1 := hρ
    rcases ok with h | ⟨z, h⟩
    · obtain rfl : fl = _ := h
      exact ⟨.go t, w1, (.ct, kill ks ρ), q1, by simp only [exKill, e1, Option.bind_some], .inl rfl, hρ⟩
    · obtain rfl : fl = _ := h
      exact ⟨.go t, w1, (.nx, kill ks ρ), q1, by simp only [exKill, e1, Option.bind_some], .inr ⟨z, rfl⟩, hρ⟩
  | stop t =>
    obtain ⟨fl, ρ⟩ := x
    obtain ⟨ok, hρ⟩ := ok
    obtain rfl : fl = _ := ok
    exact ⟨.stop t, w1, (.bk, kill ks ρ), q1, by simp only [exKill, e1, Option.bind_some], rfl, hρ⟩
  | ret b =>
    obtain ⟨⟨r, ρ, rfl⟩, ok⟩ := ok
    exact ⟨.ret b, w1, _, q1, by simp only [exKill, e1, Option.bind_some], ⟨r, ρ, rfl⟩, ok⟩
/-! ### whole defs -/
theorem cwOf {nl : Nat} {args : List SV} (R : Unit → Rho) (h : WN false m R s (fun _ _ => .val .none) Tf) (hR : args.map some ++ List.replicate (nl - args.length) none = R () := by rfl) : CW (runB false nl m) args s Tf := fun Q q => by
  obtain ⟨a, w, x, q1, e1, ok⟩ := h () _ q
  refine ⟨a, .val .none, q1, ?_⟩
  unfold runB
  rw [hR, e1]
  exact ok
def CIn (cm : CM) (c : Int) (args : List SV) (fs : γ → List D) (T : PT γ) : Prop := ∀ Q, T Q → ∃ x, Q x ∧ cm (.own (.ins c []) :: args) = some (.val .none, .own (.ins c (fs x)))
theorem ciOf {nl : Nat} {c : Int} {args : List SV} {fs : γ → List D} (R : Unit → Rho) (h : WN true m R (fun _ => .val .none) (fun a _ => .own (.ins c (fs a))) Tf) (hR : (SV.own (OB.ins c []) :: args).map some ++ List.replicate (nl - (args.length + 1)) none = R () := by rfl) : CIn (runB true nl m) c args fs Tf := fun Q q => by
  obtain ⟨a, w', x, q1, e1, ok⟩ := h () _ q
  refine ⟨a, q1, ?_⟩
  unfold runB
  simp only [List.length_cons] at hR ⊢
  rw [hR, e1]
  exact ok
theorem sFldW {fn : FNs} {f : Str} (h : WE me R ra T R1) (hK : ∀ w a, (frz1 (R1 w) (ra a)).bind (fun b => (insAt b.2 i).bind fun o => (putD (fn o.1) o.2 f b.1).bind fun fs => some (b.2.set i (some (.own (.ins o.1 fs))))) = some (K a w) := by intro _ _; rfl) : WS (exFld fn i f me) R K T := fun w Q q => by
  obtain ⟨a, w1, q1, e1⟩ := h w _ q
  refine ⟨a, w1, q1, ?_⟩
  have z := hK w1 a
  simp only [Option.bind_eq_some_iff] at z
  obtain ⟨b, z1, o, z2, fs, z3, z4⟩ := z
  have z5 : b.2.set i (some (.own (.ins o.1 fs))) = K a w1 := by simpa using z4
  simp only [exFld, e1, z1, z2, z3, z5, Option.bind_some]
theorem crOf {nl : Nat} {args : List SV} {row : ω → OB} (R : ω → Rho) (h : WN true m R s (fun _ w => .own (row w)) Tf) (hR : ∀ w, (SV.own (row w) :: args).map some ++ List.replicate (nl - (args.length + 1)) none = R w := by intro _; rfl) : CR (runB true nl m) (fun w => .own (row w)) args s Tf := fun w Q q => by
  obtain ⟨a, w', x, q1, e1, ok⟩ := h w _ q
  refine ⟨a, w', q1, ?_⟩
  unfold runB
  have z := hR w
  simp only [List.length_cons] at z ⊢
  rw [z, e1]
  exact ok
end
end Tv

/-! Tv3: what encoders are like; the operators at typed values. -/
namespace Tv
open PySem Pv
section
variable {α β γ δ : Type}
class Good [DecidableEq α] (e : α → D) (n : outParam Nat) : Prop where
  plain : ∀ a, (e a).plain = true
  depth : ∀ a, (e a).depth ≤ n
  eqv : ∀ a b, PyData.eqv (e a) (e b) = decide (a = b)
class NN (e : α → D) : Prop where
  nn : ∀ a, e a ≠ .none
class Nl (e : α → D) : Prop where
  nl : ∀ a, Pv.nl (e a) = true
class Ordd (e : α → D) (lt : outParam (α → α → Bool)) : Prop where
  alike : ∀ a b, PySem.W.alike (e a) (e b) = true
  lt : ∀ a b, PySem.W.dataLt (e a) (e b) = lt a b
  nn : ∀ a, e a ≠ .none
abbrev ltI (a b : Int) : Bool := decide (a < b)
def ltLex [DecidableEq α] (lt : α → α → Bool) : List α → List α → Bool
  | [], [] => false
  | [], _ :: _ => true
  | _ :: _, [] => false
  | x :: xs, y :: ys => if x = y then ltLex lt xs ys else lt x y
def ltP [DecidableEq α] [DecidableEq β] (lt : α → α → Bool) (lu : β → β → Bool) (p q : α × β) : Bool := if p.1 = q.1 then (if p.2 = q.2 then false else lu p.2 q.2) else lt p.1 q.1
def ltQ [DecidableEq α] [DecidableEq β] [DecidableEq γ] (lt : α → α → Bool) (lu : β → β → Bool) (lv : γ → γ → Bool) (p q : α × β × γ) : Bool := if p.1 = q.1 then (if p.2.1 = q.2.1 then (if p.2.2 = q.2.2 then false else lv p.2.2 q.2.2) else lu p.2.1 q.2.1) else lt p.1 q.1
instance : Good eI 0 := ⟨fun _ => rfl, fun _ => by simp [PyData.depth], fun a b => by simp [PyData.eqv]; by_cases h : a = b <;> simp [h]⟩
instance : Good eB 0 := ⟨fun _ => rfl, fun _ => by simp [PyData.depth], fun a b => by cases a <;> cases b <;> rfl⟩
instance : Good eS 0 := ⟨fun _ => rfl, fun _ => by simp [PyData.depth], fun a b => by simp [PyData.eqv]; by_cases h : a = b <;> simp [h]⟩
instance : Good eU 0 := ⟨fun _ => rfl, fun _ => by simp [eU, PyData.depth], fun a b => by simp [eU, PyData.eqv]⟩
theorem plainAll_map {e : α → D} (h : ∀ a, (e a).plain = true) : ∀ l : List α, PyData.plainAll (l.map e) = true
  | [] => rfl
  | x :: xs => by simp [PyData.plainAll, h, plainAll_map h xs]
theorem depthAll_map {e : α → D} {n : Nat} (h : ∀ a, (e a).depth ≤ n) : ∀ l : List α, PyData.depthAll (l.map e) ≤ n
  | [] => by simp [PyData.depthAll]
  | x :: xs => by have := depthAll_map h xs; have := h x; simp [PyData.depthAll]; omega
theorem eqvAll_map [DecidableEq α] {e : α → D} (h : ∀ a b, PyData.eqv (e a) (e b) = decide (a = b)) : ∀ l m : List α, PyData.eqvAll (l.map e) (m.map e) = decide (l = m)
  | [], [] => rfl
  | [], _ :: _ => rfl
  | _ :: _, [] => rfl
  | x :: xs, y :: ys => by
    simp only [List.map_cons, PyData.eqvAll, h, eqvAll_map h xs ys]
    by_cases h1 : x = y <;> by_cases h2 : xs = ys <;> simp [h1, h2]
instance [DecidableEq α] {e : α → D} {n : Nat} [g : Good e n] : Good (eT e) (n + 1) := ⟨fun a => by simp [eT, PyData.plain, plainAll_map g.plain], fun a => by have := depthAll_map g.depth a; simp [eT, PyData.depth]; omega, fun a b => by simp only [eT, PyData.eqv, eqvAll_map g.eqv]⟩
instance [DecidableEq α] {e : α → D} {n : Nat} [g : Good e n] : Good (eL e) (n + 1) := ⟨fun a => by simp [eL, PyData.plain, plainAll_map g.plain], fun a => by have := depthAll_map g.depth a; simp [eL, PyData.depth]; omega, fun a b => by simp only [eL, PyData.eqv, eqvAll_map g.eqv]⟩
instance [DecidableEq α] [DecidableEq β] {e : α → D} {f : β → D} {n m : Nat} [g : Good e n] [h : Good f m] : Good (eP e f) (n + m + 1) := ⟨fun a => by simp [eP, PyData.plain, PyData.plainAll, g.plain, h.plain], fun a => by have := g.depth a.1; have := h.depth a.2; simp [eP, PyData.depth, PyData.depthAll]; omega, fun a b => by
  obtain ⟨a1, a2⟩ := a
  obtain ⟨b1, b2⟩ := b
  simp only [eP, PyData.eqv, PyData.eqvAll, g.eqv, h.eqv, Bool.and_true, Prod.mk.injEq, Bool.decide_and]⟩
instance [DecidableEq α] [DecidableEq β] [DecidableEq γ] {e : α → D} {f : β → D} {k : γ → D} {n m o : Nat} [g : Good e n] [h : Good f m] [i : Good k o] : Good (eQ e f k) (n + m + o + 1) := ⟨fun a => by simp [eQ, PyData.plain, PyData.plainAll, g.plain, h.plain, i.plain], fun a => by have := g.depth a.1; have := h.depth a.2.1; have := i.depth a.2.2; simp [eQ, PyData.depth, PyData.depthAll]; omega, fun a b => by
  obtain ⟨a1, a2, a3⟩ := a
  obtain ⟨b1, b2, b3⟩ := b
  simp only [eQ, PyData.eqv, PyData.eqvAll, g.eqv, h.eqv, i.eqv, Bool.and_true, Prod.mk.injEq, Bool.decide_and]⟩
instance : NN eI := ⟨fun _ => by simp⟩
instance : NN eB := ⟨fun _ => by simp⟩
instance : NN eS := ⟨fun _ => by simp⟩
instance {e : α → D} : NN (eT e) := ⟨fun _ => by simp [eT]⟩
instance {e : α → D} : NN (eL e) := ⟨fun _ => by simp [eL]⟩
instance {e : α → D} {f : β → D} : NN (eP e f) := ⟨fun _ => by simp [eP]⟩
instance {e : α → D} {f : β → D} {k : γ → D} : NN (eQ e f k) := ⟨fun _ => by simp [eQ]⟩
theorem eqv_nn {d : D} (h : d ≠ .none) : PyData.eqv .none d = false ∧ PyData.eqv d .none = false := by cases d <;> simp_all [PyData.eqv]
instance [DecidableEq α] {e : α → D} {n : Nat} [g : Good e n] [z : NN e] : Good (eO e) n := ⟨fun a => by cases a with
    | none => rfl
    | some a => exact g.plain a, fun a => by cases a with
    | none => simp [eO, PyData.depth]
    | some a => exact g.depth a, fun a b => by
    cases a with
    | none => cases b with
      | none => rfl
      | some b => simp [eO, (eqv_nn (z.nn b)).1]
    | some a => cases b with
      | none => simp [eO, (eqv_nn (z.nn a)).2]
      | some b => simp [eO, g.eqv]⟩
theorem nlAll_map {e : α → D} (h : ∀ a, Pv.nl (e a) = true) : ∀ l : List α, nlAll (l.map e) = true
  | [] => rfl
  | x :: xs => by simp [nlAll, h, nlAll_map h xs]
instance : Nl eI := ⟨fun _ => rfl⟩
instance : Nl eB := ⟨fun _ => rfl⟩
instance : Nl eS := ⟨fun _ => rfl⟩
instance : Nl eU := ⟨fun _ => rfl⟩
instance {e : α → D} [h : Nl e] : Nl (eT e) := ⟨fun a => by simp [eT, Pv.nl, nlAll_map h.nl]⟩
instance {e : α → D} {f : β → D} [h : Nl e] [i : Nl f] : Nl (eP e f) := ⟨fun a => by simp [eP, Pv.nl, nlAll, h.nl, i.nl]⟩
instance {e : α → D} {f : β → D} {k : γ → D} [h : Nl e] [i : Nl f] [j : Nl k] : Nl (eQ e f k) := ⟨fun a => by simp [eQ, Pv.nl, nlAll, h.nl, i.nl, j.nl]⟩
instance {e : α → D} [h : Nl e] : Nl (eO e) := ⟨fun a => by cases a with
  | none => rfl
  | some a => exact h.nl a⟩
theorem nlL {e : α → D} [h : Nl e] (x : List α) : nlS (vL e x) = true := nlAll_map h.nl x
instance : Ordd eI ltI := ⟨fun _ _ => rfl, fun a b => PySem.W.dataLt_int a b, fun _ => by simp⟩
theorem alikeAll_map {e : α → D} (h : ∀ a b, PySem.W.alike (e a) (e b) = true) : ∀ l m : List α, PySem.W.alikeAll (l.map e) (m.map e) = true
  | [], [] => by simp [PySem.W.alikeAll]
  | [], _ :: _ => by simp [PySem.W.alikeAll]
  | _ :: _, [] => by simp [PySem.W.alikeAll]
  | x :: xs, y :: ys => by simp [PySem.W.alikeAll, h, alikeAll_map h xs ys]
theorem rowLt_map [DecidableEq α] {e : α → D} {n : Nat} {lt : α → α → Bool} [g : Good e n] [o : Ordd e lt] : ∀ l m : List α, PySem.W.rowLt (l.map e) (m.map e) = ltLex lt l m
  | [], [] => by unfold PySem.W.rowLt; rw [PyProof.Rows.lex_irrefl]; rfl
  | [], y :: ys => by
    simp only [List.map_nil, List.map_cons, PySem.W.rowLt, PySem.W.keyToksAll, ltLex]
    rw [PyProof.Rows.lexLt]
    simp [PyProof.Rows.itemOrd, PyProof.Rows.itemLt]
  | x :: xs, [] => by
    simp only [List.map_nil, List.map_cons, PySem.W.rowLt, PySem.W.keyToksAll, ltLex]
    rw [PyProof.Rows.lexLt]
    simp [PyProof.Rows.itemOrd, PyProof.Rows.itemLt]
  | x :: xs, y :: ys => by
    have ih := rowLt_map (e := e) (lt := lt) xs ys
    unfold PySem.W.rowLt at ih ⊢
    simp only [List.map_cons]
    rw [PySem.W.dataLt_cons (o.alike x y), ih, g.eqv, o.lt]
    simp [ltLex]
instance [DecidableEq α] {e : α → D} {n : Nat} {lt : α → α → Bool} [g : Good e n] [o : Ordd e lt] : Ordd (eT e) (ltLex lt) := ⟨fun a b => by simp [eT, PySem.W.alike, alikeAll_map o.alike], fun a b => by rw [eT, eT, PySem.W.dataLt_tuple]; exact rowLt_map a b, fun _ => by simp [eT]⟩
instance [DecidableEq α] {e : α → D} {n : Nat} {lt : α → α → Bool} [g : Good e n] [o : Ordd e lt] : Ordd (eL e) (ltLex lt) := ⟨fun a b => by simp [eL, PySem.W.alike, alikeAll_map o.alike], fun a b => by rw [eL, eL, PySem.W.dataLt_list]; exact rowLt_map a b, fun _ => by simp [eL]⟩
instance [DecidableEq α] [DecidableEq β] {e : α → D} {f : β → D} {n m : Nat} {lt : α → α → Bool} {lu : β → β → Bool} [g : Good e n] [o : Ordd e lt] [h : Good f m] [p : Ordd f lu] : Ordd (eP e f) (ltP lt lu) := ⟨fun a b => by simp [eP, PySem.W.alike, PySem.W.alikeAll, o.alike, p.alike], fun a b => by
  rw [eP, eP, PySem.W.dataLt_pair (o.alike _ _) (p.alike _ _), g.eqv, h.eqv, o.lt, p.lt]
  simp [ltP], fun _ => by simp [eP]⟩
instance [DecidableEq α] [DecidableEq β] [DecidableEq γ] {e : α → D} {f : β → D} {k : γ → D} {n m r : Nat} {lt : α → α → Bool} {lu : β → β → Bool} {lv : γ → γ → Bool} [g : Good e n] [o : Ordd e lt] [h : Good f m] [p : Ordd f lu] [i : Good k r] [q : Ordd k lv] : Ordd (eQ e f k) (ltQ lt lu lv) := ⟨fun a b => by simp [eQ, PySem.W.alike, PySem.W.alikeAll, o.alike, p.alike, q.alike], fun a b => by
  rw [eQ, eQ, PySem.W.dataLt_tuple, PySem.W.dataLt_cons (o.alike _ _), PySem.W.dataLt_cons (p.alike _ _), PySem.W.dataLt_cons (q.alike _ _), g.eqv, h.eqv, i.eqv, o.lt, p.lt, q.lt, PyProof.Rows.lex_irrefl]
  simp [ltQ], fun _ => by simp [eQ]⟩
/-! ### comparisons -/
theorem pEq_of [DecidableEq α] {e : α → D} {n : Nat} [g : Good e n] (hn : n ≤ 100) (a b : α) : pEq (e a) (e b) = true := by
  have := g.depth a
  simp only [pEq, g.plain, Bool.true_and, Bool.and_true, decide_eq_true_eq]
  omega
theorem pLt_of [DecidableEq α] {e : α → D} {n : Nat} {lt : α → α → Bool} [g : Good e n] [o : Ordd e lt] (hn : n ≤ 100) (a b : α) : pLt (e a) (e b) = true := by
  have := g.depth a
  have h := o.nn a
  have h2 : (match e a with | .none => false | _ => true) = true := by cases q : e a <;> simp_all
  simp only [pLt, g.plain, o.alike, h2, Bool.true_and, Bool.and_true, decide_eq_true_eq]
  omega
theorem opEq [DecidableEq α] {e : α → D} {n : Nat} [g : Good e n] (a b : α) (hn : n ≤ 100 := by decide) : Op2 gEqD (e a) (e b) (vV eB) (fun Q => Q (decide (a = b))) := fun Q q => ⟨_, q, by simp only [gDat, if_pos (pEq_of hn a b), g.eqv]⟩
theorem opNe [DecidableEq α] {e : α → D} {n : Nat} [g : Good e n] (a b : α) (hn : n ≤ 100 := by decide) : Op2 gNeD (e a) (e b) (vV eB) (fun Q => Q (!decide (a = b))) := fun Q q => ⟨_, q, by simp only [gDat, if_pos (pEq_of hn a b), g.eqv]⟩
theorem opLt [DecidableEq α] {e : α → D} {n : Nat} {lt : α → α → Bool} [g : Good e n] [o : Ordd e lt] (a b : α) (hn : n ≤ 100 := by decide) : Op2 gLtD (e a) (e b) (vV eB) (fun Q => Q (lt a b)) := fun Q q => ⟨_, q, by simp only [gDat, if_pos (pLt_of hn a b), o.lt]⟩
theorem opGt [DecidableEq α] {e : α → D} {n : Nat} {lt : α → α → Bool} [g : Good e n] [o : Ordd e lt] (a b : α) (hn : n ≤ 100 := by decide) : Op2 gGtD (e a) (e b) (vV eB) (fun Q => Q (lt b a)) := fun Q q => ⟨_, q, by simp only [gDat, if_pos (pLt_of hn a b), o.lt]⟩
theorem opLtI (a b : Int) : Op2 gLtD (eI a) (eI b) (vV eB) (fun Q => Q (decide (a < b))) := opLt (e := eI) a b
theorem opGtI (a b : Int) : Op2 gGtD (eI a) (eI b) (vV eB) (fun Q => Q (decide (b < a))) := opGt (e := eI) a b
theorem opLeI (a b : Int) : Op2 gLeD (eI a) (eI b) (vV eB) (fun Q => Q (decide (a ≤ b))) := fun Q q => ⟨_, q, eLe⟩
theorem any_map [DecidableEq α] {e : α → D} {n : Nat} [g : Good e n] (a : α) : ∀ l : List α, (l.map e).any (fun y => PyData.eqv y (e a)) = decide (a ∈ l)
  | [] => by simp
  | x :: xs => by
    simp only [List.map_cons, List.any_cons, any_map a xs, g.eqv, List.mem_cons, Bool.decide_or]
    by_cases h : x = a
    · subst h; simp
    · simp [h, Ne.symm h]
theorem pIn_of [DecidableEq α] {e : α → D} {n : Nat} [g : Good e n] (a : α) (l : List α) (hn : n ≤ 100) : (decide (min (PyData.depthAll (l.map e)) (e a).depth ≤ 100)) = true := by
  have := g.depth a
  simp only [decide_eq_true_eq]; omega
theorem opInT [DecidableEq α] {e : α → D} {n : Nat} [g : Good e n] (a : α) (l : List α) (hn : n ≤ 100 := by decide) : Op2 gInD (e a) (eT e l) (vV eB) (fun Q => Q (decide (a ∈ l))) := fun Q q => ⟨_, q, by
  simp only [gDat, eT, pIn, gIn, g.plain, plainAll_map g.plain, pIn_of a l hn, any_map, Bool.and_self, if_true]⟩
theorem opInL [DecidableEq α] {e : α → D} {n : Nat} [g : Good e n] (a : α) (l : List α) (hn : n ≤ 100 := by decide) : Op2 gInD (e a) (eL e l) (vV eB) (fun Q => Q (decide (a ∈ l))) := fun Q q => ⟨_, q, by
  simp only [gDat, eL, pIn, gIn, g.plain, plainAll_map g.plain, pIn_of a l hn, any_map, Bool.and_self, if_true]⟩
theorem opNotInT [DecidableEq α] {e : α → D} {n : Nat} [g : Good e n] (a : α) (l : List α) (hn : n ≤ 100 := by decide) : Op2 gNotInD (e a) (eT e l) (vV eB) (fun Q => Q (!decide (a ∈ l))) := fun Q q => ⟨_, q, by
  simp only [gDat, eT, pIn, gIn, g.plain, plainAll_map g.plain, pIn_of a l hn, any_map, Bool.and_self, if_true]⟩
theorem opNotInL [DecidableEq α] {e : α → D} {n : Nat} [g : Good e n] (a : α) (l : List α) (hn : n ≤ 100 := by decide) : Op2 gNotInD (e a) (eL e l) (vV eB) (fun Q => Q (!decide (a ∈ l))) := fun Q q => ⟨_, q, by
  simp only [gDat, eL, pIn, gIn, g.plain, plainAll_map g.plain, pIn_of a l hn, any_map, Bool.and_self, if_true]⟩
end
section
variable {α β γ δ : Type} {e : α → D} {f : β → D} {k : γ → D}
/-! ### arithmetic -/
theorem opAdd (a b : Int) : Op2 gAdd (eI a) (eI b) (vV eI) (fun Q => Q (a + b)) := fun Q q => ⟨_, q, rfl⟩
theorem opSub (a b : Int) : Op2 Pv.gSub (eI a) (eI b) (vV eI) (fun Q => Q (a - b)) := fun Q q => ⟨_, q, rfl⟩
def mulW (a b : Int) : PT Int := fun Q => cMul a b = true ∧ Q (a * b)
theorem opMul (a b : Int) : Op2 gMulI (eI a) (eI b) (vV eI) (mulW a b) := fun Q q => ⟨_, q.2, by simp only [gI2, if_pos q.1]⟩
theorem opNeg (a : Int) : Op1 gNeg (eI a) (vV eI) (fun Q => Q (-a)) := fun Q q => ⟨_, q, rfl⟩
def catW (l m : List α) : PT (List α) := fun Q => l.length + m.length ≤ sizeLine ∧ Q (l ++ m)
theorem opCatL (l m : List α) : Op2 gAdd (eL e l) (eL e m) (vL e) (catW l m) := fun Q q => ⟨_, q.2, by simp only [gAdd, eL, vL, List.length_map, if_pos q.1, List.map_append]⟩
theorem opCatT (l m : List α) : Op2 gAdd (eT e l) (eT e m) (vV (eT e)) (catW l m) := fun Q q => ⟨_, q.2, by simp only [gAdd, eT, vV, List.length_map, if_pos q.1, List.map_append]⟩
def ixW (l : List α) (i : Int) : PT α := fun Q => ∃ x, L2.atI l i = some x ∧ Q x
theorem atI_map (l : List α) (i : Int) {x : α} (h : L2.atI l i = some x) : L2.atI (l.map e) i = some (e x) := by
  unfold L2.atI at h ⊢
  rw [List.length_map]
  cases q : L2.ixN l.length i with
  | none => rw [q] at h; cases h
  | some n =>
    rw [q] at h
    simp only [Option.bind_some, List.getElem?_map] at h ⊢
    rw [h]; rfl
theorem opIxT (l : List α) (i : Int) : Op2 gIx (eT e l) (eI i) (vV e) (ixW l i) := fun Q q => by
  obtain ⟨x, h, q⟩ := q
  exact ⟨x, q, by simp only [gIx, eT, atI_map l i h, Option.map_some]⟩
theorem opIxL (l : List α) (i : Int) : Op2 gIx (eL e l) (eI i) (vV e) (ixW l i) := fun Q q => by
  obtain ⟨x, h, q⟩ := q
  exact ⟨x, q, by simp only [gIx, eL, atI_map l i h, Option.map_some]⟩
theorem opFst (p : α × β) : Op2 gIx (eP e f p) (eI 0) (vV e) (fun Q => Q p.1) := fun Q q => ⟨_, q, rfl⟩
theorem opSlL (lo hi : Option Int) (l : List α) : Op1 (gSl lo hi) (eL e l) (vL e) (fun Q => Q (cutL l lo hi)) := fun Q q => ⟨_, q, by simp only [gSl, eL, vL, cutL, List.length_map, List.map_take, List.map_drop]⟩
/-! ### built-in functions -/
theorem opLenT (l : List α) : OpN gLen [eT e l] (vV eI) (fun Q => Q (l.length : Int)) := fun Q q => ⟨_, q, by simp only [gLen, eT, List.length_map]⟩
theorem opLenL (l : List α) : OpN gLen [eL e l] (vV eI) (fun Q => Q (l.length : Int)) := fun Q q => ⟨_, q, by simp only [gLen, eL, List.length_map]⟩
theorem opTupL (l : List α) : OpN gTuple [eL e l] (vV (eT e)) (fun Q => Q l) := fun Q q => ⟨_, q, rfl⟩
theorem bools_map : ∀ l : List Bool, boolsD (l.map eB) = some l
  | [] => rfl
  | x :: xs => by simp only [List.map_cons, boolsD, bools_map xs, Option.map_some]
theorem opAll (l : List Bool) : OpN gAll [eL eB l] (vV eB) (fun Q => Q (l.all id)) := fun Q q => ⟨_, q, by simp only [gAll, eL, bools_map, Option.map_some]⟩
/-! the greatest, the least -/
def maxB (lt : α → α → Bool) (x : α) (xs : List α) : α := xs.foldl (fun a y => if lt a y = true then y else a) x
def minB (lt : α → α → Bool) (x : α) (xs : List α) : α := xs.foldl (fun a y => if lt y a = true then y else a) x
def maxW (lt : α → α → Bool) : List α → PT α
  | [], _ => False
  | x :: xs, Q => Q (maxB lt x xs)
def minW (lt : α → α → Bool) : List α → PT α
  | [], _ => False
  | x :: xs, Q => Q (minB lt x xs)
theorem maxD_map {lt : α → α → Bool} [o : Ordd e lt] : ∀ (xs : List α) (x : α), PySem.W.maxD (e x) (xs.map e) = e (maxB lt x xs)
  | [], x => rfl
  | y :: ys, x => by
    have ih := fun z => maxD_map (lt := lt) ys z
    simp only [PySem.W.maxD, maxB, List.map_cons, List.foldl_cons, o.lt] at ih ⊢
    split <;> exact ih _
theorem minD_map {lt : α → α → Bool} [o : Ordd e lt] : ∀ (xs : List α) (x : α), PySem.W.minD (e x) (xs.map e) = e (minB lt x xs)
  | [], x => rfl
  | y :: ys, x => by
    have ih := fun z => minD_map (lt := lt) ys z
    simp only [PySem.W.minD, minB, List.map_cons, List.foldl_cons, o.lt] at ih ⊢
    split <;> exact ih _
theorem mm_ok [DecidableEq α] {n : Nat} {lt : α → α → Bool} [g : Good e n] [o : Ordd e lt] (hn : n ≤ 100) (l : List α) : (PyData.plainAll (l.map e) && allAlike (l.map e) && decide (PyData.depthAll (l.map e) ≤ 100)) = true := by
  have h1 := depthAll_map g.depth l
  have h2 : allAlike (l.map e) = true := by
    simp only [allAlike, List.all_map, Bool.and_eq_true, List.all_eq_true, Function.comp]
    refine ⟨fun x _ y _ => o.alike x y, fun x _ => ?_⟩
    have h := o.nn x
    cases q : e x <;> simp_all
  simp only [plainAll_map g.plain, h2, Bool.and_self, Bool.true_and, decide_eq_true_eq]
  omega
theorem opMax [DecidableEq α] {n : Nat} {lt : α → α → Bool} [g : Good e n] [o : Ordd e lt] (l : List α) (hn : n ≤ 100 := by decide) : OpN (gMM PySem.W.maxD) [eL e l] (vV e) (maxW lt l) := fun Q q => by
  cases l with
  | nil => exact q.elim
  | cons x xs =>
    refine ⟨_, q, ?_⟩
    have h := mm_ok (e := e) (lt := lt) hn (x :: xs)
    simp only [List.map_cons] at h
    simp only [gMM, eL, List.map_cons, if_pos h, maxD_map (lt := lt)]
theorem opMin [DecidableEq α] {n : Nat} {lt : α → α → Bool} [g : Good e n] [o : Ordd e lt] (l : List α) (hn : n ≤ 100 := by decide) : OpN (gMM PySem.W.minD) [eL e l] (vV e) (minW lt l) := fun Q q => by
  cases l with
  | nil => exact q.elim
  | cons x xs =>
    refine ⟨_, q, ?_⟩
    have h := mm_ok (e := e) (lt := lt) hn (x :: xs)
    simp only [List.map_cons] at h
    simp only [gMM, eL, List.map_cons, if_pos h, minD_map (lt := lt)]
/-! sorted -/
def srtOk (e : α → D) (l : List α) : Bool := sortable (l.map e)
def sortB (lt : α → α → Bool) (l : List α) : List α := l.mergeSort fun a b => !lt b a
def sortW (e : α → D) (lt : α → α → Bool) (l : List α) : PT (List α) := fun Q => srtOk e l = true ∧ Q (sortB lt l)
theorem merge_map (r : α → α → Bool) (s : D → D → Bool) (h : ∀ a b, s (e a) (e b) = r a b) (l : List α) : (l.map e).mergeSort s = (l.mergeSort r).map e := by
  rw [List.map_mergeSort fun a _ b _ => (h a b).symm]
theorem opSorted [DecidableEq α] {n : Nat} {lt : α → α → Bool} [g : Good e n] [o : Ordd e lt] (l : List α) (hn : n ≤ 100 := by decide) : OpN gSorted [eL e l] (vL e) (sortW e lt l) := fun Q q => ⟨_, q.2, by
  have h1 := depthAll_map g.depth l
  have h : pSort (l.map e) = true := by
    have h2 : (l.map e).all (fun x => (l.map e).all fun y => PySem.W.alike x y) = true := by
      simp only [List.all_map, List.all_eq_true, Function.comp]
      exact fun x _ y _ => o.alike x y
    have h3 : sortable (l.map e) = true := q.1
    simp only [pSort, plainAll_map g.plain, h2, h3, Bool.and_self, Bool.true_and, decide_eq_true_eq]
    omega
  simp only [gSorted, eL, if_pos h, srtD, sortB]
  rw [merge_map (fun a b => !lt b a) (PySem.W.dataLe false id) fun a b => by rw [PySem.W.dataLe_eq]; simp [o.lt]]⟩
/-! sorted(set(..)) -/
/-! list(range(..)), tuple(range(..)) -/
def rgW (n : Int) : PT (List Int) := fun Q => rgOkB 0 n = true ∧ Q (rangeL 0 n.toNat)
theorem opLRg (a : Int) : Op1 gLRg1 (eI a) (vL eI) (rgW a) := fun Q q => ⟨_, q.2, by simp only [gLRg1, if_pos q.1, rngD_map]⟩
end
end Tv

/-! Tv4: comprehensions of two clauses, sorted by a key; fields, makes, lengths of instances. -/
namespace Tv
open PySem Pv
section
variable {ω α β γ δ ε : Type} {R R1 : ω → Rho}
def compG2 (t : δ → PT Bool) (src : δ → PT (List ε)) (u : δ → ε → PT Bool) (f : δ → ε → PT γ) : List δ → PT (List γ)
  | [], Q => Q []
  | x :: xs, Q => t x fun b => if b = true then src x fun l => compG (u x) (f x) l fun ys => compG2 t src u f xs fun zs => Q (ys ++ zs) else compG2 t src u f xs Q
def comp2W (l : List δ) (t : δ → PT Bool) (src : δ → PT (List ε)) (u : δ → ε → PT Bool) (f : δ → ε → PT γ) : PT (List γ) := fun Q => compG2 t src u f l fun ys => ys.length ≤ sizeLine ∧ Q ys
variable {mi mi1 : IM} {mg mg1 : GM} {mt mt1 : TM} {me : EM} {vs vs1 : List Nat} {e : δ → D} {e1 : ε → D} {e' : γ → D} {Ti : PT (List δ)} {R0 : ω → Rho} {Rb Rb0 : δ → ω → Rho} {Rc Rd : δ → ε → ω → Rho} {re : δ → ε → β → Rv} {tt : δ → PT Bool} {src : δ → PT (List ε)} {tu : δ → ε → PT Bool} {tb : δ → ε → PT β} {v : δ → ε → β → γ}
theorem comp2_go (hg : ∀ w x, mg (e x) (R0 w) = some (Rb x w)) (ht : ∀ x, W mt (Rb x) (fun b : Bool => b) (tt x) (Rb x)) (hs : ∀ x, WI mi1 (Rb x) e1 (src x) (Rb x)) (h01 : ∀ w x, kill vs1 (Rb x w) = Rb0 x w) (hg1 : ∀ w x y, mg1 (e1 y) (Rb0 x w) = some (Rc x y w)) (ht1 : ∀ x y, W mt1 (Rc x y) (fun b : Bool => b) (tu x y) (Rc x y)) (he : ∀ x y, WE me (Rc x y) (re x y) (tb x y) (Rc x y))
    (hz : ∀ w x y b, frz1 (Rc x y w) (re x y b) = some (e' (v x y b), Rd x y w)) (hk1 : ∀ w x y, kill vs1 (Rc x y w) = Rb0 x w) (hk2 : ∀ w x y, kill vs1 (Rd x y w) = Rb0 x w) (hk : ∀ w x, kill vs (Rb x w) = R0 w) (hk0 : ∀ w x, kill vs (Rb0 x w) = R0 w) :
    ∀ (l : List δ) w Q, compG2 tt src tu (fun x y Q => tb x y fun b => Q (v x y b)) l Q → ∃ ys w', Q ys ∧ goComp2 mg mt mi1 mg1 mt1 me vs vs1 (l.map e) (R0 w) = some (ys.map e', R0 w')
  | [], w, Q, q => ⟨[], w, q, rfl⟩
  | x :: xs, w, Q, q => by
    obtain ⟨b, w1, q1, e1'⟩ := ht x w _ q
    cases b with
    | true =>
      rw [if_pos rfl] at q1
      obtain ⟨l, w2, q2, e2⟩ := hs x w1 _ q1
      obtain ⟨ys, w3, q3, e3⟩ := comp_go (hg1 · x ·) (ht1 x) (he x) (hz · x · ·) (hk1 · x ·) (hk2 · x ·) l w2 _ q2
      obtain ⟨zs, w4, q4, e4⟩ := comp2_go hg ht hs h01 hg1 ht1 he hz hk1 hk2 hk hk0 xs w3 _ q3
      exact ⟨ys ++ zs, w4, q4, by simp only [List.map_cons, goComp2, hg, e1', e2, h01, e3, hk0, e4, Option.bind_some, if_true, List.map_append]⟩
    | false =>
      rw [if_neg (by decide)] at q1
      obtain ⟨zs, w4, q4, e4⟩ := comp2_go hg ht hs h01 hg1 ht1 he hz hk1 hk2 hk hk0 xs w1 _ q1
      refine ⟨zs, w4, q4, ?_⟩
      simp only [List.map_cons, goComp2, hg, e1', hk, Option.bind_some]
      exact e4
theorem wComp2 (hi : WI mi R e Ti R1) (ht : ∀ x, W mt (Rb x) (fun b : Bool => b) (tt x) (Rb x)) (hs : ∀ x, WI mi1 (Rb x) e1 (src x) (Rb x)) (ht1 : ∀ x y, W mt1 (Rc x y) (fun b : Bool => b) (tu x y) (Rc x y)) (he : ∀ x y, WE me (Rc x y) (re x y) (tb x y) (Rc x y)) (hg : ∀ w x, mg (e x) (R0 w) = some (Rb x w) := by intro _ _; rfl) (h01 : ∀ w x, kill vs1 (Rb x w) = Rb0 x w := by intro _ _; rfl) (hg1 : ∀ w x y, mg1 (e1 y) (Rb0 x w) = some (Rc x y w) := by intro _ _ _; rfl)
    (hz : ∀ w x y b, frz1 (Rc x y w) (re x y b) = some (e' (v x y b), Rd x y w) := by intro _ _ _ _; rfl) (hk1 : ∀ w x y, kill vs1 (Rc x y w) = Rb0 x w := by intro _ _ _; rfl) (hk2 : ∀ w x y, kill vs1 (Rd x y w) = Rb0 x w := by intro _ _ _; rfl) (hk : ∀ w x, kill vs (Rb x w) = R0 w := by intro _ _; rfl) (hk0 : ∀ w x, kill vs (Rb0 x w) = R0 w := by intro _ _; rfl)
    (h0 : ∀ w, kill vs (R1 w) = R0 w := by intro _; rfl) (hr : ∀ w w', restore vs (R1 w) (R0 w') = R1 w' := by intro _ _; rfl) :
    WE (evComp2 mi mg mt mi1 mg1 mt1 me vs vs1) R (fun l => .sv (.own (.lst (l.map e')))) (fun Q => Ti fun l => comp2W l tt src tu (fun x y Q => tb x y fun b => Q (v x y b)) Q) R1 := fun w Q q => by
  obtain ⟨l, w1, q1, e2⟩ := hi w _ q
  obtain ⟨ys, w2, q2, e3⟩ := comp2_go hg ht hs h01 hg1 ht1 he hz hk1 hk2 hk hk0 l w1 _ q1
  exact ⟨ys, w2, q2.2, by simp only [evComp2, e2, h0, e3, hr, Option.bind_some, List.length_map, if_pos q2.1]⟩
/-! sorted(.., key=) -/
/-! ### classes -/
variable {ms : AM} {rs : α → List Rv} {Ts : PT α}
theorem wMake {c : Int} {np : Nat} {cm : CM} {ss : α → List SV} {t : α → PT γ} {fs : γ → List D} (ha : W ms R rs Ts R1) (hc : ∀ a, CIn cm c (ss a) fs (t a)) (hp : ∀ w a, passB (R1 w) (rs a) = some (ss a) := by intro _ _; rfl) (hf : ∀ w a, frAll (R1 w) (rs a) = R1 w := by intro _ _; rfl) (hl : ∀ a, (ss a).length + 1 = np := by intro _; rfl) :
    WE (evMake c np cm ms) R (fun x => .sv (.val (objD c (fs x)))) (fun Q => Ts fun a => t a Q) R1 := fun w Q q => by
  obtain ⟨a, w1, q1, e1⟩ := ha w _ q
  obtain ⟨x, q2, e2⟩ := hc a _ q1
  exact ⟨x, w1, q2, by simp only [evMake, e1, hp, hl, e2, hf, Option.bind_some, if_true]⟩
def lenOk (i : Int) : Bool := decide (0 ≤ i) && Nat.ble i.toNat 9223372036854775807
variable {ma : EM} {ra : α → Rv} {Ta : PT α}
theorem wLenO {c : Int} {lm : Int → Option (Nat × CM)} {cm : CM} {fs : α → List D} {t : α → PT Int} (ha : WE ma R ra Ta R1) (hc : ∀ a, CW cm [.val (objD c (fs a))] (vV eI) (t a)) (hm : lm c = some (1, cm) := by rfl) (h1 : ∀ w a, rdD (R1 w) (ra a) = some (objD c (fs a)) := by intro _ _; rfl) (h2 : ∀ w a, frz1 (R1 w) (ra a) = some (objD c (fs a), R1 w) := by intro _ _; rfl) :
    WE (evLen lm ma) R (fun i => .sv (.val (eI i))) (fun Q => Ta fun a => t a fun i => lenOk i = true ∧ Q i) R1 := fun w Q q => by
  obtain ⟨a, w1, q1, e1⟩ := ha w _ q
  obtain ⟨i, o, q2, e2⟩ := hc a _ q1
  have h3 : (decide (0 ≤ i) && Nat.ble i.toNat 9223372036854775807) = true := q2.1
  exact ⟨i, w1, q2.2, by simp only [evLen, e1, h1, h2, hm, e2, Option.bind_some, if_true, if_pos h3]⟩
end
end Tv

/-! Tv5: more of the same: total tests, starred displays, the row of draws. -/
namespace Tv
open PySem Pv
section
variable {ω α β γ δ : Type} {R R1 R2 : ω → Rho} {ma mb mc : EM} {mt mu : TM} {a b : Bool}
def ifW (b : Bool) (Ta Tb : PT α) : PT α := fun Q => if b = true then Ta Q else Tb Q
theorem wOr2 (h : WE ma R (fun a => .sv (.val (eB a))) (fun Q => Q a) R1) (h2 : WE mb R1 (fun a => .sv (.val (eB a))) (fun Q => Q b) R1) : WE (evOr ma mb) R (fun a => .sv (.val (eB a))) (fun Q => Q (a || b)) R1 := fun w Q q => by
  refine wOr h h2 w Q ?_
  show if a = true then Q true else Q b
  cases a <;> simpa using q
variable {Tu : PT Bool}
theorem wTOrF (h : W mt R (fun b : Bool => b) (fun Q => Q false) R1) (h2 : W mu R1 (fun b : Bool => b) Tu R1) : W (tvOr mt mu) R (fun b : Bool => b) Tu R1 := fun w Q q => wTOr h h2 w Q (by show if false = true then Q true else Tu Q; rw [if_neg (by decide)]; exact q)
theorem wAndT (h : WE ma R (fun a => .sv (.val (eB a))) (fun Q => Q true) R1) (h2 : WE mb R1 (fun a => .sv (.val (eB a))) Tu R1) : WE (evAnd ma mb) R (fun a => .sv (.val (eB a))) Tu R1 := fun w Q q => wAnd h h2 w Q (by show if true = true then Tu Q else Q false; rw [if_pos rfl]; exact q)
theorem wIf2 {k : γ → Rv} {x y : γ} (h : W mt R (fun b : Bool => b) (fun Q => Q a) R1) (ha : WE ma R1 k (fun Q => Q x) R2) (hb : WE mb R1 k (fun Q => Q y) R2) : WE (evIf mt ma mb) R k (fun Q => Q (if a = true then x else y)) R2 := fun w Q q => by
  refine wIf h ha hb w Q ?_
  show if a = true then Q x else Q y
  cases a <;> simpa using q
theorem wChain2 {g g' : D → D → Option SV} {ra : α → Rv} {rb : β → Rv} {rc : γ → Rv} {d1 : α → D} {d2 : β → D} {d3 : γ → D} {x : α} {y : β} {z : γ} {p : α → β → Bool} {p' : β → γ → Bool} (ha : WE ma R ra (fun Q => Q x) R1) (hb : WE mb R1 rb (fun Q => Q y) R2) (hc : WE mc R2 rc (fun Q => Q z) R2) (ho : ∀ a b, Op2 g (d1 a) (d2 b) (vV eB) (fun Q => Q (p a b))) (ho' : ∀ b c, Op2 g' (d2 b) (d3 c) (vV eB) (fun Q => Q (p' b c)))
    (h1 : ∀ w a, rdD (R2 w) (ra a) = some (d1 a) := by intro _ _; rfl) (h2 : ∀ w b, rdD (R2 w) (rb b) = some (d2 b) := by intro _ _; rfl) (h3 : ∀ w b, rdD (R2 w) (rc b) = some (d3 b) := by intro _ _; rfl) :
    WE (evChain g g' ma mb mc) R (fun a => .sv (.val (eB a))) (fun Q => Q (p x y && p' y z)) R2 := fun w Q q => by
  refine wChain ha hb hc ho ho' h1 h2 h3 w Q ?_
  show if p x y = true then Q (p' y z) else Q false
  cases e : p x y <;> simp [e] at q ⊢ <;> exact q
/-! displays with stars -/
variable {mr ms : AM} {e : δ → D} {ra : α → Rv} {Ta : PT α} {Td : PT δ} {Tl : PT (List δ)}
abbrev AL (m : AM) (R : ω → Rho) (e : δ → D) (T : PT (List δ)) (R' : ω → Rho) : Prop := W m R (fun l : List δ => l.map fun x => Rv.sv (.val (e x))) T R'
theorem alNil : AL evNil R e (fun Q => Q []) R := fun w Q q => ⟨[], w, q, rfl⟩
theorem alCons (ha : WE ma R (fun a => .sv (.val (e a))) Td R1) (hr : AL mr R1 e Tl R2) : AL (evCons ma mr) R e (fun Q => Td fun a => Tl fun l => Q (a :: l)) R2 := fun w Q q => by
  obtain ⟨a, w1, q1, e1⟩ := ha w _ q
  obtain ⟨l, w2, q2, e2⟩ := hr w1 _ q1
  exact ⟨a :: l, w2, q2, by simp only [evCons, e1, e2, Option.bind_some, List.map_cons]⟩
theorem alStar {d1 : α → List δ} (ha : WE ma R ra Ta R1) (hr : AL mr R1 e Tl R2) (h1 : ∀ w a, (rdD (R1 w) (ra a)).bind seqD = some ((d1 a).map e) := by intro _ _; rfl) : AL (evStar ma mr) R e (fun Q => Ta fun a => Tl fun l => Q (d1 a ++ l)) R2 := fun w Q q => by
  obtain ⟨a, w1, q1, e1⟩ := ha w _ q
  obtain ⟨b, w2, q2, e2⟩ := hr w1 _ q1
  refine ⟨d1 a ++ b, w2, q2, ?_⟩
  have h := h1 w1 a
  rw [Option.bind_eq_some_iff] at h
  obtain ⟨d, h2, h3⟩ := h
  simp only [evStar, e1, e2, h2, h3, Option.bind_some, List.map_map, List.map_append]
  rfl
theorem frzs_vals (ρ : Rho) : ∀ l : List δ, frzs ρ (l.map fun x => Rv.sv (.val (e x))) = some (l.map e, ρ)
  | [] => rfl
  | x :: xs => by simp only [List.map_cons, frzs, frz1, frzs_vals ρ xs, Option.bind_some]
def sizW (l : List δ) : PT (List δ) := fun Q => l.length ≤ sizeLine ∧ Q l
theorem wTupL (h : AL ms R e Tl R1) : WE (evTup ms) R (fun c => .sv (.val (eT e c))) (fun Q => Tl fun l => sizW l Q) R1 := fun w Q q => by
  obtain ⟨l, w1, q1, e1⟩ := h w _ q
  exact ⟨l, w1, q1.2, by simp only [evTup, e1, frzs_vals, Option.bind_some, List.length_map, if_pos q1.1, eT]⟩
theorem wLstL (h : AL ms R e Tl R1) : WE (evLst ms) R (fun c => .sv (.own (.lst (c.map e)))) (fun Q => Tl fun l => sizW l Q) R1 := fun w Q q => by
  obtain ⟨l, w1, q1, e1⟩ := h w _ q
  exact ⟨l, w1, q1.2, by simp only [evLst, e1, frzs_vals, Option.bind_some, List.length_map, if_pos q1.1]⟩
end
abbrev retW {α : Type} (x : α) : PT α := fun Q => Q x
section
variable {ω α γ : Type} {R R1 : ω → Rho} {ma : EM} {ra : α → Rv} {Ta : PT α}
theorem wProj {s : γ → SV} {d1 : α → D} {top : α → PT γ} (i : Int) (ha : WE ma R ra Ta R1) (ho : ∀ a, Op2 gIx (d1 a) (eI i) s (top a)) (h1 : ∀ w a, rdD (R1 w) (ra a) = some (d1 a) := by intro _ _; rfl) : WE (evBin gIx ma (evC (.int i))) R (fun c => .sv (s c)) (fun Q => Ta fun a => top a Q) R1 := fun w Q q => by
  obtain ⟨a, w1, q1, e1⟩ := ha w _ q
  obtain ⟨c, q2, e2⟩ := ho a _ q1
  have e3 : gIx (d1 a) (PyData.int i) = some (s c) := e2
  have e4 : rdD (R1 w1) (.sv (.val (.int i))) = some (.int i) := rfl
  exact ⟨c, w1, q2, by simp only [evBin, e1, evC, h1, e4, e3, Option.bind_some]⟩
end
/-! tests known at once, in a def -/
section
variable {ω α γ : Type} {R R1 : ω → Rho} {mt : TM} {m1 m2 n : SM} {io : Bool} {s : γ → SV} {out : γ → ω → SV} {Tf : PT γ}
theorem nIfFalseE (h : W mt R (fun b : Bool => b) (fun Q => Q false) R1) (h1 : WN io n R1 s out Tf) : WN io (exSeq (exIf mt m1 exPass) n) R s out Tf := fun w Q q => by
  obtain ⟨b, w1, q1, e1⟩ := h w (fun b => b = false) rfl
  obtain ⟨a, w2, x, q2, e2, ok⟩ := h1 w1 _ q
  refine ⟨a, w2, x, q2, ?_, ok⟩
  have e4 : exIf mt m1 exPass (R w) = some (.nx, R1 w1) := by simp only [exIf, e1, q1, Option.bind_some]; rfl
  simp only [exSeq, e4, e2, Option.bind_some]
end
/-! ### the row of draws -/
def rowD (ns : List Int) (i s b : Int) : List D := [flsD (ns.map .int), .int i, .int s, .int b]
structure RW where
  ns : List Int
  i : Int
  s : Int
  b : Int
  hi : 0 ≤ i
abbrev row (w : RW) : OB := .lst (rowD w.ns w.i w.s w.b)
theorem wPlc0 {R : RW → Rho} (i : Nat) (h : ∀ w, (R w)[i]? = some (some (.own (row w))) := by intro _; rfl) : WE (evVar i) R (fun _ : Unit => .plc i) (fun Q => Q ()) R := fun w Q q => ⟨(), w, q, by simp only [evVar, h w]⟩
def takenW (m : Int) : PT Int := fun Q => (0 < m ∧ m < 1000000000) ∧ ∀ r, 0 ≤ r → r < m → Q r
def CR1 (c : CM) (script : List Int) (T : PT Bool) : Prop := ∀ Q, T Q → ∃ a o, Q a ∧ c [.val (flsD (script.map .int))] = some (.val (.bool a), o)
theorem crLaw {nl : Nat} {m : SM} {script : List Int} {s : Bool → SV} {T : PT Bool} (R : RW → Rho) (h : WN false m R s (fun _ _ => .val .none) T) (hs : s = vV eB := by rfl) (hR : ∀ w, [some (.val (flsD (script.map .int)))] ++ List.replicate (nl - 1) none = R w := by intro _; rfl) : CR1 (runB false nl m) script T := fun Q q => by
  obtain ⟨a, w, x, q1, e1, ok⟩ := h ⟨[], 0, 0, 0, by decide⟩ _ q
  refine ⟨a, .val .none, q1, ?_⟩
  unfold runB
  have z := hR ⟨[], 0, 0, 0, by decide⟩
  subst hs
  simp only [List.map_cons, List.map_nil, List.length_cons, List.length_nil] at z ⊢
  rw [z, e1]
  exact ok
theorem sRow {P : List Nat} {j : Nat} {ns : List Int} {s0 : Int} {R : RW → Rho} {K : Unit → RW → Rho} {me : EM} (hm : ∀ w, me (R w) = some (.sv (.own (.lst (rowD ns 0 s0 0))), R w) := by intro _; rfl) (hi : j ∉ P := by decide) (hK : ∀ w w', (R w).set j (some (.own (row w'))) = K () w' := by intro _ _; rfl) :
    WS (exAsg P j me) R K (fun Q => Q ()) := fun w Q q => ⟨(), ⟨ns, 0, s0, 0, by decide⟩, q, by
  simp only [exAsg, hm, Option.bind_some, stoS, if_neg hi]
  rw [← hK w]⟩
end Tv

/-! Tv6: how typed functions are answered. -/
namespace Tv
open PySem Pv
section
variable {α β γ δ ε σ : Type}
theorem size_eq : sizeLine = 16777216 := by decide
/-! ranges, indices, sizes -/
theorem mem_rangeL {a x : Int} {n : Nat} : x ∈ rangeL a n ↔ a ≤ x ∧ x < a + n := by
  simp only [rangeL, List.mem_map, List.mem_range]
  constructor
  · rintro ⟨i, hi, rfl⟩; omega
  · rintro ⟨h1, h2⟩; exact ⟨(x - a).toNat, by omega, by omega⟩
theorem rangeL_len {a : Int} {n : Nat} : (rangeL a n).length = n := by simp [rangeL]
theorem rangeL_get {a : Int} {n i : Nat} (h : i < n) : (rangeL a n)[i]? = some (a + i) := by simp [rangeL, h]
theorem rangeL_get' {a x : Int} {n i : Nat} (h : (rangeL a n)[i]? = some x) : i < n ∧ x = a + i := by
  have hi : i < n := by
    have := (List.getElem?_eq_some_iff.mp h).1
    rwa [rangeL_len] at this
  rw [rangeL_get hi] at h
  exact ⟨hi, by cases h; rfl⟩
theorem rangeL_lt {a : Int} {n : Nat} : (rangeL a n).Pairwise (· < ·) := by
  unfold rangeL
  rw [List.pairwise_map]
  exact List.pairwise_lt_range.imp fun h => by omega
theorem big_ok {n : Int} (h1 : -1000000000 ≤ n) (h2 : n ≤ 1000000000) : big62 n = true := Nat.ble_eq_true_of_le (by omega)
theorem rangeW_ok {n : Int} {Q : List Int → Prop} (h1 : -1000000000 ≤ n) (h2 : n ≤ 1000000000) (q : Q (rangeL 0 n.toNat)) : rangeW n Q := ⟨big_ok h1 h2, q⟩
theorem rangeW_nat {n : Nat} {Q : List Int → Prop} (h2 : n ≤ 1000000000) (q : Q (rangeL 0 n)) : rangeW (n : Int) Q := rangeW_ok (by omega) (by omega) (by simpa using q)
theorem range2W_ok {a b : Int} {Q : List Int → Prop} (h1 : -1000000000 ≤ a) (h2 : a ≤ 1000000000) (h3 : -1000000000 ≤ b) (h4 : b ≤ 1000000000) (q : Q (rangeL a (b - a).toNat)) : range2W a b Q := ⟨⟨big_ok h1 h2, big_ok h3 h4⟩, q⟩
theorem rgW_ok {n : Int} {Q : List Int → Prop} (h1 : -1000000000 ≤ n) (h2 : n ≤ 10000000) (q : Q (rangeL 0 n.toNat)) : rgW n Q := ⟨by
  simp only [rgOkB, Bool.and_eq_true]
  refine ⟨⟨big_ok (by decide) (by decide), big_ok h1 (by omega)⟩, Nat.ble_eq_true_of_le (by omega)⟩, q⟩
theorem lenOk_nat (n : Nat) (h : n ≤ 1000000000) : lenOk (n : Int) = true := by
  simp only [lenOk, Bool.and_eq_true, decide_eq_true_eq]
  exact ⟨by omega, Nat.ble_eq_true_of_le (by omega)⟩
theorem atI_at {l : List α} {i : Int} (h0 : 0 ≤ i) {x : α} (h : l[i.toNat]? = some x) : L2.atI l i = some x := by
  have hl := (List.getElem?_eq_some_iff.mp h).1
  unfold L2.atI L2.ixN
  rw [if_pos h0, if_pos (by omega)]
  exact h
theorem ixW_ok {l : List α} {i : Int} {Q : α → Prop} (h0 : 0 ≤ i) {x : α} (h : l[i.toNat]? = some x) (q : Q x) : ixW l i Q := ⟨x, atI_at h0 h, q⟩
theorem ixW_last {l : List α} {Q : α → Prop} {x : α} (h : l.getLast? = some x) (q : Q x) : ixW l (-1) Q := by
  have hl : l ≠ [] := by rintro rfl; simp at h
  refine ⟨x, ?_, q⟩
  have hp : 0 < l.length := List.length_pos_iff.mpr hl
  unfold L2.atI L2.ixN
  rw [if_neg (by decide), if_pos (by omega)]
  simp only [Option.bind_some]
  rw [List.getLast?_eq_getElem?] at h
  rw [← h]; congr 1; omega
theorem catW_ok {l m : List α} {Q : List α → Prop} (h : l.length + m.length ≤ 16777216) (q : Q (l ++ m)) : catW l m Q := ⟨by rw [size_eq]; exact h, q⟩
theorem sizW_ok {l : List α} {Q : List α → Prop} (h : l.length ≤ 16777216) (q : Q l) : sizW l Q := ⟨by rw [size_eq]; exact h, q⟩
theorem appW_ok {l : List α} {x : α} {Q : List α → Prop} (h : l.length < 16777216) (q : Q (l ++ [x])) : appW l x Q := ⟨by rw [size_eq]; exact h, q⟩
theorem mulW_l {a b : Int} {Q : Int → Prop} (h1 : -1000000000 ≤ a) (h2 : a ≤ 1000000000) (q : Q (a * b)) : mulW a b Q := ⟨by
  simp only [cMul, Bool.or_eq_true]; exact .inl (Nat.ble_eq_true_of_le (by omega)), q⟩
theorem takenW_ok {m : Int} {Q : Int → Prop} (h0 : 0 < m) (h1 : m < 1000000) (q : ∀ r, 0 ≤ r → r < m → Q r) : takenW m Q := ⟨⟨h0, by omega⟩, q⟩
theorem ifW_ok {b : Bool} {Ta Tb : PT α} {Q : α → Prop} (h1 : b = true → Ta Q) (h2 : b = false → Tb Q) : ifW b Ta Tb Q := by
  cases b with
  | true => exact h1 rfl
  | false => exact h2 rfl
theorem ifW_inv {b : Bool} {Ta Tb : PT α} {Q : α → Prop} (P : α → Prop) (h1 : b = true → ∀ Q, (∀ a, P a → Q a) → Ta Q) (h2 : b = false → ∀ Q, (∀ a, P a → Q a) → Tb Q) (q : ∀ a, P a → Q a) : ifW b Ta Tb Q := ifW_ok (fun e => h1 e Q q) fun e => h2 e Q q
theorem andW_ok {Ta Tb : PT Bool} (a b : Bool) {Q : Bool → Prop} (ha : ∀ Q, Q a → Ta Q) (hb : a = true → ∀ Q, Q b → Tb Q) (q : Q (a && b)) : andW Ta Tb Q := by
  refine ha _ ?_
  cases a with
  | true => rw [if_pos rfl]; exact hb rfl Q (by simpa using q)
  | false => rw [if_neg (by decide)]; simpa using q
theorem orW_ok {Ta Tb : PT Bool} (a b : Bool) {Q : Bool → Prop} (ha : ∀ Q, Q a → Ta Q) (hb : a = false → ∀ Q, Q b → Tb Q) (q : Q (a || b)) : orW Ta Tb Q := by
  refine ha _ ?_
  cases a with
  | false => rw [if_neg (by decide)]; exact hb rfl Q (by simpa using q)
  | true => rw [if_pos rfl]; simpa using q
/-! comprehensions -/
theorem mapG_ok {f : δ → PT γ} (g : δ → γ) : ∀ {l : List δ} {Q : List γ → Prop}, (∀ x ∈ l, ∀ Q, Q (g x) → f x Q) → Q (l.map g) → mapG f l Q
  | [], Q, _, q => q
  | x :: xs, Q, h, q => h x (.head _) _ (mapG_ok g (fun y hy => h y (.tail _ hy)) q)
theorem mapW_ok {l : List δ} {f : δ → PT γ} {Q : List γ → Prop} (g : δ → γ) (hl : l.length ≤ 16777216) (h : ∀ x ∈ l, ∀ Q, Q (g x) → f x Q) (q : Q (l.map g)) : mapW l f Q := ⟨by rw [size_eq]; exact hl, mapG_ok g h q⟩
theorem compG_ok {t : δ → PT Bool} {f : δ → PT γ} (p : δ → Bool) (g : δ → γ) : ∀ {l : List δ} {Q : List γ → Prop}, (∀ x ∈ l, ∀ Q, Q (p x) → t x Q) → (∀ x ∈ l, p x = true → ∀ Q, Q (g x) → f x Q) → Q ((l.filter p).map g) → compG t f l Q
  | [], Q, _, _, q => q
  | x :: xs, Q, ht, hf, q => by
    refine ht x (.head _) _ ?_
    by_cases e : p x = true
    · rw [if_pos e]
      refine hf x (.head _) e _ (compG_ok p g (fun y hy => ht y (.tail _ hy)) (fun y hy => hf y (.tail _ hy)) ?_)
      simpa [e] using q
    · rw [if_neg e]
      refine compG_ok p g (fun y hy => ht y (.tail _ hy)) (fun y hy => hf y (.tail _ hy)) ?_
      simpa [e] using q
theorem compW_ok {l : List δ} {t : δ → PT Bool} {f : δ → PT γ} {Q : List γ → Prop} (p : δ → Bool) (g : δ → γ) (hl : l.length ≤ 16777216) (ht : ∀ x ∈ l, ∀ Q, Q (p x) → t x Q) (hf : ∀ x ∈ l, p x = true → ∀ Q, Q (g x) → f x Q) (q : Q ((l.filter p).map g)) : compW l t f Q := ⟨by rw [size_eq]; exact hl, compG_ok p g ht hf q⟩
theorem compW_f {l : List δ} {t : δ → PT Bool} {f : δ → PT δ} {Q : List δ → Prop} (p : δ → Bool) (hl : l.length ≤ 16777216) (ht : ∀ x ∈ l, ∀ Q, Q (p x) → t x Q) (hf : ∀ x ∈ l, ∀ Q, Q x → f x Q) (q : Q (l.filter p)) : compW l t f Q := compW_ok p id hl ht (fun x hx _ Q q => hf x hx Q q) (by simpa using q)
theorem compG_sub {t : δ → PT Bool} {f : δ → PT γ} (g : δ → γ) : ∀ {l : List δ} {Q : List γ → Prop}, (∀ x ∈ l, ∀ Q, (∀ b, Q b) → t x Q) → (∀ x ∈ l, ∀ Q, Q (g x) → f x Q) → (∀ m : List δ, m.Sublist l → Q (m.map g)) → compG t f l Q
  | [], Q, _, _, q => q [] .slnil
  | x :: xs, Q, ht, hf, q => by
    refine ht x (.head _) _ fun b => ?_
    cases b with
    | true =>
      rw [if_pos rfl]
      exact hf x (.head _) _ (compG_sub g (fun y hy => ht y (.tail _ hy)) (fun y hy => hf y (.tail _ hy)) fun m hm => q (x :: m) (.cons₂ x hm))
    | false =>
      rw [if_neg (by decide)]
      exact compG_sub g (fun y hy => ht y (.tail _ hy)) (fun y hy => hf y (.tail _ hy)) fun m hm => q m (.cons x hm)
theorem compW_sub {l : List δ} {t : δ → PT Bool} {f : δ → PT δ} {Q : List δ → Prop} (hl : l.length ≤ 16777216) (ht : ∀ x ∈ l, ∀ Q, (∀ b, Q b) → t x Q) (hf : ∀ x ∈ l, ∀ Q, Q x → f x Q) (q : ∀ m : List δ, m.Sublist l → Q m) : compW l t f Q := ⟨by rw [size_eq]; exact hl, compG_sub id ht hf fun m hm => by simpa using q m hm⟩
theorem mapG_any {f : δ → PT γ} (P : δ → γ → Prop) : ∀ {l : List δ} {Q : List γ → Prop}, (∀ x ∈ l, ∀ Q, (∀ y, P x y → Q y) → f x Q) → (∀ ys : List γ, ys.length = l.length → (∀ (i : Nat) x y, l[i]? = some x → ys[i]? = some y → P x y) → Q ys) → mapG f l Q
  | [], Q, _, q => q [] rfl fun i x y h => by simp at h
  | x :: xs, Q, h, q => h x (.head _) _ fun y hy => mapG_any P (fun z hz => h z (.tail _ hz)) fun ys hl hp => q (y :: ys) (by simp [hl]) fun i a b e1 e2 => by
    cases i with
    | zero => simp at e1 e2; subst e1 e2; exact hy
    | succ i => exact hp i a b (by simpa using e1) (by simpa using e2)
theorem mapW_any {l : List δ} {f : δ → PT γ} {Q : List γ → Prop} (P : δ → γ → Prop) (hl : l.length ≤ 16777216) (h : ∀ x ∈ l, ∀ Q, (∀ y, P x y → Q y) → f x Q) (q : ∀ ys : List γ, ys.length = l.length → (∀ (i : Nat) x y, l[i]? = some x → ys[i]? = some y → P x y) → Q ys) : mapW l f Q := ⟨by rw [size_eq]; exact hl, mapG_any P h q⟩
theorem compG2_ok {t : δ → PT Bool} {src : δ → PT (List ε)} {u : δ → ε → PT Bool} {f : δ → ε → PT γ} (p : δ → Bool) (h : δ → List ε) (r : δ → ε → Bool) (g : δ → ε → γ) : ∀ {l : List δ} {Q : List γ → Prop}, (∀ x ∈ l, ∀ Q, Q (p x) → t x Q) → (∀ x ∈ l, p x = true → ∀ Q, Q (h x) → src x Q) → (∀ x ∈ l, p x = true → ∀ y ∈ h x, ∀ Q, Q (r x y) → u x y Q) → (∀ x ∈ l, p x = true → ∀ y ∈ h x, r x y = true → ∀ Q, Q (g x y) → f x y Q) →
    Q ((l.filter p).flatMap fun x => ((h x).filter (r x)).map (g x)) → compG2 t src u f l Q
  | [], Q, _, _, _, _, q => q
  | x :: xs, Q, h1, h2, h3, h4, q => by
    have go : ∀ {Q' : List γ → Prop}, Q' ((xs.filter p).flatMap fun x => ((h x).filter (r x)).map (g x)) → compG2 t src u f xs Q' := fun q' => compG2_ok p h r g (fun y hy => h1 y (.tail _ hy)) (fun y hy => h2 y (.tail _ hy)) (fun y hy => h3 y (.tail _ hy)) (fun y hy => h4 y (.tail _ hy)) q'
    refine h1 x (.head _) _ ?_
    by_cases e : p x = true
    · rw [if_pos e]
      refine h2 x (.head _) e _ (compG_ok (r x) (g x) (h3 x (.head _) e) (h4 x (.head _) e) (go ?_))
      simpa [e] using q
    · rw [if_neg e]
      refine go ?_
      simpa [e] using q
theorem comp2W_ok {l : List δ} {t : δ → PT Bool} {src : δ → PT (List ε)} {u : δ → ε → PT Bool} {f : δ → ε → PT γ} {Q : List γ → Prop} (p : δ → Bool) (h : δ → List ε) (r : δ → ε → Bool) (g : δ → ε → γ) (h1 : ∀ x ∈ l, ∀ Q, Q (p x) → t x Q) (h2 : ∀ x ∈ l, p x = true → ∀ Q, Q (h x) → src x Q) (h3 : ∀ x ∈ l, p x = true → ∀ y ∈ h x, ∀ Q, Q (r x y) → u x y Q) (h4 : ∀ x ∈ l, p x = true → ∀ y ∈ h x, r x y = true → ∀ Q, Q (g x y) → f x y Q)
    (hl : ((l.filter p).flatMap fun x => ((h x).filter (r x)).map (g x)).length ≤ 16777216) (q : Q ((l.filter p).flatMap fun x => ((h x).filter (r x)).map (g x))) : comp2W l t src u f Q := compG2_ok p h r g h1 h2 h3 h4 ⟨by rw [size_eq]; exact hl, q⟩
theorem comp2W_all {l : List δ} {src : δ → PT (List ε)} {f : δ → ε → PT γ} {Q : List γ → Prop} (h : δ → List ε) (g : δ → ε → γ) (h2 : ∀ x ∈ l, ∀ Q, Q (h x) → src x Q) (h4 : ∀ x ∈ l, ∀ y ∈ h x, ∀ Q, Q (g x y) → f x y Q) (hl : (l.flatMap fun x => (h x).map (g x)).length ≤ 16777216) (q : Q (l.flatMap fun x => (h x).map (g x))) : comp2W l (fun _ Q => Q true) src (fun _ _ Q => Q true) f Q := by
  have e : (l.filter fun _ => true).flatMap (fun x => ((h x).filter fun _ => true).map (g x)) = l.flatMap fun x => (h x).map (g x) := by
    have e1 : ∀ {τ : Type} (m : List τ), m.filter (fun _ => true) = m := fun m => List.filter_eq_self.mpr fun _ _ => rfl
    rw [e1]; congr 1; funext x; rw [e1]
  refine comp2W_ok (fun _ => true) h (fun _ _ => true) g (fun _ _ Q q => q) (fun x hx _ => h2 x hx) (fun _ _ _ _ _ Q q => q) (fun x hx _ y hy _ => h4 x hx y hy) (by rw [e]; exact hl) (by rw [e]; exact q)
/-! loops -/
theorem forW_inv {f : δ → σ → PT σ} (I : Nat → σ → Prop) : ∀ {l : List δ} {s : σ} {Q : σ → Prop} (k : Nat), I k s → (∀ i x s, l[i]? = some x → I (k + i) s → ∀ Q, (∀ s', I (k + i + 1) s' → Q s') → f x s Q) → (∀ s, I (k + l.length) s → Q s) → forW f l s Q
  | [], s, Q, k, h0, _, q => q s h0
  | x :: xs, s, Q, k, h0, st, q => st 0 x s rfl h0 _ fun s' h' => forW_inv I (k + 1) h' (fun i y t e hi Q' q' => st (i + 1) y t (by simpa using e) (by rw [show k + (i + 1) = k + 1 + i by omega]; exact hi) Q' fun u hu => q' u (by rw [show k + 1 + i + 1 = k + (i + 1) + 1 by omega]; exact hu)) fun t ht => q t (by rw [show k + (x :: xs).length = k + 1 + xs.length by simp; omega]; exact ht)
theorem forR_inv {f : δ → σ → PT (Stp σ β)} (I : Nat → σ → Prop) : ∀ {l : List δ} {s : σ} {Q : Sum σ β → Prop} (k : Nat), I k s → (∀ i x s, l[i]? = some x → I (k + i) s → ∀ Q : Stp σ β → Prop, (∀ s', I (k + i + 1) s' → Q (.go s')) → f x s Q) → (∀ s, I (k + l.length) s → Q (.inl s)) → forR f l s Q
  | [], s, Q, k, h0, _, q => q s h0
  | x :: xs, s, Q, k, h0, st, q => st 0 x s rfl h0 _ fun s' h' => forR_inv I (k + 1) h' (fun i y t e hi Q' q' => st (i + 1) y t (by simpa using e) (by rw [show k + (i + 1) = k + 1 + i by omega]; exact hi) Q' fun u hu => q' u (by rw [show k + 1 + i + 1 = k + (i + 1) + 1 by omega]; exact hu)) fun t ht => q t (by rw [show k + (x :: xs).length = k + 1 + xs.length by simp; omega]; exact ht)
theorem forR_all {f : δ → Unit → PT (Stp Unit β)} (p : δ → Bool) (b : β) : ∀ {l : List δ} {s : Unit} {Q : Sum Unit β → Prop}, (∀ x ∈ l, ∀ Q : Stp Unit β → Prop, Q (if p x = true then .go () else .ret b) → f x () Q) → Q (if l.all p = true then .inl () else .inr b) → forR f l s Q
  | [], (), Q, _, q => by simpa [forR] using q
  | x :: xs, (), Q, h, q => by
    refine h x (.head _) _ ?_
    by_cases e : p x = true
    · rw [if_pos e]
      refine forR_all p b (fun y hy => h y (.tail _ hy)) ?_
      simpa [e] using q
    · rw [if_neg e]
      simpa [e] using q
theorem forW_unit {f : δ → Unit → PT Unit} {l : List δ} {Q : Unit → Prop} (h : ∀ x ∈ l, ∀ Q, Q () → f x () Q) (q : Q ()) : forW f l () Q :=
  forW_inv (fun _ _ => True) 0 trivial (fun i x s e _ Q q => h x (List.mem_of_getElem? e) Q (q () trivial)) fun _ _ => q
/-! sorting -/
theorem sort_uniq {lt : α → α → Bool} (asym : ∀ a b, lt a b = false → lt b a = false → a = b) : ∀ {l m : List α}, l.Perm m → l.Pairwise (fun a b => lt b a = false) → m.Pairwise (fun a b => lt b a = false) → l = m
  | [], m, p, _, _ => by rw [List.nil_perm.mp p]
  | a :: l, [], p, _, _ => by have := p.length_eq; simp at this
  | a :: l, b :: m, p, hl, hm => by
    rw [List.pairwise_cons] at hl hm
    have e : a = b := by
      have h1 : a ∈ b :: m := p.mem_iff.mp List.mem_cons_self
      have h2 : b ∈ a :: l := p.mem_iff.mpr List.mem_cons_self
      rcases List.mem_cons.mp h1 with h1 | h1
      · exact h1
      · rcases List.mem_cons.mp h2 with h2 | h2
        · exact h2.symm
        · exact asym _ _ (hm.1 a h1) (hl.1 b h2)
    subst e
    rw [sort_uniq asym (List.Perm.cons_inv p) hl.2 hm.2]
structure TotB (lt : α → α → Bool) : Prop where
  irr : ∀ a, lt a a = false
  trans : ∀ a b c, lt a b = true → lt b c = true → lt a c = true
  tri : ∀ a b, lt a b = false → lt b a = false → a = b
theorem TotB.asym {lt : α → α → Bool} (h : TotB lt) {a b : α} (e : lt a b = true) : lt b a = false := by
  cases q : lt b a with
  | false => rfl
  | true => have := h.trans a b a e q; rw [h.irr] at this; cases this
theorem TotB.ntrans {lt : α → α → Bool} (h : TotB lt) {a b c : α} (e1 : lt b a = false) (e2 : lt c b = false) : lt c a = false := by
  cases q : lt c a with
  | false => rfl
  | true =>
    cases q2 : lt a b with
    | true => have := h.trans c a b q q2; rw [e2] at this; cases this
    | false => have := h.tri a b q2 e1; subst this; rw [e2] at q; cases q
theorem sortB_sorted {lt : α → α → Bool} (h : TotB lt) (l : List α) : (sortB lt l).Pairwise (fun a b => lt b a = false) := by
  have := List.pairwise_mergeSort (le := fun a b : α => !lt b a) (fun a b c h1 h2 => by
    simp only [Bool.not_eq_true'] at *; exact h.ntrans h1 h2) (fun a b => by
    cases e : lt b a with
    | false => rfl
    | true => simp [h.asym e]) l
  exact this.imp fun h => by simpa using h
theorem sortB_perm {lt : α → α → Bool} (l : List α) : (sortB lt l).Perm l := List.mergeSort_perm _ _
theorem sortB_eq {lt : α → α → Bool} (h : TotB lt) {l m : List α} (p : m.Perm l) (s : m.Pairwise (fun a b => lt b a = false)) : sortB lt l = m := sort_uniq h.tri ((sortB_perm l).trans p.symm) (sortB_sorted h l) s
theorem ltI_tot : TotB ltI := ⟨fun a => by simp, fun a b c h1 h2 => by simp at *; omega, fun a b h1 h2 => by simp at *; omega⟩
theorem ltLex_tot [DecidableEq α] {lt : α → α → Bool} (h : TotB lt) : TotB (ltLex lt) where
  irr := by
    intro l
    induction l with
    | nil => rfl
    | cons x xs ih => simp [ltLex, ih]
  trans := by
    intro a
    induction a with
    | nil => intro b c h1 h2; cases b <;> cases c <;> simp_all [ltLex]
    | cons x xs ih =>
      intro b c h1 h2
      cases b with
      | nil => simp [ltLex] at h1
      | cons y ys =>
        cases c with
        | nil => simp [ltLex] at h2
        | cons z zs =>
          simp only [ltLex] at *
          by_cases e1 : x = y
          · subst e1
            rw [if_pos rfl] at h1
            by_cases e2 : x = z
            · subst e2; rw [if_pos rfl] at h2 ⊢; exact ih ys zs h1 h2
            · rw [if_neg e2] at h2 ⊢; exact h2
          · rw [if_neg e1] at h1
            by_cases e2 : y = z
            · subst e2; rw [if_neg e1]; exact h1
            · rw [if_neg e2] at h2
              have h3 := h.trans _ _ _ h1 h2
              have e3 : x ≠ z := fun e => by rw [e, h.irr] at h3; cases h3
              rw [if_neg e3]; exact h3
  tri := by
    intro a
    induction a with
    | nil => intro b h1 h2; cases b <;> simp_all [ltLex]
    | cons x xs ih =>
      intro b h1 h2
      cases b with
      | nil => simp [ltLex] at h2
      | cons y ys =>
        simp only [ltLex] at *
        by_cases e : x = y
        · subst e
          rw [if_pos rfl] at h1 h2
          rw [ih ys h1 h2]
        · rw [if_neg e] at h1
          rw [if_neg (Ne.symm e)] at h2
          exact absurd (h.tri _ _ h1 h2) e
theorem ltP_tot [DecidableEq α] [DecidableEq β] {lt : α → α → Bool} {lu : β → β → Bool} (h : TotB lt) (g : TotB lu) : TotB (ltP lt lu) where
  irr := fun a => by simp [ltP]
  trans := fun a b c h1 h2 => by
    simp only [ltP] at *
    by_cases e1 : a.1 = b.1
    · rw [if_pos e1] at h1
      by_cases e2 : b.1 = c.1
      · rw [if_pos e2] at h2
        rw [if_pos (e1.trans e2)]
        split at h1
        · cases h1
        · split at h2
          · cases h2
          · have h3 := g.trans _ _ _ h1 h2
            have e3 : a.2 ≠ c.2 := fun e => by rw [e, g.irr] at h3; cases h3
            rw [if_neg e3]; exact h3
      · rw [if_neg e2] at h2
        rw [e1, if_neg e2]; exact h2
    · rw [if_neg e1] at h1
      by_cases e2 : b.1 = c.1
      · rw [← e2, if_neg e1]; exact h1
      · rw [if_neg e2] at h2
        have h3 := h.trans _ _ _ h1 h2
        have e3 : a.1 ≠ c.1 := fun e => by rw [e, h.irr] at h3; cases h3
        rw [if_neg e3]; exact h3
  tri := fun a b h1 h2 => by
    simp only [ltP] at *
    by_cases e1 : a.1 = b.1
    · rw [if_pos e1] at h1
      rw [if_pos e1.symm] at h2
      by_cases e2 : a.2 = b.2
      · exact Prod.ext e1 e2
      · rw [if_neg e2] at h1
        rw [if_neg (Ne.symm e2)] at h2
        exact absurd (g.tri _ _ h1 h2) e2
    · rw [if_neg e1] at h1
      rw [if_neg (Ne.symm e1)] at h2
      exact absurd (h.tri _ _ h1 h2) e1
theorem srtOk_ints (l : List Int) : srtOk eI l = true := by
  unfold srtOk sortable
  rw [Bool.or_eq_true]
  right
  rw [List.all_eq_true]
  intro d hd
  obtain ⟨p, _, rfl⟩ := List.mem_map.mp hd
  rfl
theorem srtOk_pair {e : α → D} {f : β → D} (l : List (α × β)) : srtOk (eP e f) l = true := by
  unfold srtOk sortable
  rw [Bool.or_eq_true]
  left
  rw [List.all_eq_true]
  intro d hd
  obtain ⟨p, _, rfl⟩ := List.mem_map.mp hd
  rfl
end
end Tv

/-! Tv7: rows of unlike things. -/
namespace Tv
open PySem Pv
section
variable {α β γ : Type}
def hN (_ : Unit) : List D := []
def hC (e : α → D) (fs : β → List D) (p : α × β) : List D := e p.1 :: fs p.2
def eR (fs : β → List D) (p : β) : D := .tuple (fs p)
def eH (fs : β → List D) (p : β) : D := .list (fs p)
class GoodL [DecidableEq β] (fs : β → List D) (n : outParam Nat) : Prop where
  plain : ∀ a, PyData.plainAll (fs a) = true
  depth : ∀ a, PyData.depthAll (fs a) ≤ n
  eqv : ∀ a b, PyData.eqvAll (fs a) (fs b) = decide (a = b)
instance : GoodL hN 0 := ⟨fun _ => rfl, fun _ => by simp [hN, PyData.depthAll], fun a b => by simp [hN, PyData.eqvAll]⟩
instance [DecidableEq α] [DecidableEq β] {e : α → D} {fs : β → List D} {n m : Nat} [g : Good e n] [h : GoodL fs m] : GoodL (hC e fs) (n + m) := ⟨fun a => by simp [hC, PyData.plainAll, g.plain, h.plain], fun a => by have := g.depth a.1; have := h.depth a.2; simp [hC, PyData.depthAll]; omega, fun a b => by
  obtain ⟨a1, a2⟩ := a
  obtain ⟨b1, b2⟩ := b
  simp only [hC, PyData.eqvAll, g.eqv, h.eqv, Prod.mk.injEq, Bool.decide_and]⟩
instance [DecidableEq β] {fs : β → List D} {m : Nat} [h : GoodL fs m] : Good (eR fs) (m + 1) := ⟨fun a => by simp [eR, PyData.plain, h.plain], fun a => by have := h.depth a; simp [eR, PyData.depth]; omega, fun a b => by simp only [eR, PyData.eqv, h.eqv]⟩
instance [DecidableEq β] {fs : β → List D} {m : Nat} [h : GoodL fs m] : Good (eH fs) (m + 1) := ⟨fun a => by simp [eH, PyData.plain, h.plain], fun a => by have := h.depth a; simp [eH, PyData.depth]; omega, fun a b => by simp only [eH, PyData.eqv, h.eqv]⟩
instance {fs : β → List D} : NN (eR fs) := ⟨fun _ => by simp [eR]⟩
instance {fs : β → List D} : NN (eH fs) := ⟨fun _ => by simp [eH]⟩
class NlL (fs : β → List D) : Prop where
  nl : ∀ a, nlAll (fs a) = true
instance : NlL hN := ⟨fun _ => rfl⟩
instance {e : α → D} {fs : β → List D} [g : Nl e] [h : NlL fs] : NlL (hC e fs) := ⟨fun a => by simp [hC, nlAll, g.nl, h.nl]⟩
instance {fs : β → List D} [h : NlL fs] : Nl (eR fs) := ⟨fun a => by simp [eR, Pv.nl, h.nl]⟩
end
section
variable {ω α γ : Type} {R R1 R2 : ω → Rho} {ms : AM} {rs : α → List Rv} {Ts : PT α}
end
end Tv

namespace Tv
open PySem L2 Pv
theorem opMulA (a b : Int) : Op2 gMulA (eI a) (eI b) (vV eI) (mulW a b) := opMul a b
section
variable {ω α β γ δ σ τ : Type} {R R1 R2 R3 : ω → Rho} {m n : SM} {io esc : Bool} {ks : List Nat} {kp : List Nat × List Nat} {mi : IM} {mg : GM} {e : δ → D} {Ti : PT (List δ)} {K0 : σ → ω → Rho} {Kb : δ → σ → ω → Rho} {KL : τ → ω → Rho} {s : γ → SV} {out : γ → ω → SV} {fr : δ → σ → PT (Stp σ γ)}
end
theorem wTru {ω α δ : Type} [DecidableEq δ] {ma : EM} {R R1 : ω → Rho} {ra : α → Rv} {T : PT α} {e : δ → D} {l : α → List δ} (h : WE ma R ra T R1) (h1 : ∀ w a, (rdD (R1 w) (ra a)).bind toT = some (!((l a).map e).isEmpty) := by intro _ _; rfl) : W (tvT ma) R (fun b : Bool => b) (fun Q => T fun a => Q (!decide (l a = ([] : List δ)))) R1 := fun w Q q => by
  obtain ⟨a, w1, q1, e1⟩ := h w _ q
  have e2 : (!((l a).map e).isEmpty) = !decide (l a = ([] : List δ)) := by
    cases l a with
    | nil => rfl
    | cons x xs => simp
  have h2 := h1 w1 a
  rw [e2, Option.bind_eq_some_iff] at h2
  obtain ⟨d, h3, h4⟩ := h2
  exact ⟨_, w1, q1, by simp only [tvT, e1, h3, h4, Option.bind_some]⟩
def eqB {α : Type} [DecidableEq α] (a b : α) : Bool := decide (a = b)
def eX {α β : Type} (e : α → D) (f : β → D) : Sum α β → D
  | .inl a => e a
  | .inr b => f b
def sumW {α β γ : Type} (v : Sum α β) (T1 : α → PT γ) (T2 : β → PT γ) : PT γ := fun Q => match v with
  | .inl a => T1 a Q
  | .inr b => T2 b Q
end Tv

/-! Tv9: dicts. -/
namespace Tv
open PySem Pv
structure KyE {κ : Type} (t : Bool) (kf : κ → List Int) (ek : κ → D) : Prop where
  key : ∀ k, keyOf t (ek k) = some (kf k)
  inj : ∀ a b, kf a = kf b → a = b
  one : t = true ∨ ∀ k, (kf k).length = 1
theorem kyT : KyE true (fun k : List Int => k) (eT eI) := ⟨fun k => intsOf_map k, fun _ _ h => h, .inl rfl⟩
theorem kyI : KyE false (fun i : Int => [i]) eI := ⟨fun _ => rfl, fun _ _ h => by simpa using h, .inr fun _ => rfl⟩
section
variable {κ β : Type} [DecidableEq κ] {t : Bool} {kf : κ → List Int} {ek : κ → D} {e : β → D}
abbrev dctO (t : Bool) (kf : κ → List Int) (e : β → D) (m : List (κ × β)) : OB := .dct t (m.map fun q => kf q.1) (m.map fun q => e q.2)
def getM (m : List (κ × β)) (k : κ) : Option β := (m.find? fun q => decide (q.1 = k)).map (·.2)
def hasM (m : List (κ × β)) (k : κ) : Bool := m.any fun q => decide (q.1 = k)
def putM (m : List (κ × β)) (k : κ) (v : β) : List (κ × β) := if hasM m k = true then m.map (fun q => if q.1 = k then (q.1, v) else q) else m ++ [(k, v)]
theorem valD_map (h : KyE t kf ek) (k : κ) : ∀ m : List (κ × β), valD (m.map fun q => kf q.1) (m.map fun q => e q.2) (kf k) = (getM m k).map e
  | [] => rfl
  | q :: m => by
    have ih := valD_map h k m
    simp only [List.map_cons, valD]
    by_cases c : q.1 = k
    · rw [if_pos (by rw [c])]; simp [getM, c]
    · rw [if_neg (fun z => c (h.inj _ _ z)), ih]; simp [getM, List.find?_cons, c]
theorem hasM_get (m : List (κ × β)) (k : κ) : (getM m k).isSome = hasM m k := by
  unfold getM hasM
  induction m with
  | nil => rfl
  | cons q m ih =>
    by_cases c : q.1 = k
    · simp [c]
    · simpa [List.find?_cons, c] using ih
theorem one_map (h : KyE t kf ek) (m : List (κ × β)) : oneB t (m.map fun q => kf q.1) = true := by
  unfold oneB
  rcases h.one with h1 | h1
  · simp [h1]
  · simp [h1]
theorem opDGet (h : KyE t kf ek) (m : List (κ × β)) (k : κ) : Op2 gDGet (dctO t kf e m).d (ek k) (vV e) (fun Q => ∃ v, getM m k = some v ∧ Q v) := fun Q q => by
  obtain ⟨v, h1, q⟩ := q
  refine ⟨v, q, ?_⟩
  show ((decK _).bind fun ks => (keyOf t (ek k)).bind fun x => if oneB t ks = true then (valD ks _ x).map SV.val else none) = _
  rw [decK_map, Option.bind_some, h.key, Option.bind_some, if_pos (one_map h m), valD_map h, h1]; rfl
theorem opDIn (h : KyE t kf ek) (k : κ) (m : List (κ × β)) : Op2 gDIn (ek k) (dctO t kf e m).d (vV eB) (fun Q => Q (hasM m k)) := fun Q q => by
  refine ⟨_, q, ?_⟩
  show ((decK _).bind fun ks => (keyOf t (ek k)).bind fun x => if oneB t ks = true then some (SV.val (PyData.bool (valD ks _ x).isSome)) else none) = _
  rw [decK_map, Option.bind_some, h.key, Option.bind_some, if_pos (one_map h m), valD_map h, Option.isSome_map, hasM_get]
theorem opDNot (h : KyE t kf ek) (k : κ) (m : List (κ × β)) : Op2 gDNot (ek k) (dctO t kf e m).d (vV eB) (fun Q => Q (!hasM m k)) := fun Q q => by
  obtain ⟨b, h1, h2⟩ := opDIn (e := e) h k m (fun b => b = hasM m k) rfl
  subst h1
  exact ⟨_, q, by simp only [gDNot, h2, Option.bind_some]⟩
theorem wDNew {ω : Type} {R : ω → Rho} : WE (evDNew t) R (fun m : List (κ × β) => .sv (.own (dctO t kf e m))) (fun Q => Q []) R := fun w Q q => ⟨[], w, q, rfl⟩
theorem putM_map (h : KyE t kf ek) (k : κ) (v : β) (m : List (κ × β)) : putKD (m.map fun q => kf q.1) (m.map fun q => e q.2) (kf k) (e v) = ((putM m k v).map fun q => kf q.1, (putM m k v).map fun q => e q.2) := by
  have hc : ∀ m : List (κ × β), (m.map fun q => kf q.1).contains (kf k) = hasM m k := by
    intro m
    induction m with
    | nil => rfl
    | cons q m ih =>
      simp only [List.map_cons, List.contains_cons, ih, hasM, List.any_cons]
      congr 1
      by_cases c : q.1 = k
      · simp [c]
      · have : ¬ kf k = kf q.1 := fun z => c (h.inj _ _ z.symm)
        simp [c, this]
  have hr : ∀ m : List (κ × β), replD (m.map fun q => kf q.1) (m.map fun q => e q.2) (kf k) (e v) = (m.map (fun q => if q.1 = k then (q.1, v) else q)).map fun q => e q.2 := by
    intro m
    induction m with
    | nil => rfl
    | cons q m ih =>
      simp only [List.map_cons, replD, ih]
      congr 1
      by_cases c : q.1 = k
      · simp [c]
      · have : ¬ kf q.1 = kf k := fun z => c (h.inj _ _ z)
        simp [c, this]
  have hk : ∀ m : List (κ × β), (m.map fun q => kf q.1) = (m.map (fun q => if q.1 = k then (q.1, v) else q)).map fun q => kf q.1 := by
    intro m
    rw [List.map_map]
    apply List.map_congr_left
    intro q _
    simp only [Function.comp]
    split <;> rfl
  unfold putKD putM
  rw [hc]
  by_cases c : hasM m k = true
  · rw [if_pos c, if_pos c, hr, ← hk]
  · rw [if_neg c, if_neg c]; simp
theorem sDPutW {ω α γ : Type} {R R1 R2 R3 : ω → Rho} {mk mv : EM} {ra : α → Rv} {Ta : PT α} {rk : γ → Rv} {Tk : PT γ} {j : Nat} {m : List (κ × β)} {v : α → β} {kx : γ → κ} {K : List (κ × β) → ω → Rho} (hy : KyE t kf ek) (hv : WE mv R ra Ta R1) (hk : WE mk R1 rk Tk R2)
    (h0 : ∀ w, (R1 w)[j]? = some (some (.own (dctO t kf e m))) := by intro _; rfl) (h1 : ∀ w c, rdD (R2 w) (rk c) = some (ek (kx c)) := by intro _ _; rfl) (h2 : ∀ w a, frz1 (R2 w) (ra a) = some (e (v a), R3 w) := by intro _ _; rfl)
    (h3 : ∀ w, (R3 w)[j]? = some (some (.own (dctO t kf e m))) := by intro _; rfl) (hK : ∀ w m', (R3 w).set j (some (.own (dctO t kf e m'))) = K m' w := by intro _ _; rfl) :
    WS (exDPut j mk mv) R K (fun Q => Ta fun a => Tk fun c => m.length < 1000000 ∧ Q (putM m (kx c) (v a))) := fun w Q q => by
  obtain ⟨a, w1, q1, e1⟩ := hv w _ q
  obtain ⟨c, w2, q2, e2⟩ := hk w1 _ q1
  obtain ⟨hl, q3⟩ := q2
  refine ⟨_, w2, q3, ?_⟩
  have d1 : dctAt (R1 w1) j = some (t, m.map (fun q => kf q.1), m.map fun q => e q.2) := by simp only [dctAt, h0]
  have d3 : dctAt (R3 w2) j = some (t, m.map (fun q => kf q.1), m.map fun q => e q.2) := by simp only [dctAt, h3]
  have hz : (oneB t (m.map fun q => kf q.1) && Nat.ble ((m.map fun q => kf q.1).length + 1) sizeLine) = true := by
    rw [one_map hy, Bool.true_and, List.length_map, size_eq]
    exact Nat.ble_eq_true_of_le (by omega)
  simp only [exDPut, e1, d1, e2, h1, h2, d3, Option.bind_some, hy.key, if_pos hz, putM_map hy, hK]
end
end Tv

/-! TvA: dicts that are walked, asked, told as lists. -/
namespace Tv
open PySem Pv
section
variable {κ β : Type} [DecidableEq κ] {t : Bool} {kf : κ → List Int} {ek : κ → D} {e : β → D}
abbrev vD (t : Bool) (kf : κ → List Int) (e : β → D) : List (κ × β) → SV := fun m => .own (dctO t kf e m)
def keysM (m : List (κ × β)) : List κ := m.map (·.1)
variable {ω α γ δ : Type} {R R1 R2 R3 : ω → Rho} {ma mk mx : EM} {ra : α → Rv} {rk : γ → Rv} {Ta : PT α} {Tk : PT γ} {Tx : PT β}
end
/-! freezing ahead of a return -/
end Tv

/-! TvB: an option that is some one. -/
namespace Tv
open PySem Pv
def unO {α : Type} (o : Option α) (Q : α → Prop) : Prop := ∃ v, o = some v ∧ Q v
@[simp] theorem unO_some {α : Type} (v : α) (Q : α → Prop) : unO (some v) Q ↔ Q v := ⟨fun ⟨_, h, q⟩ => by cases h; exact q, fun q => ⟨v, rfl, q⟩⟩
end Tv

/-! TvC: comprehensions over lists that stay their owner's. -/
namespace Tv
open PySem Pv
variable {ω α δ γ : Type}
theorem wCst {R : ω → Rho} (e : δ → D) (l : List δ) : WI (fun ρ => some (l.map e, ρ)) R e (fun Q => Q l) R := fun w Q q => ⟨l, w, q, rfl⟩
theorem wCompH {j : Nat} {mg : GM} {mt : TM} {me : EM} {vs : List Nat} {R Rk : ω → Rho} {r : α → Rv} {T : PT α} {e : δ → D} {l : List δ} (hc : WE (evComp (fun ρ => some (l.map e, ρ)) mg mt me vs) Rk r T Rk) (h0 : ∀ w, (R w)[j]? = some (some (.own (.lst (l.map e)))) := by intro _; rfl) (hk : ∀ w, (R w).set j none = Rk w := by intro _; rfl) (hr : ∀ w, (Rk w).set j (some (.own (.lst (l.map e)))) = R w := by intro _; rfl) : WE (evCompH j mg mt me vs) R r T R := fun w Q q => by
  obtain ⟨a, w1, q1, e1⟩ := hc w _ q
  refine ⟨a, w1, q1, ?_⟩
  simp only [evCompH, h0, hk, e1, Option.bind_some, hr]
end Tv

/-! TvD: a list told from its end. -/
namespace Tv
open PySem Pv
end Tv

/-! TvE: xs[i] += e. -/
namespace Tv
open PySem Pv
end Tv

/-! TvF: l.index(x) of pairs of ints. -/
namespace Tv
open PySem Pv
def idxF {δ : Type} [DecidableEq δ] (k : δ) : List δ → Option Nat
  | [] => none
  | j :: r => if j = k then some 0 else (idxF k r).map (· + 1)
end Tv

/-! TvG: one of two kinds; what may raise. -/
namespace Tv
open PySem Pv
class Dj {α β : Type} (e : α → D) (f : β → D) : Prop where
  ne : ∀ a b, PyData.eqv (e a) (f b) = false
  en : ∀ a b, PyData.eqv (f b) (e a) = false
instance {α : Type} {e : α → D} : Dj (eT e) eS := ⟨fun a b => by simp [eT, PyData.eqv], fun a b => by simp [eT, PyData.eqv]⟩
instance {α β : Type} {e : α → D} {f : β → D} : Dj (eP e f) eS := ⟨fun a b => by simp [eP, PyData.eqv], fun a b => by simp [eP, PyData.eqv]⟩
instance {α β γ : Type} {e : α → D} {f : β → D} {g : γ → D} : Dj (eQ e f g) eS := ⟨fun a b => by simp [eQ, PyData.eqv], fun a b => by simp [eQ, PyData.eqv]⟩
instance {α : Type} {e : α → D} : Dj (eL e) eS := ⟨fun a b => by simp [eL, PyData.eqv], fun a b => by simp [eL, PyData.eqv]⟩
instance : Dj eI eS := ⟨fun a b => by simp [PyData.eqv], fun a b => by simp [PyData.eqv]⟩
instance {α β : Type} [DecidableEq α] [DecidableEq β] {e : α → D} {f : β → D} {n m : Nat} [g : Good e n] [h : Good f m] [d : Dj e f] : Good (eX e f) (n + m) := ⟨fun a => by cases a with
  | inl a => exact g.plain a
  | inr a => exact h.plain a, fun a => by cases a with
  | inl a => exact Nat.le_trans (g.depth a) (Nat.le_add_right _ _)
  | inr a => exact Nat.le_trans (h.depth a) (Nat.le_add_left _ _), fun a b => by cases a with
  | inl a => cases b with
    | inl b => simp only [eX, g.eqv]; by_cases h : a = b <;> simp [h]
    | inr b => simp only [eX, d.ne]; simp
  | inr a => cases b with
    | inl b => simp only [eX, d.en]; simp
    | inr b => simp only [eX, h.eqv]; by_cases h : a = b <;> simp [h]⟩
instance {α β : Type} {e : α → D} {f : β → D} [h : Nl e] [i : Nl f] : Nl (eX e f) := ⟨fun a => by cases a with
  | inl a => exact h.nl a
  | inr a => exact i.nl a⟩
section
variable {ω α β γ : Type} {m : EM} {R R1 R2 : ω → Rho} {e : α → D} {f : β → D}
end
section
variable {α : Type} {e : α → D}
end
/-! ### what may raise -/
abbrev Pay := Str → List (Str × D)
def vE {γ : Type} (pay : Pay) (s : γ → SV) : γ ⊕ Str → SV
  | .inl a => s a
  | .inr y => .val (excD y (pay y))
section
variable {ω α β γ : Type} {me : EM} {R R1 R2 : ω → Rho} {s : α → SV} {sr : γ → SV} {T : PT (α ⊕ Str)} {io : Bool} {out : γ → ω → SV}
variable {pay : Pay}
variable {δ : Type} {K : δ → ω → Rho}
/-! l.index(x) of strings -/
/-! ### an if whose block may end the def, or goes on as before -/
section
variable {ω α γ σ : Type} {io : Bool} {esc : Bool} {ks : List Nat} {mt : TM} {m1 m2 n : SM} {R R1 : ω → Rho} {KL : σ → ω → Rho} {s : γ → SV} {out : γ → ω → SV} {Tt : PT Bool}
end
end
end Tv

/-! TvH: defs as values; try: x = f(..) except C as e: x = a if isinstance(e, D) else b. -/
namespace Tv
open PySem Pv
section
variable {ω α γ : Type} {ms : AM} {rs : α → List Rv} {Ts : PT α} {R R1 : ω → Rho} {i : Nat} {L : List (Str × Nat × CM)} {nm : Str}
end
section
variable {pay : Pay} {ω α δ : Type} {me : EM} {R R1 : ω → Rho} {s : α → SV} {T : PT (Sum α Str)} {K : δ → ω → Rho}
end
end Tv
/-! ### a loop over a few things of many kinds, turn by turn -/
namespace Tv
open PySem Pv
section
variable {ω α γ : Type} {io : Bool} {ks : List Nat} {mi : IM} {mg : GM} {m n : SM} {R R1 R2 Kb : ω → Rho} {K0 : Unit → ω → Rho} {s : γ → SV} {out : γ → ω → SV} {kp : List Nat × List Nat}
end
def unX {α β : Type} (r : Sum α β) (Q : α → Prop) : Prop := ∃ v, r = .inl v ∧ Q v
@[simp] theorem unX_inl {α β : Type} (v : α) (Q : α → Prop) : unX (.inl v : Sum α β) Q ↔ Q v := ⟨fun ⟨_, h, q⟩ => by cases h; exact q, fun q => ⟨v, rfl, q⟩⟩
end Tv
namespace Tv
open PySem Pv
section
variable {pay : Pay} {ω α γ : Type} {io : Bool} {me : EM} {R R1 : ω → Rho} {s : α → SV} {sr : γ → SV} {out : γ → ω → SV} {T : PT (Sum α Str)}
end
end Tv
namespace Tv
open PySem Pv
section
variable {pay : Pay} {ω α γ : Type} {io : Bool} {me : EM} {R R1 : ω → Rho} {s : α → SV} {sr : γ → SV} {out : γ → ω → SV} {T : PT (Sum α Str)}
end
end Tv
namespace Tv
open PySem Pv
def ltStr (a b : Str) : Bool := PySem.W.dataLt (.str a) (.str b)
instance : Ordd eS ltStr := ⟨fun a b => by simp [PySem.W.alike], fun _ _ => rfl, fun _ => by simp⟩
end Tv

/-! TvI: values of any kind. -/
namespace Tv
open PySem Pv
section
variable {ω α β : Type} {m : EM} {R R1 : ω → Rho} {e : α → D} {e' : β → D} {T : PT α}
end
theorem wRevT {ω α γ : Type} {m : EM} {R R1 : ω → Rho} {ra : α → Rv} {T : PT α} {e : γ → D} {l : α → List γ} (h : WE m R ra T R1) (h1 : ∀ w a, rdD (R1 w) (ra a) = some (eT e (l a)) := by intro _ _; rfl) : WE (evRevT m) R (fun c => .sv (.val (eT e c))) (fun Q => T fun a => Q (l a).reverse) R1 := fun w Q q => by
  obtain ⟨a, w1, q1, e1⟩ := h w _ q
  exact ⟨_, w1, q1, by simp only [evRevT, e1, h1, Option.bind_some, eT, gRevT, List.map_reverse]⟩
end Tv

/-! TvJ: what may raise, within an expression; answers told otherwise. -/
namespace Tv
open PySem Pv
section
variable {pay : Pay} {ω α β γ : Type} {me : EM} {R R1 : ω → Rho} {s : α → SV} {s' : γ → SV} {T : PT (α ⊕ Str)}
end
end Tv

/-! TvK: walks of a list's last dict, two items set at once, answers of any kind from try, places of tuples. -/
namespace Tv
open PySem Pv
section
variable {κ β : Type} [DecidableEq κ] {t : Bool} {kf : κ → List Int} {ek : κ → D} {e : β → D}
end
section
variable {pay : Pay} {ω γ δ : Type} {me m1 m2 : EM} {R R1 : ω → Rho} {io : Bool} {out : D → ω → SV}
end
/-! places of tuples -/
end Tv

/-! TvL: a tuple that the program names, as a value. -/
namespace Tv
open PySem Pv
section
variable {ω α δ : Type} {ma : EM} {R R1 R2 : ω → Rho} {ra : α → Rv} {Ta : PT α} {x : Str} {ns : List Int}
end
end Tv

/-! TvM: values of any kind told apart from tuples. -/
namespace Tv
open PySem Pv
end Tv

/-! TvN: x = x + (l.pop(i),). -/
namespace Tv
open PySem Pv
end Tv

/-! TvO: l.remove(x). -/
namespace Tv
open PySem Pv
end Tv

/-! TvP: a loop over a list that stays its owner's. -/
namespace Tv
open PySem Pv
section
variable {ω δ σ : Type} {mg : GM} {m : SM} {kp : List Nat × List Nat} {R R1 : ω → Rho} {K0 K : σ → ω → Rho} {Kb : δ → σ → ω → Rho} {f : δ → σ → PT σ} {e : δ → D} {l : List δ} {j : Nat}
end
end Tv

/-! TvQ: exceptions with fields. -/
namespace Tv
open PySem Pv
section
variable {pay : Pay} {ω α β γ δ : Type} {me ma mb : EM} {R R1 : ω → Rho} {s : α → SV} {sr : γ → SV} {T : PT (α ⊕ Str)}
end
/-! an if whose block may end the def, whatever it holds: what follows is walked twice -/
section
variable {ω γ : Type} {io : Bool} {mt : TM} {a b m1 n : SM} {R : ω → Rho} {s : γ → SV} {out : γ → ω → SV} {Tt : PT Bool} {T T1 T2 : PT γ}
end
end Tv

/-! TvR: a or b of tuples; defs that change their last argument. -/
namespace Tv
open PySem Pv
section
variable {ω α : Type} {ma mb : EM} {R : ω → Rho} {e : α → D} {Ta Tb : PT (List α)}
end
section
variable {ω α γ : Type} {ms : AM} {R R1 : ω → Rho} {rs : α → List Rv} {Ts : PT α}
end
end Tv

/-! TvS: items of two lists set at once -/
namespace Tv
open PySem Pv
section
variable {ω γ δ : Type} {me m1 m2 : EM} {R R1 : ω → Rho}
end
end Tv

/-! TvT: sorted(set(pairs)), the front of a triple -/
namespace Tv
open PySem Pv
section
variable {α β γ : Type} {e : α → D} {f : β → D} {k : γ → D}
end
end Tv

/-! TvU: a turn goes on behind both ways of an if -/
namespace Tv
open PySem Pv
section
variable {ω β σ : Type} {io : Bool} {esc : Bool} {ks : List Nat} {mt : TM} {a b c d f m1 m2 n : SM} {R R1 : ω → Rho} {KL : σ → ω → Rho} {s : β → SV} {out : β → ω → SV} {Tt : PT Bool} {Tl Tr T : PT (Stp σ β)}
end
end Tv

/-! TvV: str(int) -/
namespace Tv
open PySem Pv
end Tv

/-! TvW: C(..) that may raise: the exception with its payload -/
namespace Pv
open PySem PySem.Spec PySem.SeqAt L2
section
variable {X : Cx} {CT : CTab} {W : WX} {x : Str} {p pos : Pos} {e : Expr} {es : List Expr} {f C : Addr} {j np : Nat} {cm : CM} {mr : AM}
end
end Pv
namespace Tv
open PySem Pv
abbrev Xp := Str × List (Str × D)
section
variable {ω α β γ : Type} {R R1 : ω → Rho} {m : SM} {me : EM} {c : Int} {fs : γ → List D} {T : PT α} {Tf : PT γ}
end
section
variable {ω α γ δ : Type} {ms : AM} {R R1 : ω → Rho} {rs : α → List Rv} {Ts : PT α}
end
section
variable {ω α γ : Type} {io : Bool} {me : EM} {R R1 : ω → Rho} {s : α → SV} {sr : γ → SV} {out : γ → ω → SV} {T : PT (Sum α Xp)}
end
end Tv

/-! TvX: (..).index(x) of a list of ints that no name holds. -/
namespace Tv
open PySem Pv
/-! == of instances by their own __eq__ -/
section
variable {ω α β : Type} {R R1 R2 : ω → Rho} {ma mb : EM} {ra : α → Rv} {rb : β → Rv} {Ta : PT α} {Tb : PT β}
end
end Tv

/-! TvY: dict comprehensions. -/
namespace Tv
open PySem Pv
section
variable {ω α β γ δ κ : Type} {R R1 : ω → Rho} {mk mv : EM} {mi : IM} {mg : GM} {mt : TM} {vs : List Nat} {e : δ → D} {e' : γ → D} {Ti : PT (List δ)} {R0 : ω → Rho} {Rb Rc : δ → ω → Rho} {rk : δ → κ → Rv} {re : δ → β → Rv} {tt : δ → PT Bool} {tk : δ → PT κ} {tb : δ → PT β} {v : δ → β → γ} {kx : δ → κ → Int}
end
end Tv

/-! TvZ: (raising,) + raising. -/
namespace Tv
open PySem Pv
section
variable {pay : Pay} {ω α β γ : Type} {ma mb : EM} {R : ω → Rho}
end
section
variable {pay : Pay} {ω α δ : Type} {me : EM} {R R1 : ω → Rho} {s : α → SV} {T : PT (Sum α Str)} {K : δ → ω → Rho}
end
end Tv

/-! Ma1: grounds, lots, pits: plain facts. -/
namespace Ma
open Tv
abbrev Cv := List (List Int)
abbrev Lt := List Int
def atC (c : Cv) (b : Int) : Lt := c.getD b.toNat []
def Vcv (c : Cv) : Prop := ∀ (b : Nat) (l : Lt), c[b]? = some l → (∀ x ∈ l, 0 ≤ x ∧ x < b) ∧ l.Pairwise (· < ·)
def Lot (n : Nat) (l : Lt) : Prop := l.Pairwise (· < ·) ∧ ∀ x ∈ l, 0 ≤ x ∧ x < n
theorem atC_get {c : Cv} {b : Int} (h0 : 0 ≤ b) (h1 : b < c.length) : c[b.toNat]? = some (atC c b) := by
  have h : b.toNat < c.length := by omega
  simp [atC, h]
theorem Vcv.at {c : Cv} (h : Vcv c) {b : Int} (h0 : 0 ≤ b) {o : Int} (ho : o ∈ atC c b) : 0 ≤ o ∧ o < b := by
  by_cases h1 : b < c.length
  · have := (h b.toNat _ (atC_get h0 h1)).1 o ho
    omega
  · unfold atC at ho
    rw [List.getD_eq_getElem?_getD, List.getElem?_eq_none (by omega)] at ho
    simp at ho
theorem Vcv.asc {c : Cv} (h : Vcv c) {b : Int} (h0 : 0 ≤ b) : (atC c b).Pairwise (· < ·) := by
  by_cases h1 : b < c.length
  · exact (h b.toNat _ (atC_get h0 h1)).2
  · unfold atC
    rw [List.getD_eq_getElem?_getD, List.getElem?_eq_none (by omega)]
    simp
theorem Vcv.nil : Vcv [] := fun b l h => by simp at h
theorem Vcv.snoc {c : Cv} {l : Lt} (h : Vcv c) (h1 : ∀ x ∈ l, 0 ≤ x ∧ x < c.length) (h2 : l.Pairwise (· < ·)) : Vcv (c ++ [l]) := by
  intro b m e
  by_cases hb : b < c.length
  · rw [List.getElem?_append_left hb] at e; exact h b m e
  · rw [List.getElem?_append_right (by omega)] at e
    have hz : b - c.length = 0 := by
      have := (List.getElem?_eq_some_iff.mp e).1
      simp at this; omega
    rw [hz] at e
    simp at e
    subst e
    have : b = c.length := by omega
    subst this
    exact ⟨h1, h2⟩
theorem asc_len {n : Nat} {l : Lt} (h : Lot n l) : l.length ≤ n := by
  have h1 : (l.map Int.toNat).Nodup := by
    rw [List.nodup_iff_pairwise_ne, List.pairwise_map]
    refine List.Pairwise.imp_of_mem ?_ h.1
    intro a b ha hb hab
    have := h.2 a ha
    have := h.2 b hb
    omega
  have := List.Nodup.length_le_of_subset h1 (l₂ := List.range n) fun x hx => by
    obtain ⟨a, ha, rfl⟩ := List.mem_map.mp hx
    have := h.2 a ha
    exact List.mem_range.mpr (by omega)
  simpa using this
theorem Lot.nil {n : Nat} : Lot n [] := ⟨by simp, by simp⟩
theorem Lot.mono {n m : Nat} {l : Lt} (h : Lot n l) (hm : n ≤ m) : Lot m l := ⟨h.1, fun x hx => by have := h.2 x hx; omega⟩
theorem Lot.sub {n : Nat} {l m : Lt} (h : Lot n l) (s : m.Sublist l) : Lot n m := ⟨h.1.sublist s, fun x hx => h.2 x (s.subset hx)⟩
theorem Lot.range {n : Nat} : Lot n (rangeL 0 n) := ⟨rangeL_lt, fun x hx => by have := mem_rangeL.mp hx; omega⟩
theorem Lot.snoc {n : Nat} {l : Lt} (h : Lot n l) : Lot (n + 1) (l ++ [(n : Int)]) := by
  refine ⟨?_, fun x hx => ?_⟩
  · rw [List.pairwise_append]
    exact ⟨h.1, by simp, fun a ha b hb => by have := h.2 a ha; simp at hb; omega⟩
  · rcases List.mem_append.mp hx with hx | hx
    · have := h.2 x hx; omega
    · simp at hx; omega
theorem asc_ext : ∀ {l m : Lt}, l.Pairwise (· < ·) → m.Pairwise (· < ·) → (∀ x, x ∈ l ↔ x ∈ m) → l = m
  | [], m, _, _, h => by
    cases m with
    | nil => rfl
    | cons y ys => exact absurd ((h y).mpr (by simp)) (by simp)
  | x :: xs, [], _, _, h => absurd ((h x).mp (by simp)) (by simp)
  | x :: xs, y :: ys, hl, hm, h => by
    rw [List.pairwise_cons] at hl hm
    have e : x = y := by
      have h1 := (h x).mp (by simp)
      have h2 := (h y).mpr (by simp)
      rcases List.mem_cons.mp h1 with h1 | h1
      · exact h1
      · rcases List.mem_cons.mp h2 with h2 | h2
        · exact h2.symm
        · have := hm.1 x h1; have := hl.1 y h2; omega
    subst e
    have e2 : xs = ys := asc_ext hl.2 hm.2 fun z => by
      constructor
      · intro hz
        rcases List.mem_cons.mp ((h z).mp (List.mem_cons_of_mem _ hz)) with e | e
        · subst e; have := hl.1 z hz; omega
        · exact e
      · intro hz
        rcases List.mem_cons.mp ((h z).mpr (List.mem_cons_of_mem _ hz)) with e | e
        · subst e; have := hm.1 z hz; omega
        · exact e
    rw [e2]
/-! all lots -/
def rawL : Nat → List Lt
  | 0 => [[]]
  | n + 1 => rawL n ++ (rawL n).map (· ++ [(n : Int)])
theorem rawL_len : ∀ n, (rawL n).length = 2 ^ n
  | 0 => rfl
  | n + 1 => by simp [rawL, rawL_len n, Nat.pow_succ]; omega
theorem rawL_small {n : Nat} (h : n ≤ 10) : (rawL n).length ≤ 1024 := by
  rw [rawL_len]
  exact Nat.pow_le_pow_right (by decide) h
theorem mem_rawL : ∀ {n : Nat} {l : Lt}, l ∈ rawL n ↔ Lot n l
  | 0, l => by
    simp only [rawL, List.mem_singleton]
    constructor
    · rintro rfl; exact Lot.nil
    · intro h
      cases l with
      | nil => rfl
      | cons x xs => have := h.2 x (by simp); omega
  | n + 1, l => by
    simp only [rawL, List.mem_append, List.mem_map]
    constructor
    · rintro (h | ⟨m, h, rfl⟩)
      · exact (mem_rawL.mp h).mono (by omega)
      · exact (mem_rawL.mp h).snoc
    · intro h
      by_cases hn : (n : Int) ∈ l
      · refine .inr ⟨l.filter (fun x => decide (x < n)), mem_rawL.mpr ⟨h.1.filter _, fun x hx => ?_⟩, ?_⟩
        · have h1 := List.mem_filter.mp hx
          have := h.2 x h1.1
          have := of_decide_eq_true h1.2
          omega
        · refine asc_ext ?_ h.1 fun x => ?_
          · rw [List.pairwise_append]
            exact ⟨h.1.filter _, by simp, fun a ha b hb => by
              have := of_decide_eq_true (List.mem_filter.mp ha).2
              simp at hb; omega⟩
          · simp only [List.mem_append, List.mem_filter, decide_eq_true_eq, List.mem_singleton]
            constructor
            · rintro (⟨h1, _⟩ | rfl)
              · exact h1
              · exact hn
            · intro hx
              have := h.2 x hx
              by_cases e : x = n
              · exact .inr e
              · exact .inl ⟨hx, by omega⟩
      · refine .inl (mem_rawL.mpr ⟨h.1, fun x hx => ?_⟩)
        have := h.2 x hx
        have : x ≠ n := fun e => hn (e ▸ hx)
        omega
/-! the order of lots -/
def szd (l : Lt) : Int × Lt := ((l.length : Int), l)
abbrev ltZ : Int × Lt → Int × Lt → Bool := ltP ltI (ltLex ltI)
theorem ltZ_tot : TotB ltZ := ltP_tot ltI_tot (ltLex_tot ltI_tot)
abbrev ltS (a b : Lt) : Bool := ltZ (szd a) (szd b)
theorem szd_inj (a b : Lt) (h : szd a = szd b) : a = b := (Prod.mk.inj h).2
theorem ltS_tot : TotB ltS := ⟨fun a => ltZ_tot.irr _, fun a b c => ltZ_tot.trans _ _ _, fun a b h1 h2 => szd_inj _ _ (ltZ_tot.tri _ _ h1 h2)⟩
def srtS (l : List Lt) : List Lt := sortB ltS l
theorem srtS_perm (l : List Lt) : (srtS l).Perm l := sortB_perm l
theorem srtS_sorted (l : List Lt) : (srtS l).Pairwise (fun a b => ltS b a = false) := sortB_sorted ltS_tot l
theorem srtS_mem {l : List Lt} {x : Lt} : x ∈ srtS l ↔ x ∈ l := (srtS_perm l).mem_iff
theorem srtS_len (l : List Lt) : (srtS l).length = l.length := (srtS_perm l).length_eq
theorem sortP_srtS (l : List Lt) : (sortB ltZ (l.map szd)).map (·.2) = srtS l := by
  have e : sortB ltZ (l.map szd) = (srtS l).map szd := by
    refine sortB_eq ltZ_tot ((srtS_perm l).map szd) ?_
    rw [List.pairwise_map]
    exact srtS_sorted l
  rw [e, List.map_map]
  exact List.map_id _
def lotsL (n : Nat) : List Lt := srtS (rawL n)
theorem mem_lotsL {n : Nat} {l : Lt} : l ∈ lotsL n ↔ Lot n l := srtS_mem.trans mem_rawL
theorem lotsL_small {n : Nat} (h : n ≤ 10) : (lotsL n).length ≤ 1024 := by rw [lotsL, srtS_len]; exact rawL_small h
/-! pits -/
def isPitB (c : Cv) (l : Lt) : Bool := l.all fun b => (atC c b).all fun o => decide (o ∈ l)
theorem isPitB_iff {c : Cv} {l : Lt} : isPitB c l = true ↔ ∀ b ∈ l, ∀ o ∈ atC c b, o ∈ l := by simp [isPitB]
def pitsL (c : Cv) : List Lt := (lotsL c.length).filter (isPitB c)
structure Pit (c : Cv) (l : Lt) : Prop where
  lot : Lot c.length l
  full : ∀ b ∈ l, ∀ o ∈ atC c b, o ∈ l
theorem mem_pitsL {c : Cv} {l : Lt} : l ∈ pitsL c ↔ Pit c l := by
  simp only [pitsL, List.mem_filter, mem_lotsL, isPitB_iff]
  exact ⟨fun h => ⟨h.1, h.2⟩, fun h => ⟨h.lot, h.full⟩⟩
theorem pitsL_len {c : Cv} (h : c.length ≤ 10) : (pitsL c).length ≤ 1024 := Nat.le_trans (List.length_filter_le _ _) (lotsL_small h)
theorem pit_nil (c : Cv) : Pit c [] := ⟨Lot.nil, by simp⟩
theorem pitsL_ne (c : Cv) : pitsL c ≠ [] := fun e => by
  have := mem_pitsL.mpr (pit_nil c)
  rw [e] at this; simp at this
end Ma

/-! Ma2: worths, best pits, meets and joins. -/
namespace Ma
open Tv Pv
def wAt (w : List Int) (b : Int) : Int := w.getD b.toNat 0
def sumW (w : List Int) (l : Lt) : Int := (l.map (wAt w)).sum
structure Wor (n : Nat) (w : List Int) : Prop where
  len : w.length = n
  bd : ∀ x ∈ w, -50 ≤ x ∧ x ≤ 50
/-! the greatest -/
theorem maxB_ge : ∀ (xs : List Int) (x : Int), x ≤ maxB ltI x xs ∧ ∀ y ∈ xs, y ≤ maxB ltI x xs
  | [], x => ⟨Int.le_refl _, by simp⟩
  | y :: ys, x => by
    have e : maxB ltI x (y :: ys) = maxB ltI (if ltI x y = true then y else x) ys := rfl
    have ih := maxB_ge ys (if ltI x y = true then y else x)
    rw [e]
    by_cases h : x < y
    · rw [if_pos (by simpa using h)] at ih ⊢
      refine ⟨by omega, fun z hz => ?_⟩
      rcases List.mem_cons.mp hz with rfl | hz
      · exact ih.1
      · exact ih.2 z hz
    · rw [if_neg (by simpa using h)] at ih ⊢
      refine ⟨ih.1, fun z hz => ?_⟩
      rcases List.mem_cons.mp hz with rfl | hz
      · have := ih.1; omega
      · exact ih.2 z hz
theorem maxB_mem : ∀ (xs : List Int) (x : Int), maxB ltI x xs ∈ x :: xs
  | [], x => by simp [maxB]
  | y :: ys, x => by
    have e : maxB ltI x (y :: ys) = maxB ltI (if ltI x y = true then y else x) ys := rfl
    rw [e]
    have ih := maxB_mem ys (if ltI x y = true then y else x)
    rcases List.mem_cons.mp ih with h | h
    · rw [h]; split <;> simp
    · exact List.mem_cons_of_mem _ (List.mem_cons_of_mem _ h)
def maxL : List Int → Int
  | [] => 0
  | x :: xs => maxB ltI x xs
theorem maxL_ge {l : List Int} {x : Int} (h : x ∈ l) : x ≤ maxL l := by
  cases l with
  | nil => simp at h
  | cons y ys =>
    rcases List.mem_cons.mp h with rfl | h
    · exact (maxB_ge ys x).1
    · exact (maxB_ge ys y).2 x h
theorem maxL_mem {l : List Int} (h : l ≠ []) : maxL l ∈ l := by
  cases l with
  | nil => exact absurd rfl h
  | cons y ys => exact maxB_mem ys y
theorem maxW_ok {l : List Int} {Q : Int → Prop} (h : l ≠ []) (q : Q (maxL l)) : maxW ltI l Q := by
  cases l with
  | nil => exact absurd rfl h
  | cons y ys => exact q
theorem minB_le : ∀ (xs : List Int) (x : Int), minB ltI x xs ≤ x ∧ ∀ y ∈ xs, minB ltI x xs ≤ y
  | [], x => ⟨Int.le_refl _, by simp⟩
  | y :: ys, x => by
    have e : minB ltI x (y :: ys) = minB ltI (if ltI y x = true then y else x) ys := rfl
    have ih := minB_le ys (if ltI y x = true then y else x)
    rw [e]
    by_cases h : y < x
    · rw [if_pos (by simpa using h)] at ih ⊢
      refine ⟨by omega, fun z hz => ?_⟩
      rcases List.mem_cons.mp hz with rfl | hz
      · exact ih.1
      · exact ih.2 z hz
    · rw [if_neg (by simpa using h)] at ih ⊢
      refine ⟨ih.1, fun z hz => ?_⟩
      rcases List.mem_cons.mp hz with rfl | hz
      · have := ih.1; omega
      · exact ih.2 z hz
theorem minB_mem : ∀ (xs : List Int) (x : Int), minB ltI x xs ∈ x :: xs
  | [], x => by simp [minB]
  | y :: ys, x => by
    have e : minB ltI x (y :: ys) = minB ltI (if ltI y x = true then y else x) ys := rfl
    rw [e]
    have ih := minB_mem ys (if ltI y x = true then y else x)
    rcases List.mem_cons.mp ih with h | h
    · rw [h]; split <;> simp
    · exact List.mem_cons_of_mem _ (List.mem_cons_of_mem _ h)
def minL : List Int → Int
  | [] => 0
  | x :: xs => minB ltI x xs
theorem minL_le {l : List Int} {x : Int} (h : x ∈ l) : minL l ≤ x := by
  cases l with
  | nil => simp at h
  | cons y ys =>
    rcases List.mem_cons.mp h with rfl | h
    · exact (minB_le ys x).1
    · exact (minB_le ys y).2 x h
theorem minL_mem {l : List Int} (h : l ≠ []) : minL l ∈ l := by
  cases l with
  | nil => exact absurd rfl h
  | cons y ys => exact minB_mem ys y
/-! best pits -/
def most (c : Cv) (w : List Int) : Int := maxL ((pitsL c).map (sumW w))
/-! meets and joins -/
def meet (l m : Lt) : Lt := l.filter fun x => decide (x ∈ m)
def join (l m : Lt) : Lt := ssrt (l ++ m)
theorem mem_meet {l m : Lt} {x : Int} : x ∈ meet l m ↔ x ∈ l ∧ x ∈ m := by simp [meet]
theorem mem_join {l m : Lt} {x : Int} : x ∈ join l m ↔ x ∈ l ∨ x ∈ m := by rw [join, ssrt_mem, List.mem_append]
theorem ssrt_lt (ns : List Int) : (ssrt ns).Pairwise (· < ·) := by
  have h1 := ssrt_le ns
  have h2 : (ssrt ns).Nodup := (ssrt_perm ns).nodup_iff.mpr (dd_nodup ns)
  have h3 := List.nodup_iff_pairwise_ne.mp h2
  exact (h1.and h3).imp fun h => by have := h.1; have := h.2; omega
theorem Lot.meet {n : Nat} {l m : Lt} (h : Lot n l) : Lot n (meet l m) := h.sub List.filter_sublist
theorem Lot.join {n : Nat} {l m : Lt} (h : Lot n l) (g : Lot n m) : Lot n (join l m) := ⟨ssrt_lt _, fun x hx => (mem_join.mp hx).elim (h.2 x) (g.2 x)⟩
theorem Pit.meet {c : Cv} {l m : Lt} (h : Pit c l) (g : Pit c m) : Pit c (meet l m) := ⟨h.lot.meet, fun b hb o ho => by
  rw [mem_meet] at hb ⊢
  exact ⟨h.full b hb.1 o ho, g.full b hb.2 o ho⟩⟩
theorem Pit.join {c : Cv} {l m : Lt} (h : Pit c l) (g : Pit c m) : Pit c (join l m) := ⟨h.lot.join g.lot, fun b hb o ho => by
  rw [mem_join] at hb ⊢
  exact hb.elim (fun z => .inl (h.full b z o ho)) fun z => .inr (g.full b z o ho)⟩
theorem lot_filter {n : Nat} {l : Lt} (h : Lot n l) : l = (rangeL 0 n).filter fun x => decide (x ∈ l) := by
  refine asc_ext h.1 (rangeL_lt.filter _) fun x => ?_
  simp only [List.mem_filter, mem_rangeL, decide_eq_true_eq]
  exact ⟨fun hx => ⟨by have := h.2 x hx; omega, hx⟩, fun hx => hx.2⟩
theorem sum_filter (f : Int → Int) (p : Int → Bool) : ∀ l : Lt, ((l.filter p).map f).sum = (l.map fun x => if p x = true then f x else 0).sum
  | [] => rfl
  | x :: xs => by
    have ih := sum_filter f p xs
    by_cases h : p x = true
    · simp [h, ih]
    · simp [h, ih]
theorem sumW_ind {n : Nat} {w : List Int} {l : Lt} (h : Lot n l) : sumW w l = ((rangeL 0 n).map fun x => if x ∈ l then wAt w x else 0).sum := by
  have e := lot_filter h
  unfold sumW
  conv => lhs; rw [e]
  rw [sum_filter]
  simp only [decide_eq_true_eq]
theorem sum_map_add (f g : Int → Int) : ∀ l : Lt, (l.map f).sum + (l.map g).sum = (l.map fun x => f x + g x).sum
  | [] => rfl
  | x :: xs => by
    have ih := sum_map_add f g xs
    simp only [List.map_cons, List.sum_cons]
    omega
theorem sum_map_congr {f g : Int → Int} : ∀ {l : Lt}, (∀ x ∈ l, f x = g x) → (l.map f).sum = (l.map g).sum := fun h => by rw [List.map_congr_left h]
theorem sum_meet_join {n : Nat} {w : List Int} {l m : Lt} (h : Lot n l) (g : Lot n m) : sumW w (meet l m) + sumW w (join l m) = sumW w l + sumW w m := by
  rw [sumW_ind h.meet, sumW_ind (h.join g), sumW_ind h, sumW_ind g, sum_map_add, sum_map_add]
  refine sum_map_congr fun x _ => ?_
  simp only [mem_meet, mem_join]
  by_cases h1 : x ∈ l <;> by_cases h2 : x ∈ m <;> simp [h1, h2]
def minus (l m : Lt) : Lt := l.filter fun x => !decide (x ∈ m)
theorem mem_minus {l m : Lt} {x : Int} : x ∈ minus l m ↔ x ∈ l ∧ x ∉ m := by simp [minus]
theorem Lot.minus {n : Nat} {l m : Lt} (h : Lot n l) : Lot n (minus l m) := h.sub List.filter_sublist
theorem asc_sub_eq {l m : Lt} (hl : l.Pairwise (· < ·)) (hm : m.Pairwise (· < ·)) (hs : ∀ x ∈ l, x ∈ m) (hn : m.length ≤ l.length) : l = m := by
  refine asc_ext hl hm fun x => ⟨hs x, fun hx => ?_⟩
  have nl : l.Nodup := List.nodup_iff_pairwise_ne.mpr (hl.imp fun h => by omega)
  have nm : m.Nodup := List.nodup_iff_pairwise_ne.mpr (hm.imp fun h => by omega)
  exact Classical.byContradiction fun hx' => by
    have h1 : (x :: l).Nodup := List.nodup_cons.mpr ⟨hx', nl⟩
    have := List.Nodup.length_le_of_subset h1 (l₂ := m) fun y hy => by
      rcases List.mem_cons.mp hy with rfl | hy
      · exact hx
      · exact hs y hy
    simp at this
    omega
end Ma

/-! Ma6: tables, rules, profiles -/
namespace Ma
open PySem Pv Tv
abbrev Rl := List (List Int)
def r0 (rs : Rl) (i : Nat) : Int := (rs.getD i []).getD 0 0
def r1 (rs : Rl) (i : Nat) : Int := (rs.getD i []).getD 1 0
def pt (p : List Int) (i : Nat) : Int := p.getD i 0
theorem pt_get {p : List Int} {i : Nat} (h : i < p.length) : p[i]? = some (pt p i) := by simp [pt, h]
theorem pt_of {p : List Int} {i : Nat} {x : Int} (h : p[i]? = some x) : pt p i = x := by simp [pt, h]
theorem pt_mem {p : List Int} {i : Nat} (h : i < p.length) : pt p i ∈ p := List.mem_of_getElem? (pt_get h)
structure Rul (n : Nat) (rs : Rl) : Prop where
  len : rs.length + 1 = n
  ok : ∀ r ∈ rs, ∃ a b, r = [a, b] ∧ 1 ≤ a ∧ a ≤ 9 ∧ 1 ≤ b ∧ b ≤ 9
theorem Rul.at {n : Nat} {rs : Rl} (h : Rul n rs) {i : Nat} (hi : i < rs.length) : rs[i]? = some [r0 rs i, r1 rs i] ∧ 1 ≤ r0 rs i ∧ r0 rs i ≤ 9 ∧ 1 ≤ r1 rs i ∧ r1 rs i ≤ 9 := by
  obtain ⟨a, b, e, h1, h2, h3, h4⟩ := h.ok rs[i] (List.getElem_mem hi)
  have e2 : rs[i]? = some [a, b] := by rw [List.getElem?_eq_getElem hi, e]
  have ea : r0 rs i = a := by simp [r0, e2]
  have eb : r1 rs i = b := by simp [r1, e2]
  rw [ea, eb]
  exact ⟨e2, h1, h2, h3, h4⟩
theorem Rul.nn {n : Nat} {rs : Rl} (h : Rul n rs) (i : Nat) : 0 ≤ r0 rs i ∧ 0 ≤ r1 rs i := by
  by_cases hi : i < rs.length
  · have := h.at hi; omega
  · simp [r0, r1, List.getElem?_eq_none (Nat.le_of_not_lt hi)]
def Stp1 (rs : Rl) (p : List Int) (i : Nat) : Prop := pt p i - pt p (i + 1) ≤ r0 rs i ∧ pt p (i + 1) - pt p i ≤ r1 rs i
def Lets (rs : Rl) (p : List Int) : Prop := ∀ i, i + 1 < p.length → Stp1 rs p i
structure Tab (cs : List Int) (rs : Rl) : Prop where
  rul : Rul cs.length rs
  len : cs.length ≤ 5
  bd : ∀ c ∈ cs, 1 ≤ c ∧ c ≤ 10
  sum : cs.sum ≤ 10
  lets : Lets rs cs
theorem Tab.pos {cs : List Int} {rs : Rl} (h : Tab cs rs) : 1 ≤ cs.length := by have := h.rul.len; omega
theorem Tab.rl {cs : List Int} {rs : Rl} (h : Tab cs rs) : rs.length ≤ 4 := by have := h.rul.len; have := h.len; omega
/-! slacks -/
def up (rs : Rl) (i : Nat) : Nat → Int
  | 0 => 0
  | n + 1 => up rs i n + r0 rs (i + n)
def dn (rs : Rl) (j : Nat) : Nat → Int
  | 0 => 0
  | n + 1 => dn rs j n + r1 rs (j + n)
def sl (rs : Rl) (i j : Nat) : Int := if i < j then up rs i (j - i) else dn rs j (i - j)
theorem Lets.le {rs : Rl} {p : List Int} (h : Lets rs p) {i j : Nat} (hi : i < p.length) (hj : j < p.length) : pt p i ≤ pt p j + sl rs i j := by
  have u : ∀ (n i : Nat), i + n < p.length → pt p i ≤ pt p (i + n) + up rs i n := by
    intro n
    induction n with
    | zero => intro i _; simp [up]
    | succ n ih =>
      intro i hn
      have h1 := ih i (by omega)
      have h2 := (h (i + n) (by omega)).1
      rw [up, ← Nat.add_assoc]; omega
  have d : ∀ (n j : Nat), j + n < p.length → pt p (j + n) ≤ pt p j + dn rs j n := by
    intro n
    induction n with
    | zero => intro i _; simp [dn]
    | succ n ih =>
      intro i hn
      have h1 := ih i (by omega)
      have h2 := (h (i + n) (by omega)).2
      rw [dn, ← Nat.add_assoc]; omega
  unfold sl; split
  · have := u (j - i) i (by omega); rwa [show i + (j - i) = j by omega] at this
  · have := d (i - j) j (by omega); rwa [show j + (i - j) = i by omega] at this
/-! the deepest and the shallowest -/
/-! all rows of depths -/
def ext1 (s : Int) (row : List Int) : List (List Int) := (rangeL 0 (s + 1).toNat).map fun d => row ++ [d]
def ext (acc : List (List Int)) (s : Int) : List (List Int) := acc.flatMap (ext1 s)
theorem snoc_ind {α : Type} {P : List α → Prop} (h0 : P []) (h1 : ∀ l x, P l → P (l ++ [x])) (l : List α) : P l := by
  have : ∀ n (l : List α), l.length = n → P l := by
    intro n
    induction n with
    | zero => intro l hl; rw [List.length_eq_zero_iff.mp hl]; exact h0
    | succ n ih =>
      intro l hl
      have hne : l ≠ [] := by intro e; subst e; simp at hl
      rw [← List.dropLast_concat_getLast hne]
      exact h1 _ _ (ih _ (by simp; omega))
  exact this _ l rfl
/-! profiles -/
/-! slices of rules -/
/-! ways of answering -/
theorem whileR_cps {σ β : Type} {c : σ → PT Bool} {f : σ → PT (Stp σ β)} {Q : Sum σ β → Prop} (I : Nat → σ → Prop) (cb : σ → Bool) (hc : ∀ m s, I m s → ∀ Q, Q (cb s) → c s Q) (hf : ∀ m s, I m s → cb s = true → ∀ Q : Stp σ β → Prop, (∀ m' s', m' < m → I m' s' → Q (.go s')) → f s Q) (he : ∀ m s, I m s → cb s = false → Q (.inl s)) : ∀ {n m : Nat} {s : σ}, I m s → m < n → whileR c f n s Q
  | 0, m, s, _, h => by omega
  | n + 1, m, s, hi, h => by
    unfold whileR
    refine hc m s hi _ ?_
    cases e : cb s with
    | true =>
      rw [if_pos rfl]
      exact hf m s hi e _ fun m' s' h1 h2 => whileR_cps I cb hc hf he h2 (by omega)
    | false =>
      rw [if_neg (by decide)]
      exact he m s hi e
end Ma

/-! Ma7: depths that were seen -/
namespace Ma
open PySem Pv Tv
abbrev Sn := List (Option Int)
def sAt (s : Sn) (i : Nat) : Option Int := s.getD i none
def Agr (s : Sn) (p : List Int) : Prop := ∀ i, i < s.length → ∀ d, sAt s i = some d → pt p i = d
structure Seen (cs : List Int) (s : Sn) : Prop where
  len : s.length = cs.length
  ok : ∀ i, i < cs.length → ∀ d, sAt s i = some d → 0 ≤ d ∧ d ≤ pt cs i
section
variable {cs : List Int} {rs : Rl} {s : Sn}
end
end Ma

/-! Ma4: all that a block needs; least and greatest pits of a lot. -/
namespace Ma
open PySem Pv Tv
inductive Rch (c : Cv) : Int → Int → Prop
  | one {b o : Int} : o ∈ atC c b → Rch c b o
  | step {b o x : Int} : o ∈ atC c b → Rch c o x → Rch c b x
theorem Rch.lt {c : Cv} (h : Vcv c) {b x : Int} (r : Rch c b x) : 0 ≤ b → 0 ≤ x ∧ x < b := by
  induction r with
  | one ho => exact fun h0 => h.at h0 ho
  | step ho _ ih =>
    intro h0
    have := h.at h0 ho
    have := ih this.1
    omega
theorem Rch.trans {c : Cv} {b o x : Int} (r : Rch c b o) (q : Rch c o x) : Rch c b x := by
  induction r with
  | one ho => exact .step ho q
  | step ho _ ih => exact .step ho (ih q)
theorem Rch.pit {c : Cv} {p : Lt} (h : Pit c p) {b x : Int} (r : Rch c b x) : b ∈ p → x ∈ p := by
  induction r with
  | one ho => exact fun hb => h.full _ hb _ ho
  | step ho _ ih => exact fun hb => ih (h.full _ hb _ ho)
structure Clo (c : Cv) (n : Nat) (r : Cv) : Prop where
  len : r.length = n
  mem : ∀ b : Int, 0 ≤ b → b < n → ∀ x, x ∈ atC r b ↔ Rch c b x
  asc : ∀ b : Int, 0 ≤ b → b < n → (atC r b).Pairwise (· < ·)
theorem Clo.lot {c : Cv} {n : Nat} {r : Cv} (h : Clo c n r) (hv : Vcv c) {b : Int} (h0 : 0 ≤ b) (h1 : b < n) : Lot b.toNat (atC r b) := ⟨h.asc b h0 h1, fun x hx => by
  have := ((h.mem b h0 h1 x).mp hx).lt hv h0
  omega⟩
theorem Clo.nil {c : Cv} : Clo c 0 [] := ⟨rfl, fun b h0 h1 => by omega, fun b h0 h1 => by omega⟩
theorem atC_snoc_l {r : Cv} {l : Lt} {b : Int} (h0 : 0 ≤ b) (h1 : b < r.length) : atC (r ++ [l]) b = atC r b := by
  unfold atC
  rw [List.getD_eq_getElem?_getD, List.getD_eq_getElem?_getD, List.getElem?_append_left (by omega)]
theorem atC_snoc_r {r : Cv} {l : Lt} : atC (r ++ [l]) (r.length : Int) = l := by
  unfold atC
  rw [List.getD_eq_getElem?_getD]; simp
theorem Clo.snoc {c : Cv} {n : Nat} {r : Cv} {l : Lt} (h : Clo c n r) (h1 : l.Pairwise (· < ·)) (h2 : ∀ x, x ∈ l ↔ Rch c (n : Int) x) : Clo c (n + 1) (r ++ [l]) := by
  have hl := h.len
  refine ⟨by simp [hl], fun b b0 b1 x => ?_, fun b b0 b1 => ?_⟩
  · by_cases e : b < n
    · rw [atC_snoc_l b0 (by omega)]; exact h.mem b b0 e x
    · obtain rfl : b = (n : Int) := by omega
      rw [← hl, atC_snoc_r, hl]; exact h2 x
  · by_cases e : b < n
    · rw [atC_snoc_l b0 (by omega)]; exact h.asc b b0 e
    · obtain rfl : b = (n : Int) := by omega
      rw [← hl, atC_snoc_r]; exact h1
/-! parts of all pits -/
/-! of a lot -/
structure IsLeast (c : Cv) (l a : Lt) : Prop where
  asc : a.Pairwise (· < ·)
  mem : ∀ x, x ∈ a ↔ x ∈ l ∨ ∃ b ∈ l, Rch c b x
theorem IsLeast.pit {c : Cv} {l a : Lt} (h : IsLeast c l a) (hv : Vcv c) (hl : Lot c.length l) : Pit c a := by
  refine ⟨⟨h.asc, fun x hx => ?_⟩, fun b hb o ho => ?_⟩
  · rcases (h.mem x).mp hx with hx | ⟨b, hb, r⟩
    · exact hl.2 x hx
    · have := hl.2 b hb
      have := r.lt hv this.1
      omega
  · rw [h.mem]
    rcases (h.mem b).mp hb with hb | ⟨d, hd, r⟩
    · exact .inr ⟨b, hb, .one ho⟩
    · exact .inr ⟨d, hd, r.trans (.one ho)⟩
theorem IsLeast.sub {c : Cv} {l a p : Lt} (h : IsLeast c l a) (hp : Pit c p) (hs : ∀ x ∈ l, x ∈ p) : ∀ x ∈ a, x ∈ p := fun x hx => by
  rcases (h.mem x).mp hx with hx | ⟨b, hb, r⟩
  · exact hs x hx
  · exact r.pit hp (hs b hb)
structure IsGreat (c : Cv) (l a : Lt) : Prop where
  asc : a.Pairwise (· < ·)
  mem : ∀ x, x ∈ a ↔ (0 ≤ x ∧ x < c.length) ∧ x ∉ l ∧ ∀ o, Rch c x o → o ∉ l
theorem IsGreat.pit {c : Cv} {l a : Lt} (h : IsGreat c l a) (hv : Vcv c) : Pit c a := by
  refine ⟨⟨h.asc, fun x hx => ((h.mem x).mp hx).1⟩, fun b hb o ho => ?_⟩
  obtain ⟨h1, h2, h3⟩ := (h.mem b).mp hb
  have := hv.at h1.1 ho
  exact (h.mem o).mpr ⟨by omega, h3 o (.one ho), fun x r => h3 x (.step ho r)⟩
theorem IsGreat.sub {c : Cv} {l a p : Lt} (h : IsGreat c l a) (hp : Pit c p) (hs : ∀ x ∈ l, x ∉ p) : ∀ x ∈ p, x ∈ a := fun x hx =>
  (h.mem x).mpr ⟨hp.lot.2 x hx, fun z => hs x z hx, fun o r z => hs o z (r.pit hp hx)⟩
end Ma

/-! MaA: choices, rows of probes -/
namespace Ma
open PySem Pv Tv
abbrev Chl := List (List Int)
abbrev Ety := Str × Int × Int
structure Nums (l : List Int) : Prop where
  pos : 1 ≤ l.length
  len : l.length ≤ 3
  asc : l.Pairwise (· < ·)
  bd : ∀ x ∈ l, -50 ≤ x ∧ x ≤ 50
structure Chs (n : Nat) (ch : Chl) : Prop where
  len : ch.length = n
  ok : ∀ l ∈ ch, Nums l
theorem Chs.set {n : Nat} {ch : Chl} (h : Chs n ch) {b : Nat} {l : List Int} (hl : Nums l) : Chs n (ch.set b l) := ⟨by simp [h.len], fun x hx => (List.mem_or_eq_of_mem_set hx).elim (h.ok x) fun e => e ▸ hl⟩
def atL (ch : Chl) (b : Int) : List Int := ch.getD b.toNat []
theorem Chs.at {n : Nat} {ch : Chl} (h : Chs n ch) {b : Int} (h0 : 0 ≤ b) (h1 : b < n) : Nums (atL ch b) := by
  have : b.toNat < ch.length := by have := h.len; omega
  refine h.ok _ ?_
  simp [atL, this]
structure Ent1 (n : Nat) (e : Ety) : Prop where
  w : e.1 = "told" ∨ e.1 = "changed"
  b0 : 0 ≤ e.2.1
  b1 : e.2.1 < n
  n0 : -50 ≤ e.2.2
  n1 : e.2.2 ≤ 50
end Ma

/-! MaB: cases of worths, sure pits -/
namespace Ma
open PySem Pv Tv
structure NumL (l : List Int) : Prop where
  pos : 1 ≤ l.length
  asc : l.Pairwise (· < ·)
  bd : ∀ x ∈ l, -50 ≤ x ∧ x ≤ 50
def cext1 (l row : List Int) : List (List Int) := l.map fun d => row ++ [d]
def cext (acc : List (List Int)) (l : List Int) : List (List Int) := acc.flatMap (cext1 l)
def casL (nums : List (List Int)) : List (List Int) := nums.foldl cext [[]]
theorem casL_snoc (nums : List (List Int)) (l : List Int) : casL (nums ++ [l]) = cext (casL nums) l := by simp [casL, List.foldl_append]
theorem cext_len {acc : List (List Int)} {l : List Int} : (cext acc l).length = acc.length * l.length := by
  unfold cext
  induction acc with
  | nil => simp
  | cons a acc ih => rw [List.flatMap_cons, List.length_append, ih]; simp [cext1, Nat.add_mul]; omega
structure NumsL (n : Nat) (nums : List (List Int)) : Prop where
  len : nums.length = n
  ok : ∀ l ∈ nums, NumL l
theorem NumL.ends {l : List Int} (h : NumL l) {x : Int} (hx : x ∈ l) : pt l 0 ≤ x ∧ x ≤ pt l (l.length - 1) := by
  obtain ⟨i, hi, rfl⟩ := List.getElem_of_mem hx
  have pw := List.pairwise_iff_getElem.mp h.asc
  have p0 : pt l 0 = l[0]'(by omega) := pt_of (List.getElem?_eq_getElem _)
  have p1 : pt l (l.length - 1) = l[l.length - 1]'(by omega) := pt_of (List.getElem?_eq_getElem _)
  rw [p0, p1]
  constructor
  · by_cases e : i = 0
    · subst e; exact Int.le_refl _
    · have := pw 0 i (by omega) hi (by omega); omega
  · by_cases e : i = l.length - 1
    · subst e; exact Int.le_refl _
    · have := pw i (l.length - 1) hi (by omega) (by omega); omega
end Ma

/-! Ma3: fates of blocks. -/
namespace Ma
open PySem Pv Tv
end Ma

/-! MaC: regrets -/
namespace Ma
open PySem Pv Tv
theorem cas_pow {ch : List (List Int)} : (∀ l ∈ ch, l.length ≤ 3) → (casL ch).length ≤ 3 ^ ch.length := by
  refine snoc_ind (P := fun ch => (∀ l ∈ ch, l.length ≤ 3) → (casL ch).length ≤ 3 ^ ch.length) (fun _ => by simp [casL]) (fun l x ih h => ?_) ch
  rw [casL_snoc, cext_len, List.length_append, List.length_singleton, Nat.pow_succ]
  exact Nat.mul_le_mul (ih fun y hy => h y (by simp [hy])) (h x (by simp))
theorem Chs.nums {n : Nat} {ch : Chl} (h : Chs n ch) : NumsL n ch := ⟨h.len, fun l hl => ⟨(h.ok l hl).pos, (h.ok l hl).asc, (h.ok l hl).bd⟩⟩
theorem Chs.few {n : Nat} {ch : Chl} (h : Chs n ch) (hn : n ≤ 6) : (casL ch).length ≤ 729 := by
  have h1 := cas_pow (ch := ch) fun l hl => (h.ok l hl).len
  have h2 : 3 ^ ch.length ≤ 3 ^ 6 := Nat.pow_le_pow_right (by decide) (by rw [h.len]; exact hn)
  exact Nat.le_trans h1 h2
end Ma

/-! MaE: possible pits -/
namespace Ma
open PySem Pv Tv
end Ma

/-! MaF: dicts as sets; columns that hold others. -/
namespace Ma
open PySem Pv Tv
/-! keys -/
theorem mem_keysM {κ β : Type} [DecidableEq κ] {m : List (κ × β)} {x : κ} : x ∈ keysM m ↔ hasM m x = true := by
  simp only [keysM, hasM, List.mem_map, List.any_eq_true, decide_eq_true_eq]
/-! columns that hold -/
end Ma

/-! Ma5: from a pit that is dug. -/
namespace Ma
open PySem Pv Tv
end Ma

/-! MaG: what all and what some of the best have; pits within pits; plans with refills. -/
namespace Ma
open PySem Pv Tv
theorem getM_put {κ β : Type} [DecidableEq κ] (m : List (κ × β)) (k x : κ) (v : β) : getM (putM m k v) x = if x = k then some v else getM m x := by
  unfold putM
  split
  · rename_i h
    unfold getM hasM at *
    induction m with
    | nil => simp at h
    | cons q m ih =>
      rw [List.map_cons, List.find?_cons, List.find?_cons]
      by_cases c : q.1 = k
      · by_cases e : x = k
        · subst e; simp [c]
        · rw [if_pos c, if_neg e]
          have e1 : ¬ q.1 = x := fun z => e (z.symm.trans c)
          simp only [e1, decide_false]
          clear h ih
          induction m with
          | nil => rfl
          | cons p m ih =>
            rw [List.map_cons, List.find?_cons, List.find?_cons]
            by_cases c2 : p.1 = k
            · rw [if_pos c2]
              have e2 : ¬ p.1 = x := fun z => e (z.symm.trans c2)
              simp only [e2, decide_false]; exact ih
            · rw [if_neg c2]
              by_cases e2 : p.1 = x
              · simp [e2]
              · simp only [e2, decide_false]; exact ih
      · rw [if_neg c]
        have h' : (m.any fun q => decide (q.1 = k)) = true := by simpa [c] using h
        by_cases e : q.1 = x
        · have : ¬ x = k := fun z => c (e.trans z)
          simp [e, this]
        · simp only [e, decide_false]; exact ih h'
  · rename_i h
    unfold getM hasM at *
    rw [List.find?_append]
    by_cases e : x = k
    · subst e
      have : m.find? (fun q => decide (q.1 = x)) = none := by
        rw [List.find?_eq_none]
        intro q hq hz
        exact h (List.any_eq_true.mpr ⟨q, hq, hz⟩)
      rw [this]; simp
    · have e2 : ¬ k = x := fun z => e z.symm
      simp [e, e2]
theorem hasM_of {κ β : Type} [DecidableEq κ] {m : List (κ × β)} {x : κ} : (∃ v, getM m x = some v) ↔ x ∈ keysM m := by
  rw [mem_keysM, ← hasM_get, Option.isSome_iff_exists]
section
variable {π : Type} {F G : π → Prop} {f : π → Int} {g : π → Lt} {b b' : Int} {l m l' m' : Lt}
structure Opt (F : π → Prop) (f : π → Int) (g : π → Lt) (b : Int) (l m : Lt) : Prop where
  at_ : ∃ q, F q ∧ f q = b
  ge : ∀ q, F q → f q ≤ b
  la : l.Pairwise (· < ·)
  ma : m.Pairwise (· < ·)
  li : ∀ x, x ∈ l ↔ ∀ q, F q → f q = b → x ∈ g q
  mi : ∀ x, x ∈ m ↔ ∃ q, F q ∧ f q = b ∧ x ∈ g q
theorem Opt.congr (h : Opt F f g b l m) (e : ∀ q, F q ↔ G q) : Opt G f g b l m := by
  have : F = G := funext fun q => propext (e q)
  subst this; exact h
theorem Opt.up (h : Opt F f g b l m) (k : Opt G f g b' l' m') (hb : b < b') : Opt (fun q => F q ∨ G q) f g b' l' m' where
  at_ := let ⟨q, h1, h2⟩ := k.at_; ⟨q, .inr h1, h2⟩
  ge q := fun z => z.elim (fun z => by have := h.ge q z; omega) (k.ge q)
  la := k.la
  ma := k.ma
  li x := by
    rw [k.li]
    exact ⟨fun a q z e => z.elim (fun z => by have := h.ge q z; omega) fun z => a q z e, fun a q z e => a q (.inr z) e⟩
  mi x := by
    rw [k.mi]
    exact ⟨fun ⟨q, z, e, i⟩ => ⟨q, .inr z, e, i⟩, fun ⟨q, z, e, i⟩ => z.elim (fun z => by have := h.ge q z; omega) fun z => ⟨q, z, e, i⟩⟩
theorem Opt.same (h : Opt F f g b l m) (k : Opt G f g b l' m') : Opt (fun q => F q ∨ G q) f g b (meet l l') (join m m') where
  at_ := let ⟨q, h1, h2⟩ := k.at_; ⟨q, .inr h1, h2⟩
  ge q := fun z => z.elim (h.ge q) (k.ge q)
  la := h.la.sublist List.filter_sublist
  ma := ssrt_lt _
  li x := by
    rw [mem_meet, h.li, k.li]
    exact ⟨fun a q z e => z.elim (fun z => a.1 q z e) fun z => a.2 q z e, fun a => ⟨fun q z e => a q (.inl z) e, fun q z e => a q (.inr z) e⟩⟩
  mi x := by
    rw [mem_join, h.mi, k.mi]
    constructor
    · rintro (⟨q, z, e, i⟩ | ⟨q, z, e, i⟩)
      · exact ⟨q, .inl z, e, i⟩
      · exact ⟨q, .inr z, e, i⟩
    · rintro ⟨q, z | z, e, i⟩
      · exact .inl ⟨q, z, e, i⟩
      · exact .inr ⟨q, z, e, i⟩
theorem Opt.one {p : π} (h : (g p).Pairwise (· < ·)) : Opt (fun q => q = p) f g (f p) (g p) (g p) where
  at_ := ⟨p, rfl, rfl⟩
  ge q := fun z => by subst z; omega
  la := h
  ma := h
  li x := ⟨fun a q z _ => by subst z; exact a, fun a => a p rfl rfl⟩
  mi x := ⟨fun a => ⟨p, rfl, rfl, a⟩, fun ⟨q, z, _, i⟩ => by subst z; exact i⟩
theorem Opt.uniq (h : Opt F f g b l m) (k : Opt F f g b' l' m') : b = b' ∧ l = l' ∧ m = m' := by
  have e : b = b' := by
    obtain ⟨q, h1, h2⟩ := h.at_
    obtain ⟨p, k1, k2⟩ := k.at_
    have := h.ge p k1
    have := k.ge q h1
    omega
  subst e
  exact ⟨rfl, asc_ext h.la k.la fun x => by rw [h.li, k.li], asc_ext h.ma k.ma fun x => by rw [h.mi, k.mi]⟩
theorem Opt.lot {n : Nat} (h : Opt F f g b l m) (hl : ∀ q, F q → Lot n (g q)) : Lot n l ∧ Lot n m := by
  refine ⟨⟨h.la, fun x hx => ?_⟩, ⟨h.ma, fun x hx => ?_⟩⟩
  · obtain ⟨q, h1, h2⟩ := h.at_
    exact (hl q h1).2 x ((h.li x).mp hx q h1 h2)
  · obtain ⟨q, h1, h2, h3⟩ := (h.mi x).mp hx
    exact (hl q h1).2 x h3
/-! told by lists -/
end
/-! pits within a pit -/
def SubP (c : Cv) (p o : Lt) : Prop := Pit c o ∧ ∀ x ∈ o, x ∈ p
/-! plans -/
def Plan (c : Cv) (q : Lt × Lt) : Prop := Pit c q.1 ∧ SubP c q.1 q.2
def pw (w r : List Int) (q : Lt × Lt) : Int := sumW w q.1 + sumW r q.1 - sumW r q.2
structure PO (c : Cv) (w r : List Int) (b : Int) (l1 l2 m1 m2 : Lt) : Prop where
  o1 : Opt (Plan c) (pw w r) (·.1) b l1 m1
  o2 : Opt (Plan c) (pw w r) (·.2) b l2 m2
/-! by lists -/
/-! two best plans meet and join in best ones -/
theorem sub_len {l m : Lt} (hl : l.Pairwise (· < ·)) (hm : m.Pairwise (· < ·)) (hs : ∀ x ∈ l, x ∈ m) : l.length ≤ m.length := by
  have nl : l.Nodup := List.nodup_iff_pairwise_ne.mpr (hl.imp fun h => by omega)
  exact List.Nodup.length_le_of_subset nl fun y hy => hs y hy
end Ma

/-! MaQ: rows in which a pit is dug, and what a purse must hold. -/
namespace Ma
open PySem Pv Tv
def exts (c : Cv) (p one : Lt) : Lt := p.filter fun b => !decide (b ∈ one) && (atC c b).all fun o => decide (o ∈ one)
theorem sumW_snoc (w : List Int) (row : Lt) (b : Int) : sumW w (row ++ [b]) = sumW w row + wAt w b := by simp [sumW]
theorem exts_mem {c : Cv} {p one : Lt} {b : Int} : b ∈ exts c p one ↔ b ∈ p ∧ b ∉ one ∧ ∀ o ∈ atC c b, o ∈ one := by
  simp [exts, List.mem_filter]
theorem exts_same {c : Cv} {p one D : Lt} (h : ∀ x, x ∈ one ↔ x ∈ D) : exts c p one = exts c p D := by
  unfold exts
  congr 1; funext b
  have e : ∀ x, decide (x ∈ one) = decide (x ∈ D) := fun x => by simp [h x]
  simp only [e]
theorem exts_ne {c : Cv} (hv : Vcv c) {p D : Lt} (hp : Pit c p) (h : SubP c p D) (n : D.length < p.length) : exts c p D ≠ [] := by
  have ne : minus p D ≠ [] := fun e => by
    have sb : ∀ x ∈ p, x ∈ D := fun x hx => Classical.byContradiction fun z => by
      have : x ∈ minus p D := mem_minus.mpr ⟨hx, z⟩
      rw [e] at this; cases this
    have : p = D := asc_ext hp.lot.1 h.1.lot.1 fun x => ⟨sb x, h.2 x⟩
    rw [this] at n; omega
  have hm := mem_minus.mp (minL_mem ne)
  refine List.ne_nil_of_mem (exts_mem.mpr ⟨hm.1, hm.2, fun o ho => ?_⟩)
  have b0 := hp.lot.2 _ hm.1
  have lt := (hv.at b0.1 ho).2
  refine Classical.byContradiction fun z => ?_
  have := minL_le (mem_minus.mpr ⟨hp.full _ hm.1 o ho, z⟩)
  omega
theorem sub_join {c : Cv} {p D : Lt} {b : Int} (hp : Pit c p) (h : SubP c p D) (hb : b ∈ exts c p D) : SubP c p (join D [b]) ∧ (join D [b]).length = D.length + 1 := by
  obtain ⟨b1, b2, b3⟩ := exts_mem.mp hb
  have lb : Lot c.length [b] := ⟨by simp, fun x hx => by rw [List.mem_singleton.mp hx]; exact hp.lot.2 b b1⟩
  have lj := h.1.lot.join lb
  refine ⟨⟨⟨lj, fun x hx o ho => ?_⟩, fun x hx => ?_⟩, ?_⟩
  · rcases mem_join.mp hx with hx | hx
    · exact mem_join.mpr (.inl (h.1.full x hx o ho))
    · rw [List.mem_singleton.mp hx] at ho; exact mem_join.mpr (.inl (b3 o ho))
  · rcases mem_join.mp hx with hx | hx
    · exact h.2 x hx
    · rw [List.mem_singleton.mp hx]; exact b1
  · have nd : (D ++ [b]).Nodup := by
      rw [List.nodup_append]
      exact ⟨List.nodup_iff_pairwise_ne.mpr (h.1.lot.1.imp fun h => by omega), by simp, fun x hx y hy e => by
        rw [List.mem_singleton.mp hy] at e; exact b2 (e ▸ hx)⟩
    have nj : (join D [b]).Nodup := List.nodup_iff_pairwise_ne.mpr (lj.1.imp fun h => by omega)
    have l1 := List.Nodup.length_le_of_subset nd (l₂ := join D [b]) fun x hx => mem_join.mpr (List.mem_append.mp hx)
    have l2 := List.Nodup.length_le_of_subset nj (l₂ := D ++ [b]) fun x hx => List.mem_append.mpr (mem_join.mp hx)
    rw [List.length_append, List.length_singleton] at l1 l2
    omega
theorem sum_join {c : Cv} {w : List Int} {p D : Lt} {b : Int} (hp : Pit c p) (h : SubP c p D) (hb : b ∈ exts c p D) : sumW w (join D [b]) = sumW w D + wAt w b := by
  obtain ⟨b1, b2, b3⟩ := exts_mem.mp hb
  have lb : Lot c.length [b] := ⟨by simp, fun x hx => by rw [List.mem_singleton.mp hx]; exact hp.lot.2 b b1⟩
  have e := sum_meet_join (w := w) h.1.lot lb
  have e1 : meet D [b] = [] := by
    rw [List.eq_nil_iff_forall_not_mem]
    intro x hx
    have := mem_meet.mp hx
    exact b2 (List.mem_singleton.mp this.2 ▸ this.1)
  rw [e1] at e
  have e2 : sumW w [] = 0 := rfl
  have e3 : sumW w [b] = wAt w b := by simp [sumW]
  omega
structure Dug (c : Cv) (w : List Int) (p one D : Lt) : Prop where
  sub : SubP c p D
  mem : ∀ x, x ∈ one ↔ x ∈ D
  sum : sumW w one = sumW w D
theorem Dug.next {c : Cv} {w : List Int} {p one D : Lt} {b : Int} (hp : Pit c p) (h : Dug c w p one D) (hb : b ∈ exts c p D) : Dug c w p (one ++ [b]) (join D [b]) := ⟨(sub_join hp h.sub hb).1, fun x => by rw [List.mem_append, mem_join, h.mem], by rw [sumW_snoc, h.sum, sum_join hp h.sub hb]⟩
/-! the least of pairs -/
end Ma
namespace Ma
open Tv
theorem put_len3 {κ β : Type} [DecidableEq κ] (m : List (κ × β)) (k : κ) (v : β) : (putM m k v).length ≤ m.length + 1 := by
  unfold putM
  split
  · simp
  · simp
end Ma

/-! Mb4: rows of a pit, counted and told by number -/
namespace Ma
open Tv
theorem mem_keys_put {κ β : Type} [DecidableEq κ] (m : List (κ × β)) (k x : κ) (v : β) : x ∈ keysM (putM m k v) ↔ x = k ∨ x ∈ keysM m := by
  rw [← hasM_of, getM_put, ← hasM_of]
  by_cases e : x = k
  · rw [if_pos e]; exact ⟨fun _ => .inl e, fun _ => ⟨_, rfl⟩⟩
  · rw [if_neg e]; exact ⟨.inr, fun h => h.resolve_left e⟩
theorem keys_len {κ β : Type} (m : List (κ × β)) : (keysM m).length = m.length := List.length_map ..
def Rcd (c : Cv) (p : Lt) : Nat → Lt → Prop
  | 0, D => D = []
  | t + 1, D => ∃ E b, Rcd c p t E ∧ b ∈ exts c p E ∧ D = join E [b]
theorem Rcd.sub {c : Cv} {p : Lt} (hp : Pit c p) : ∀ {t : Nat} {D : Lt}, Rcd c p t D → SubP c p D ∧ D.length = t
  | 0, D, h => by rw [show D = [] from h]; exact ⟨⟨pit_nil c, by simp⟩, rfl⟩
  | t + 1, D, ⟨E, b, h, hb, e⟩ => by
    obtain ⟨h1, h2⟩ := Rcd.sub hp h
    obtain ⟨h3, h4⟩ := sub_join hp h1 hb
    rw [e]; exact ⟨h3, by omega⟩
theorem Rcd.le {c : Cv} {p : Lt} (hp : Pit c p) {t : Nat} {D : Lt} (h : Rcd c p t D) : t ≤ p.length := by
  obtain ⟨h1, h2⟩ := h.sub hp
  have := sub_len h1.1.lot.1 hp.lot.1 h1.2
  omega
theorem Rcd.full {c : Cv} {p : Lt} (hp : Pit c p) {D : Lt} (h : Rcd c p p.length D) : D = p := by
  obtain ⟨h1, h2⟩ := h.sub hp
  exact asc_sub_eq h1.1.lot.1 hp.lot.1 h1.2 (by omega)
theorem Rcd.next {c : Cv} {p : Lt} {t : Nat} {D : Lt} {b : Int} (h : Rcd c p t D) (hb : b ∈ exts c p D) : Rcd c p (t + 1) (join D [b]) := ⟨D, b, h, hb, rfl⟩
/-! rows -/
end Ma

/-! MaR: the cells of a table, its ground; pits are profiles -/
namespace Ma
open PySem Pv Tv
/-! sums -/
/-! cells -/
def layR (cs : List Int) (d : Int) : List (Int × Int) := ((rangeL 0 cs.length).filter fun j => decide (d ≤ pt cs j.toNat)).map fun j => (j, d)
def cellsL (cs : List Int) : List (Int × Int) := (rangeL 1 10).flatMap (layR cs)
def Bd (cs : List Int) : Prop := ∀ c ∈ cs, 1 ≤ c ∧ c ≤ 10
theorem Bd.at {cs : List Int} (h : Bd cs) {j : Nat} (hj : j < cs.length) : 1 ≤ pt cs j ∧ pt cs j ≤ 10 := h _ (pt_mem hj)
/-! places -/
def pl (cs : List Int) (c : Int × Int) : Nat := (idxF c (cellsL cs)).getD 0
def cl (cs : List Int) (i : Int) : Int × Int := (cellsL cs).getD i.toNat (0, 0)
/-! the ground -/
section
variable {cs : List Int} {rs : Rl}
/-! pits and profiles -/
end
end Ma

/-! MaS: profiles worth most are the best pits of the table's ground -/
namespace Ma
open PySem Pv Tv
section
variable {cs : List Int} {rs : Rl} {w : List Int}
/-! worths -/
theorem cut_to {α : Type} {l : List α} {k : Int} (h0 : 0 ≤ k) : cutL l none (some k) = l.take k.toNat := by
  have e : HT.sIx l.length l.length (some k) = min k.toNat l.length := by
    simp only [HT.sIx]
    split <;> omega
  have e2 : HT.sIx l.length 0 none = 0 := rfl
  rw [cutL, e, e2, List.drop_zero, Nat.sub_zero]
  by_cases z : k.toNat ≤ l.length
  · rw [Nat.min_eq_left z]
  · rw [Nat.min_eq_right (by omega), List.take_of_length_le (Nat.le_refl _), List.take_of_length_le (by omega)]
end
end Ma

/-! MaX: deeds from pit to pit, the least of the shortest rows -/
namespace Ma
open PySem Pv Tv
theorem ltStr_tot : TotB ltStr where
  irr := fun a => PyProof.Rows.lex_irrefl (O := PyProof.Rows.itemOrd) _
  trans := fun a b c h1 h2 => PyProof.Rows.lex_trans (O := PyProof.Rows.itemOrd) _ _ _ h1 h2
  tri := fun a b h1 h2 => by
    have h := PyProof.Rows.lex_total (O := PyProof.Rows.itemOrd) _ _ h1 h2
    simp only [PySem.W.keyToks, List.cons.injEq, Sum.inr.injEq, and_true] at h
    exact PySem.W.str_of_cps h
abbrev Deed := Str × Int
abbrev ltD : Deed → Deed → Bool := ltP ltStr ltI
theorem ltD_tot : TotB ltD := ltP_tot ltStr_tot ltI_tot
theorem sDF : ¬ ("fill" : Str) = "dig" := by decide
def ins (p : Lt) (b : Int) : Lt := join p [b]
def del (p : Lt) (b : Int) : Lt := p.filter fun x => !decide (x = b)
inductive Dd (c : Cv) (p : Lt) : Deed → Lt → Prop
  | dig {b : Int} : 0 ≤ b → b < c.length → b ∉ p → Pit c (ins p b) → Dd c p ("dig", b) (ins p b)
  | fill {b : Int} : b ∈ p → Pit c (del p b) → Dd c p ("fill", b) (del p b)
theorem Dd.pit {c : Cv} {p q : Lt} {d : Deed} (h : Dd c p d q) : Pit c q := by
  cases h with
  | dig _ _ _ h => exact h
  | fill _ h => exact h
def dist (c : Cv) (p g : Lt) : Nat := ((rangeL 0 c.length).filter fun x => decide (x ∈ p) != decide (x ∈ g)).length
section
variable {c : Cv} {p q g h : Lt} {d : Deed}
def Wk (c : Cv) : Lt → List Deed → Lt → Prop
  | p, [], g => p = g
  | p, d :: r, g => ∃ q, Dd c p d q ∧ Wk c q r g
def gdL (c : Cv) (p g : Lt) : List Deed := ((minus g p).filter fun b => isPitB c (ins p b)).map (fun b => (("dig" : Str), b)) ++ ((minus p g).filter fun b => isPitB c (del p b)).map (fun b => (("fill" : Str), b))
def stepD (p : Lt) (d : Deed) : Lt := if d.1 = "dig" then ins p d.2 else del p d.2
theorem Dd.step (h : Dd c p d q) : q = stepD p d := by
  cases h with
  | dig _ _ _ _ => simp [stepD]
  | fill _ _ => simp [stepD, sDF]
def grow (c : Cv) (g : Lt) : Nat → Lt → List Deed
  | 0, _ => []
  | n + 1, p => match gdL c p g with
    | [] => []
    | d :: _ => d :: grow c g n (stepD p d)
def rowR (c : Cv) (p g : Lt) : List Deed := grow c g (dist c p g) p
end
end Ma

/-! MaY: rows of deeds, layer by layer -/
namespace Ma
open PySem Pv Tv
theorem ltLD_tot : TotB (ltLex ltD) := ltLex_tot ltD_tot
abbrev Mp := List (Lt × List Deed)
section
variable {c : Cv} {p : Lt} {k : Nat}
structure Lay (c : Cv) (p : Lt) (k : Nat) (T : List (List Deed × Lt)) : Prop where
  srt : T.Pairwise (fun a b => ltLex ltD a.1 b.1 = true)
  wk : ∀ x ∈ T, Pit c x.2 ∧ Wk c p x.1 x.2 ∧ x.1.length = k + 1
  all : ∀ g, Pit c g → dist c p g = k + 1 → (rowR c p g, g) ∈ T
def good (c : Cv) (p : Lt) (k : Nat) (x : List Deed × Lt) : Bool := decide (dist c p x.2 = k + 1) && decide (x.1 = rowR c p x.2)
structure Jn (c : Cv) (p : Lt) (k : Nat) (done : List (List Deed × Lt)) (s : Mp × List Lt) : Prop where
  later : s.2 = (done.filter (good c p k)).map (·.2)
  old : ∀ g, Pit c g → dist c p g ≤ k → getM s.1 g = some (rowR c p g)
  new : ∀ g, g ∈ s.2 → getM s.1 g = some (rowR c p g)
  non : ∀ g, ¬ (Pit c g ∧ dist c p g ≤ k) → g ∉ s.2 → getM s.1 g = none
  nd : (keysM s.1).Nodup
structure Line (c : Cv) (p : Lt) (k : Nat) (l : List Lt) : Prop where
  mem : ∀ g, g ∈ l ↔ Pit c g ∧ dist c p g = k
  srt : l.Pairwise (fun a b => ltLex ltD (rowR c p a) (rowR c p b) = true)
theorem Line.nd {l : List Lt} (h : Line c p k l) : l.Nodup := by
  rw [List.nodup_iff_pairwise_ne]
  exact h.srt.imp fun {a b} z e => by rw [e, ltLD_tot.irr] at z; cases z
theorem nd_pits {l : List Lt} (h2 : c.length ≤ 10) (nd : l.Nodup) (h : ∀ g ∈ l, Pit c g) : l.length ≤ 1024 :=
  Nat.le_trans (List.Nodup.length_le_of_subset nd fun g hg => mem_pitsL.mpr (h g hg)) (pitsL_len h2)
structure DsOk (c : Cv) (h : Lt) (l : List (Deed × Lt)) : Prop where
  mem : ∀ x, x ∈ l ↔ Dd c h x.1 x.2
  srt : l.Pairwise (fun a b => ltD a.1 b.1 = true)
end
end Ma
namespace Ma
open PySem Pv Tv
end Ma

/-! Mc1: payments along ways: what the program does, as plain functions -/
namespace Ma
open Tv
abbrev Gv := List ((Int × Int) × Int)
abbrev Cam := List (Int × Option Int)
def gAt (g : Gv) (p : Int × Int) : Int := (getM g p).getD 0
def joinS (here : Int) : List Int → List Int × Cam → List Int × Cam
  | [], s => s
  | o :: os, s => joinS here os (if hasM s.2 o = true then s else (s.1 ++ [o], s.2 ++ [(o, some here)]))
def backP (cm : Cam) : Nat → Int → List Int
  | 0, _ => []
  | t + 1, x => match getM cm x with
    | some (some v) => v :: backP cm t v
    | _ => []
def srcs (left : List Int) : List Int := (rangeL 0 left.length).filter fun b => decide (0 < wAt left b)
def cam0 (l : List Int) : Cam := l.map fun b => (b, none)
/-! ### searching -/
theorem has_keys {κ β : Type} [DecidableEq κ] {m : List (κ × β)} {x : κ} : hasM m x = true ↔ x ∈ keysM m := by
  rw [← hasM_get, Option.isSome_iff_exists]; exact hasM_of
theorem keys_app {κ β : Type} (m l : List (κ × β)) : keysM (m ++ l) = keysM m ++ keysM l := List.map_append
theorem get_at {κ β : Type} [DecidableEq κ] : ∀ {m : List (κ × β)} {i : Nat} {x : κ} {v : β}, (keysM m).Nodup → m[i]? = some (x, v) → getM m x = some v
  | [], _, _, _, _, h => by simp at h
  | q :: m, 0, x, v, _, h => by
    simp at h; subst h
    simp [getM]
  | q :: m, i + 1, x, v, nd, h => by
    have nd' := List.nodup_cons.mp (show (q.1 :: keysM m).Nodup from nd)
    have h' : m[i]? = some (x, v) := by simpa using h
    have ne : ¬ q.1 = x := fun e => nd'.1 (by rw [e]; exact List.mem_map_of_mem (f := (·.1)) (List.mem_of_getElem? h'))
    have ih := get_at nd'.2 h'
    unfold getM at ih ⊢
    rw [List.find?_cons_of_neg (by simpa using ne)]; exact ih
theorem nd_uniq {α : Type} {l : List α} (h : l.Nodup) {i j : Nat} {v : α} (hi : l[i]? = some v) (hj : l[j]? = some v) : i = j := by
  obtain ⟨i1, i2⟩ := List.getElem?_eq_some_iff.mp hi
  obtain ⟨j1, j2⟩ := List.getElem?_eq_some_iff.mp hj
  rw [List.nodup_iff_pairwise_ne] at h
  rcases Nat.lt_trichotomy i j with lt | e | gt
  · exact absurd (i2.trans j2.symm) ((List.pairwise_iff_getElem.mp h) i j i1 j1 lt)
  · exact e
  · exact absurd (j2.trans i2.symm) ((List.pairwise_iff_getElem.mp h) j i j1 i1 gt)
structure Bfs (n : Nat) (B : Int → List Int) (left : List Int) (done line : List Int) (cm : Cam) : Prop where
  ks : keysM cm = done ++ line
  nd : (keysM cm).Nodup
  rg : ∀ x ∈ keysM cm, 0 ≤ x ∧ x < n
  src : ∀ (i : Nat) (x : Int), cm[i]? = some (x, none) → 0 < wAt left x
  par : ∀ (i : Nat) (x v : Int), cm[i]? = some (x, some v) → ∃ j, j < i ∧ (keysM cm)[j]? = some v ∧ x ∈ B v
  all : ∀ x ∈ done, ¬ wAt left x < 0 ∧ ∀ y ∈ B x, y ∈ keysM cm
  str : ∀ x : Int, 0 ≤ x → x < n → 0 < wAt left x → x ∈ keysM cm
section
variable {n : Nat} {B : Int → List Int} {left done line : List Int} {cm : Cam}
theorem Bfs.start (hl : left.length = n) : Bfs n B left [] (srcs left) (cam0 (srcs left)) := by
  have k : keysM (cam0 (srcs left)) = srcs left := by
    unfold keysM cam0
    rw [List.map_map]
    exact List.map_id _
  have at_ : ∀ {i : Nat} {q : Int × Option Int}, (cam0 (srcs left))[i]? = some q → q.1 ∈ srcs left ∧ q.2 = none := fun {i q} h => by
    have := List.mem_of_getElem? h
    obtain ⟨b, hb, rfl⟩ := List.mem_map.mp this
    exact ⟨hb, rfl⟩
  have ms : ∀ x, x ∈ srcs left ↔ (0 ≤ x ∧ x < n) ∧ 0 < wAt left x := fun x => by
    unfold srcs
    rw [List.mem_filter, mem_rangeL, decide_eq_true_eq, hl]; constructor <;> intro h <;> exact ⟨by omega, h.2⟩
  refine ⟨by rw [k]; rfl, ?_, fun x hx => ?_, fun i x h => ?_, fun i x v h => ?_, fun x hx => by simp at hx, fun x h0 h1 h2 => ?_⟩
  · rw [k]
    exact List.nodup_iff_pairwise_ne.mpr ((rangeL_lt.filter _).imp fun h => by omega)
  · rw [k] at hx; exact ((ms x).mp hx).1
  · exact ((ms x).mp (at_ h).1).2
  · have := (at_ h).2; cases this
  · rw [k]; exact (ms x).mpr ⟨⟨h0, h1⟩, h2⟩
theorem Bfs.len (h : Bfs n B left done line cm) : cm.length = done.length + line.length := by
  have := congrArg List.length h.ks
  rwa [keys_len, List.length_append] at this
theorem Bfs.le (h : Bfs n B left done line cm) : cm.length ≤ n := by
  have := List.Nodup.length_le_of_subset h.nd (l₂ := rangeL 0 n) fun x hx => mem_rangeL.mpr (by have := h.rg x hx; omega)
  rwa [keys_len, rangeL_len] at this
structure Mid (n : Nat) (B : Int → List Int) (left : List Int) (done : List Int) (here : Int) (got line : List Int) (cm : Cam) : Prop where
  ks : keysM cm = done ++ here :: line
  nd : (keysM cm).Nodup
  rg : ∀ x ∈ keysM cm, 0 ≤ x ∧ x < n
  src : ∀ (i : Nat) (x : Int), cm[i]? = some (x, none) → 0 < wAt left x
  par : ∀ (i : Nat) (x v : Int), cm[i]? = some (x, some v) → ∃ j, j < i ∧ (keysM cm)[j]? = some v ∧ x ∈ B v
  all : ∀ x ∈ done, ¬ wAt left x < 0 ∧ ∀ y ∈ B x, y ∈ keysM cm
  str : ∀ x : Int, 0 ≤ x → x < n → 0 < wAt left x → x ∈ keysM cm
  got : ∀ y ∈ got, y ∈ keysM cm
theorem Bfs.mid {here : Int} (h : Bfs n B left done (here :: line) cm) : Mid n B left done here [] line cm := ⟨h.ks, h.nd, h.rg, h.src, h.par, h.all, h.str, by simp⟩
theorem Mid.step {here : Int} {got : List Int} (h : Mid n B left done here got line cm) {o : Int} (ho : o ∈ B here) (h0 : 0 ≤ o ∧ o < n) :
    Mid n B left done here (got ++ [o]) (if hasM cm o = true then (line, cm) else (line ++ [o], cm ++ [(o, some here)])).1 (if hasM cm o = true then (line, cm) else (line ++ [o], cm ++ [(o, some here)])).2 := by
  by_cases e : hasM cm o = true
  · rw [if_pos e]
    exact ⟨h.ks, h.nd, h.rg, h.src, h.par, h.all, h.str, fun y hy => by
      rcases List.mem_append.mp hy with hy | hy
      · exact h.got y hy
      · rw [List.mem_singleton.mp hy]; exact has_keys.mp e⟩
  · rw [if_neg e]
    have nk : o ∉ keysM cm := fun z => e (has_keys.mpr z)
    have kk : keysM (cm ++ [(o, some here)]) = keysM cm ++ [o] := keys_app _ _
    refine ⟨?_, ?_, fun x hx => ?_, fun i x hi => ?_, fun i x v hi => ?_, fun x hx => ⟨(h.all x hx).1, fun y hy => ?_⟩, fun x a b c => ?_, fun y hy => ?_⟩
    · rw [kk, h.ks]; simp
    · rw [kk, List.nodup_append]
      exact ⟨h.nd, by simp, fun a ha b hb z => nk (by rw [List.mem_singleton.mp hb] at z; exact z ▸ ha)⟩
    · rw [kk] at hx
      rcases List.mem_append.mp hx with hx | hx
      · exact h.rg x hx
      · rw [List.mem_singleton.mp hx]; exact h0
    · show 0 < wAt left x
      have hi : (cm ++ [(o, some here)])[i]? = some (x, none) := hi
      by_cases lt : i < cm.length
      · rw [List.getElem?_append_left lt] at hi; exact h.src i x hi
      · rw [List.getElem?_append_right (by omega)] at hi
        have := List.mem_of_getElem? hi
        simp at this
    · have hi : (cm ++ [(o, some here)])[i]? = some (x, some v) := hi
      by_cases lt : i < cm.length
      · rw [List.getElem?_append_left lt] at hi
        obtain ⟨j, j1, j2, j3⟩ := h.par i x v hi
        exact ⟨j, j1, by rw [kk, List.getElem?_append_left (by rw [keys_len]; omega)]; exact j2, j3⟩
      · rw [List.getElem?_append_right (by omega)] at hi
        have m := List.mem_of_getElem? hi
        have ii : i - cm.length = 0 := by
          have := (List.getElem?_eq_some_iff.mp hi).1
          simp at this; omega
        simp at m
        obtain ⟨rfl, rfl⟩ := m
        have hk : v ∈ keysM cm := by rw [h.ks]; simp
        obtain ⟨j, hj⟩ := List.getElem?_of_mem hk
        have jl := (List.getElem?_eq_some_iff.mp hj).1
        rw [keys_len] at jl
        exact ⟨j, by omega, by rw [kk, List.getElem?_append_left (by rw [keys_len]; omega)]; exact hj, ho⟩
    · rw [kk]; exact List.mem_append_left _ ((h.all x hx).2 y hy)
    · rw [kk]; exact List.mem_append_left _ (h.str x a b c)
    · rw [kk]
      rcases List.mem_append.mp hy with hy | hy
      · exact List.mem_append_left _ (h.got y hy)
      · exact List.mem_append_right _ hy
theorem Mid.join {here : Int} : ∀ {os got line : List Int} {cm : Cam}, Mid n B left done here got line cm → (∀ o ∈ os, o ∈ B here ∧ 0 ≤ o ∧ o < n) → Mid n B left done here (got ++ os) (joinS here os (line, cm)).1 (joinS here os (line, cm)).2
  | [], got, line, cm, h, _ => by rw [List.append_nil]; exact h
  | o :: os, got, line, cm, h, ho => by
    have s := h.step (ho o (by simp)).1 (ho o (by simp)).2
    have := s.join (os := os) fun x hx => ho x (by simp [hx])
    rw [List.append_assoc] at this
    exact this
theorem Mid.fin {here : Int} (h : Mid n B left done here (B here) line cm) (hz : ¬ wAt left here < 0) : Bfs n B left (done ++ [here]) line cm :=
  ⟨by rw [h.ks]; simp, h.nd, h.rg, h.src, h.par, fun x hx => by
    rcases List.mem_append.mp hx with hx | hx
    · exact h.all x hx
    · rw [List.mem_singleton.mp hx]; exact ⟨hz, h.got⟩, h.str⟩
theorem Bfs.next {here : Int} (hB : ∀ x : Int, 0 ≤ x → x < n → ∀ y ∈ B x, 0 ≤ y ∧ y < n) (h : Bfs n B left done (here :: line) cm) (hz : ¬ wAt left here < 0) : Bfs n B left (done ++ [here]) (joinS here (B here) (line, cm)).1 (joinS here (B here) (line, cm)).2 := by
  have hr := h.rg here (by rw [h.ks]; simp)
  have := h.mid.join (os := B here) fun o ho => ⟨ho, hB here hr.1 hr.2 o ho⟩
  rw [List.nil_append] at this
  exact this.fin hz
def Wy (B : Int → List Int) (left : List Int) : List Int → Prop
  | [] => False
  | [x] => 0 < wAt left x
  | x :: y :: l => x ∈ B y ∧ Wy B left (y :: l)
theorem Bfs.back (h : Bfs n B left done line cm) : ∀ (t i : Nat) (x : Int) (p : Option Int), cm[i]? = some (x, p) → i < t → Wy B left (x :: backP cm t x) ∧ (x :: backP cm t x).Nodup ∧ ∀ y ∈ backP cm t x, ∃ j, j < i ∧ (keysM cm)[j]? = some y
  | 0, i, x, p, hi, ht => by omega
  | t + 1, i, x, p, hi, ht => by
    have g := get_at h.nd hi
    cases p with
    | none =>
      have e : backP cm (t + 1) x = [] := by
        show (match getM cm x with | some (some v) => v :: backP cm t v | _ => []) = _
        rw [g]
      rw [e]
      exact ⟨h.src i x hi, by simp, by simp⟩
    | some v =>
      obtain ⟨j, j1, j2, j3⟩ := h.par i x v hi
      have jl := (List.getElem?_eq_some_iff.mp j2).1
      rw [keys_len] at jl
      obtain ⟨q, hq⟩ : ∃ q, cm[j]? = some (v, q) := by
        have e1 := List.getElem?_eq_getElem jl
        have j2 : (cm.map (·.1))[j]? = some v := j2
        rw [List.getElem?_map, e1] at j2
        exact ⟨cm[j].2, by rw [e1]; cases j2; rfl⟩
      obtain ⟨w1, w2, w3⟩ := h.back t j v q hq (by omega)
      have e : backP cm (t + 1) x = v :: backP cm t v := by
        show (match getM cm x with | some (some v) => v :: backP cm t v | _ => []) = _
        rw [g]
      rw [e]
      have w4 : ∀ y ∈ v :: backP cm t v, ∃ j', j' < i ∧ (keysM cm)[j']? = some y := fun y hy => by
        rcases List.mem_cons.mp hy with rfl | hy
        · exact ⟨j, j1, j2⟩
        · obtain ⟨a, b, c⟩ := w3 y hy; exact ⟨a, by omega, c⟩
      refine ⟨⟨j3, w1⟩, List.nodup_cons.mpr ⟨fun hx => ?_, w2⟩, w4⟩
      obtain ⟨j', a, b⟩ := w4 x hx
      have xi : (keysM cm)[i]? = some x := by
        show (cm.map (·.1))[i]? = some x
        rw [List.getElem?_map, hi]; rfl
      have := nd_uniq h.nd b xi
      omega
theorem Bfs.found {here : Int} (h : Bfs n B left done (here :: line) cm) : Wy B left (here :: backP cm cm.length here) ∧ (here :: backP cm cm.length here).Nodup ∧ ∀ y ∈ here :: backP cm cm.length here, 0 ≤ y ∧ y < n := by
  have hk : here ∈ keysM cm := by rw [h.ks]; simp
  obtain ⟨i, hi⟩ := List.getElem?_of_mem hk
  have il := (List.getElem?_eq_some_iff.mp hi).1
  rw [keys_len] at il
  obtain ⟨q, hq⟩ : ∃ q, cm[i]? = some (here, q) := by
    have e1 := List.getElem?_eq_getElem il
    have hi : (cm.map (·.1))[i]? = some here := hi
    rw [List.getElem?_map, e1] at hi
    exact ⟨cm[i].2, by rw [e1]; cases hi; rfl⟩
  obtain ⟨a, b, c⟩ := h.back cm.length i here q hq il
  refine ⟨a, b, fun y hy => ?_⟩
  rcases List.mem_cons.mp hy with rfl | hy
  · exact h.rg y hk
  · obtain ⟨j, _, hj⟩ := c y hy; exact h.rg y (List.mem_of_getElem? hj)
end
end Ma
namespace Ma
open Tv
end Ma
namespace Ma
open Tv
end Ma
namespace Ma
open Tv
end Ma

/-! Mc2: payments along ways: what is kept, the end -/
namespace Ma
open Tv
def outG (n : Nat) (g : Gv) (a : Int) : Int := ((rangeL 0 n).map fun b => gAt g (a, b)).sum
def inG (n : Nat) (g : Gv) (b : Int) : Int := ((rangeL 0 n).map fun a => gAt g (a, b)).sum
def vl (n : Nat) (w : List Int) (g : Gv) (x : Int) : Int := if 0 < wAt w x then wAt w x - outG n g x else if wAt w x < 0 then wAt w x + inG n g x else 0
structure Pre (told : Cv) (w : List Int) : Prop where
  tl : told.length = w.length
  wl : w.length ≤ 10
  wb : ∀ x ∈ w, -50 ≤ x ∧ x ≤ 50
  tr : ∀ (b : Int), 0 ≤ b → b < w.length → ∀ x ∈ atC told b, 0 ≤ x ∧ x < w.length
  tz : ∀ (b : Int), 0 ≤ b → b < w.length → (atC told b).length ≤ 1000
structure KeyOk (told : Cv) (w : List Int) (p : Int × Int) : Prop where
  r1 : 0 ≤ p.1 ∧ p.1 < w.length
  r2 : 0 ≤ p.2 ∧ p.2 < w.length
  pos : 0 < wAt w p.1
  neg : wAt w p.2 < 0
  nd : p.2 ∈ atC told p.1
structure Gok (told : Cv) (w : List Int) (g : Gv) : Prop where
  kn : (keysM g).Nodup
  ke : ∀ p ∈ keysM g, KeyOk told w p
  nn : ∀ p, 0 ≤ gAt g p
structure Fl (told : Cv) (w : List Int) (s : List Int × Gv) : Prop extends Gok told w s.2 where
  len : s.1.length = w.length
  lv : ∀ x : Int, 0 ≤ x → x < w.length → wAt s.1 x = vl w.length w s.2 x
  lp : ∀ x : Int, 0 ≤ x → x < w.length → 0 < wAt w x → 0 ≤ wAt s.1 x
  ln : ∀ x : Int, 0 ≤ x → x < w.length → wAt w x < 0 → wAt s.1 x ≤ 0
section
variable {told : Cv} {w : List Int} {g : Gv} {m : Int}
theorem Wy.last {B : Int → List Int} {left : List Int} : ∀ {l : List Int}, Wy B left l → 0 < wAt left (l.getLastD 0) ∧ l.getLastD 0 ∈ l ∧ l.headD 0 ∈ l
  | [x], h => ⟨h, by simp, by simp⟩
  | x :: y :: l, h => by
    have := h.2.last
    have el : (x :: y :: l).getLastD 0 = (y :: l).getLastD 0 := rfl
    rw [el]
    exact ⟨this.1, List.mem_cons_of_mem _ this.2.1, by simp⟩
end
end Ma

/-! Mc3: purses in memory -/
namespace Pv
open PySem PySem.Spec PySem.SeqAt L2 Tv
abbrev key2 (p : Int × Int) : List Key := [.inl p.1, .inl p.2]
def encG (g : Ma.Gv) : List (List Key × V) := g.map fun q => (key2 q.1, V.int q.2)
def optV : Option Int → V
  | none => .non
  | some v => .int v
def encC (cm : Ma.Cam) : List (Key × V) := cm.map fun q => (.inl q.1, optV q.2)
theorem Same.sub {H H' : Hp} (h : Same H H') : Sub H H' := fun a o e => ⟨o, h a o e, rfl⟩
theorem Same.sqT {K : PySem.W.Frag} {H H' : Hp} {a : Addr} {xs : List V} (s : Same H H') (h : SqT K H a xs) : SqT K H' a xs := (Same.sub s).sqT h
theorem Same.upd {H : Hp} {p : Addr} {o : HO} (h : H p = none) : Same H (upd H p o) := fun b u e => by rw [upd_ne (ne_of_none e h)]; exact e
section
variable {X : Cx} {K : PySem.W.Frag}
end
def pfl (tl l f d : Addr) : List (Str × V) := putF "given" (.ref d) (putF "first" (.ref f) (putF "left" (.ref l) (putF "told" (.ref tl) [])))
structure PCl (K : PySem.W.Frag) (C : Addr) : Prop where
  cl : Cls K C
  nT : NoAttr K C "told"
  nL : NoAttr K C "left"
  nF : NoAttr K C "first"
  nG : NoAttr K C "given"
structure PObj (K : PySem.W.Frag) (C : Addr) (told : Ma.Cv) (w : List Int) (B H : Hp) (p l d : Addr) (left : List Int) (g : Ma.Gv) : Prop where
  same : Same B H
  bp : B p = none
  bl : B l = none
  bd : B d = none
  ob : ∃ dx tl f tvs, H p = some (.ins C dx (pfl tl l f d)) ∧ B tl = some (.lst (tvs.map V.ref)) ∧ Paired (fun (r : List Int) t => SqT K B t (r.map V.int)) told tvs ∧ SqT K B f (w.map V.int)
  hl : H l = some (.lst (left.map V.int))
  hd : H d = some (.dT (encG g))
section
variable {K : PySem.W.Frag} {C : Addr} {told : Ma.Cv} {w : List Int} {B H H' : Hp} {p l d : Addr} {left : List Int} {g : Ma.Gv}
theorem PObj.to (h : PObj K C told w B H p l d left g) (s : Same H H') : PObj K C told w B H' p l d left g := by
  obtain ⟨dx, tl, f, tvs, h1, h2, h3, h4⟩ := h.ob
  exact ⟨h.same.trans s, h.bp, h.bl, h.bd, ⟨dx, tl, f, tvs, s _ _ h1, h2, h3, h4⟩, s _ _ h.hl, s _ _ h.hd⟩
end
end Pv
namespace Pv
open PySem PySem.Spec PySem.SeqAt L2 Tv
/-! ### ways -/
structure LAt (H0 H : Hp) (a1 a2 : Addr) (line : List Int) (cm : Ma.Cam) : Prop where
  same : Same H0 H
  n1 : H0 a1 = none
  n2 : H0 a2 = none
  h1 : H a1 = some (.lst (line.map V.int))
  h2 : H a2 = some (.dK (encC cm))
theorem LAt.ne {H0 H : Hp} {a1 a2 : Addr} {line : List Int} {cm : Ma.Cam} (h : LAt H0 H a1 a2 line cm) : a1 ≠ a2 := ne_of h.h1 h.h2 (by intro z; cases z)
theorem LAt.to {H0 H H' : Hp} {a1 a2 : Addr} {line : List Int} {cm : Ma.Cam} (h : LAt H0 H a1 a2 line cm) (s : Same H H') : LAt H0 H' a1 a2 line cm := ⟨h.same.trans s, h.n1, h.n2, s _ _ h.h1, s _ _ h.h2⟩
end Pv
namespace Pv
open PySem PySem.Spec PySem.SeqAt L2 Tv
end Pv
namespace Ma
open Tv
end Ma
namespace Pv
open PySem PySem.Spec PySem.SeqAt L2 Tv
def PrR (H : Hp) (q : Int × Int) (v : V) : Prop := ∃ t : Addr, v = .ref t ∧ H t = some (.tup [.int q.1, .int q.2])
theorem PrR.to {H H' : Hp} (s : Same H H') : ∀ {l : List (Int × Int)} {zs : List V}, Paired (PrR H) l zs → Paired (PrR H') l zs
  | _, _, .nil => .nil
  | _, _, .cons ⟨t, e, h⟩ b => .cons ⟨t, e, s _ _ h⟩ (PrR.to s b)
end Pv
namespace Pv
open PySem PySem.Spec PySem.SeqAt L2 Tv
theorem PrR.upd {H : Hp} {b : Addr} {xs : List V} {o : HO} (h : H b = some (.lst xs)) : ∀ {l : List (Int × Int)} {zs : List V}, Paired (PrR H) l zs → Paired (PrR (L2.upd H b o)) l zs
  | _, _, .nil => .nil
  | _, _, .cons ⟨t, e, z⟩ r => .cons ⟨t, e, by rw [upd_ne (ne_of z h (by intro y; cases y))]; exact z⟩ (PrR.upd h r)
end Pv
namespace Pv
open PySem PySem.Spec PySem.SeqAt L2 Tv
end Pv

/-! PxL: sorted(d), d a dict whose keys are pairs of ints -/
namespace Pv
open PySem PySem.Spec PySem.SeqAt PyProof.Rows L2 Tv
/-! // by great divisors -/
section
variable {X : Cx} {CT : CTab} {a b : Expr} {ma mb : EM} {pos : Pos}
end
end Pv

/-! PxM: a pair and one more -/
namespace Pv
open PySem PySem.Spec L2 Tv
/-! * and // of great ints -/
section
variable {X : Cx} {CT : CTab} {a b : Expr} {ma mb : EM} {pos : Pos}
end
end Pv

/-! PxN: except C as e: x = [e.f] if isinstance(e, D) and isinstance(e, ValueError) else []. -/
namespace Pv
open PySem PySem.Spec PySem.SeqAt L2 PyProof.Rows
section
variable {X : Cx} {CT : CTab} {P : List Nat} {Wx : Option WX} {W : WX}
end
end Pv

/-! PxO: comparisons with a global tuple of texts; == and != of an instance and anything by its class's own __eq__. -/
namespace Pv
open PySem PySem.Spec PySem.SeqAt L2
section
variable {X : Cx} {CT : CTab} {a : Expr} {ma : EM} {p pos : Pos} {n : Nat}
end
/-! == and != of an instance -/
section
variable {prog : Program} {w : World} {A : Around} {E : Value → Shared → Prop} {s : Shared} {K : PySem.W.Frag} {x C L f : Addr} {h₀ : Heap} {m : Str → Option Value} {ox : Obj} {od : Option Obj} {b tb : Value}
end
section
variable {X : Cx} {CT : CTab} {a b : Expr} {ma mb : EM} {j : Nat} {em : Int → Option (Nat × CM)} {pos : Pos}
end
end Pv

/-! TwA: answers that are a value or a list; == and != of instances with anything; comparisons with a global tuple of texts. -/
namespace Tv
open PySem Pv
def sF : D → SV
  | .list l => .own (.lst l)
  | d => .val d
section
variable {ω α β γ : Type} {R R1 R2 : ω → Rho} {me ma mb : EM} {ra : α → Rv} {rb : β → Rv} {Ta : PT α} {Tb : PT β}
/-! exceptions with their fields, from a class's maker -/
end
end Tv

/-! PxP: for k, v in d.items(), keys of any kind. -/
namespace Pv
open PySem PySem.Spec PySem.SeqAt L2 PyProof.Rows
section
variable {X : Cx} {pins : List (Addr × Obj)} {σ : L2.St} {H : Hp} {s : Shared} {d : Addr} {o : Obj}
end
section
variable {P : Program} {w : World} {K : PySem.W.Frag} {tg : Expr} {d : Addr} {o : Obj} {es : Array DictEntry} {ep : Nat}
end
section
variable {X : Cx} {tg e : Expr} {td : TE} {apos cpos : Pos}
end
/-! ### the pairs of a dict -/
section
variable {X : Cx} {CT : CTab} {P ts : List Nat} {elts : List Expr} {kk : Nat} {tpos : Pos} {body : List Stmt} {mg : GM} {mb : SM} {x : Str}
end
end Pv

/-! PxQ: sorted(d, key=f), sum(d.values()), d a dict whose keys are tuples. -/
namespace Pv
open PySem PySem.Spec PySem.SeqAt L2 PySem.W PyProof.Rows
section
variable {prog : Program} {w : World} {A : Around} {E : Value → Shared → Prop} {s : Shared} {T : String} {r d : Addr} {n : Nat} {P : Nat → Value → Prop} {OK : Heap → Prop}
end
/-! the node -/
end Pv

/-! PxR: sum(d.values()), d a dict whose keys are tuples; d == {}. -/
namespace Pv
open PySem PySem.Spec PySem.SeqAt L2 PyProof.Rows
open PySem.Calls
section
variable {prog : Program} {w : World} {A : Around} {E : Value → Shared → Prop} {s : Shared} {T : String} {r d : Addr} {n : Nat} {P : Nat → Value → Prop} {OK : Heap → Prop} {Q : Value → Shared → Prop}
end
section
variable {X : Cx} {CT : CTab} {e : Expr} {td : TE} {me : EM} {p pos apos cpos : Pos}
end
/-! d == {} -/
section
variable {prog : Program} {w : World} {A : Around} {E : Value → Shared → Prop} {s : Shared}
end
section
variable {X : Cx} {CT : CTab} {e : Expr} {td : TE} {me : EM} {pos p2 : Pos}
end
end Pv

/-! PxS: x += e, x -= e of ints. -/
namespace Pv
open PySem PySem.Spec PySem.SeqAt L2
section
variable {X : Cx} {CT : CTab} {P : List Nat} {Wx : Option WX} {e : Expr} {me : EM} {pos pos' : Pos}
end
end Pv

/-! TwB: the pairs of a dict, its values' sum, its keys sorted by a def, whether it is empty; x += e; comparisons with a global tuple of texts. -/
namespace Tv
open PySem Pv
section
variable {κ β : Type} [DecidableEq κ] {t : Bool} {kf : κ → List Int} {ek : κ → D} {e : β → D}
end
/-! comparisons with a global tuple of texts -/
end Tv

/-! PxT: sorted(list of tuples), none of them empty or the first one empty. -/
namespace Pv
open PySem PySem.Spec PySem.SeqAt L2
end Pv

/-! TwC: sorted(list of tuples), none of them empty or the first one empty. -/
namespace Tv
open PySem Pv
end Tv

/-! PxU: except C as e: x = (e.f,). -/
namespace Pv
open PySem PySem.Spec PySem.SeqAt L2 PyProof.Rows
section
variable {X : Cx} {CT : CTab} {P : List Nat} {Wx : Option WX} {W : WX}
end
end Pv

/-! PxV: l.count(x), items of any kind. -/
namespace Pv
open PySem PySem.Spec PySem.SeqAt L2 PyProof.Rows
section
variable {X : Cx} {CT : CTab} {e : Expr} {mr : AM} {p pos : Pos}
end
end Pv

/-! TwD: except C as e: x = (e.f,); l.count(x). -/
namespace Tv
open PySem Pv
section
variable {pay : Pay} {ω α β γ δ : Type} {me ma mb : EM} {R R1 : ω → Rho} {s : α → SV} {sr : γ → SV} {T : PT (α ⊕ Str)}
end
end Tv

/-! PxW: for v in d.values(), keys of any kind. -/
namespace Pv
open PySem PySem.Spec PySem.SeqAt L2 PyProof.Rows
section
variable {P : Program} {w : World} {K : PySem.W.Frag} {tg : Expr} {d : Addr} {o : Obj} {es : Array DictEntry} {ep : Nat}
end
section
variable {X : Cx} {tg e : Expr} {td : TE} {apos cpos : Pos}
end
section
variable {X : Cx} {CT : CTab} {P ts : List Nat} {tg : Expr} {body : List Stmt} {mg : GM} {mb : SM} {x : Str}
end
end Pv

/-! TwE: the values of a dict, walked; (*pair, x). -/
namespace Tv
open PySem Pv
end Tv

/-! PxX: xs[i] -= e; x, xs[i] = e. -/
namespace Pv
open PySem PySem.Spec PySem.SeqAt L2
section
variable {X : Cx} {CT : CTab} {P : List Nat} {Wx : Option WX} {a e : Expr} {ma me : EM} {p tpos pos : Pos}
end
section
variable {X : Cx} {CT : CTab} {P : List Nat} {Wx : Option WX} {b e : Expr} {m2 me : EM}
end
end Pv

/-! TwF: xs[i] -= e; x, xs[i] = e. -/
namespace Tv
open PySem Pv
section
variable {ω γ δ : Type} {me m1 m2 : EM} {R R1 : ω → Rho}
end
end Tv

/-! PxY: text.split(sep), sep.join(texts). -/
namespace Pv
open PySem PySem.Spec PySem.SeqAt L2 PyProof.Rows
section
variable {X : Cx} {CT : CTab} {e o : Expr} {mo : EM} {mr : AM} {p pos : Pos}
end
section
variable {X : Cx} {CT : CTab} {e o : Expr} {mo : EM} {mr : AM} {p pos : Pos}
end
end Pv

/-! TwG: text.split(sep), sep.join(texts). -/
namespace Tv
open PySem Pv
end Tv

/-! PxZ: text * int, text + text. -/
namespace Pv
open PySem PySem.Spec PySem.SeqAt L2 PyProof.Rows
section
variable {X : Cx} {CT : CTab} {a b : Expr} {ma mb : EM} {pos : Pos}
end
end Pv

/-! TwH: text * int, text + text. -/
namespace Tv
open PySem Pv
end Tv

/-! PyA: B.__init__(self, ..), B an own class over ValueError that has no __init__ of its own. -/
namespace L2
open PySem PySem.Spec PyProof.Rows
section
variable {X : Cx} {e : Expr} {es : List Expr} {ta : TA} {p1 p2 pos : Pos} {x : Str} {B : Addr}
def pinB (K : PySem.W.Frag) (B : Addr) : Bool := decide (PySem.W.specialIn K (.ref B) "__getattribute__" = some (some (.builtin "type.__getattribute__"))) && PySem.W.readsIn K B (.type "type")
end
end L2

/-! PyB: an own exception class whose __init__ says B.__init__(self, 'text'); self.f = a; self.g = b. -/
namespace Pv
open PySem PySem.Spec PySem.SeqAt L2 PyProof.Rows
structure JC (K : PySem.W.Frag) (C BA : Addr) (f1 f2 : Str) : Prop where
  T : OexC K C
  f1 : PySem.W.findIn K (.ref C) f1 = some none
  f2 : PySem.W.findIn K (.ref C) f2 = some none
  b : pinB K BA = true
  v : PySem.W.findCls K (.ref BA) (.type "type") "__init__" = some (.val (.builtin "ValueError.__init__"))
def pinFB (K : PySem.W.Frag) (B x1 x2 f1 f2 : Str) : FuncData → Bool
  | ⟨_, qn, ⟨[], [⟨a0, _, _⟩, ⟨a1, _, _⟩, ⟨a2, _, _⟩], none, [], [], none, []⟩, .stmts [.Expr (.Call (.Attribute (.Name bn p1) ini p2) [.Name s0 p3, .Constant (.str tx) u q0] [] p4) p5, .Assign [.Attribute (.Name s1 p6) g1 p7] (.Name y1 p8) p9, .Assign [.Attribute (.Name s2 p10) g2 p11] (.Name y2 p12) p13], sc, gl, [], .none, _, _, _, _, cda, _, bi⟩ =>
    decide (a0 = "self") && (decide (a1 = x1) && (decide (a2 = x2) && (decide (bn = B) && (decide (ini = "__init__") && (decide (s0 = "self") && (decide (s1 = "self") && (decide (s2 = "self") && (decide (g1 = f1) && (decide (g2 = f2) && (decide (y1 = x1) && (decide (y2 = x2) &&
    (decide (gl = mainGlobals) && (decide (bi = builtinsNs) && (PySem.W.codeIn K cda qn && (decide (p4.line = p2.endLine) && (decide (sc.kind = .function) && (decide (sc.isCoroutine = false) && (decide (sc.isGenerator = false) && (decide (sc.names.lookup B = some .globalImplicit) &&
    (decide (sc.names.lookup ("self" : Str) = some .local) && (decide (sc.names.lookup x1 = some .local) && (decide (sc.names.lookup x2 = some .local) && (sc.names.all fun y => decide (y.2 ≠ .free))))))))))))))))))))))))
  | _ => false
def valB : Option PySem.W.CFound → Bool
  | some (.val (.builtin n)) => decide (n = "ValueError.__init__")
  | _ => false
def jcB (K : PySem.W.Frag) (C BA : Addr) (f1 f2 : Str) : Bool :=
  oexB K C && (He.eqO (PySem.W.findIn K (.ref C) "__setattr__") (some (some (.builtin "object.__setattr__"))) && (decide (PySem.W.subIn K (.ref C) (.type "BaseException") = some true) && (decide (PySem.W.typeIn K (.ref C) = some (.type "type")) && (PySem.W.keepIn K (.ref C) &&
  (He.eqO (PySem.W.findIn K (.ref C) f1) (some none) && (He.eqO (PySem.W.findIn K (.ref C) f2) (some none) && (pinB K BA && valB (PySem.W.findCls K (.ref BA) (.type "type") "__init__"))))))))
def pjB (K : PySem.W.Frag) (x f1 f2 : Str) : Bool := (jcB K (He.ga K x) (He.ga K "PitError") f1 f2 && xfB K (He.ga K x)) && (match PySem.W.findIn K (.ref (He.ga K x)) "__init__" with
  | some (some (.ref fI)) => decide (PySem.W.typeIn K (.ref fI) = some (.type "function")) && (match K.lookup fI with
    | some ⟨_, _, .func fd, _⟩ => pinFB K "PitError" "line" "word" f1 f2 fd
    | _ => false)
  | _ => false)
section
variable {X : Cx} {CT : CTab} {P : List Nat} {Wx : Option WX} {W : WX}
end
end Pv

/-! PyC: except C as e: x = (e.f1, e.f2) if isinstance(e, D) else 's'. -/
namespace Pv
open PySem PySem.Spec PySem.SeqAt L2 PyProof.Rows
section
variable {X : Cx} {CT : CTab} {P : List Nat} {Wx : Option WX} {W : WX}
end
structure FxJ (l : List (Str × Str × Str)) (fa : List He.Fa) (fn : List He.DefD) (cs : ClsT) (K : PySem.W.Frag) (mg : Str → Option Value) : Prop extends Fx fa fn cs K mg where
  pj : (l.all fun z => pjB K z.1 z.2.1 z.2.2) = true
abbrev exJ (cs : ClsT) (l : List (Str × Str × Str)) (K : PySem.W.Frag) : Bool := exK cs K && l.all fun z => pjB K z.1 z.2.1 z.2.2
theorem FxJ.of {l : List (Str × Str × Str)} {fa : List He.Fa} {fn : List He.DefD} {cs : ClsT} {K : PySem.W.Frag} {mg : Str → Option Value} {w : World} {h : Heap} (X : K.In h) (G : h.Ns mainGlobals mg) (c : He.SaysX fa fn [] [] (exJ cs l) w h K) : FxJ l fa fn cs K mg :=
  ⟨Fx.of X G ⟨c.t, (He.ba c.more).1, c.hd, c.out, c.empty⟩, (He.ba c.more).2⟩
end Pv

/-! PyD: x.append(what may raise). -/
namespace Pv
open PySem PySem.Spec PySem.SeqAt L2 PyProof.Rows
section
variable {X : Cx} {CT : CTab} {W : WX} {e : Expr} {me : EM} {pos p : Pos}
end
end Pv

/-! TwI: what may raise, the fields told by the run (twi.py printed most of it). -/
namespace Tv
open PySem Pv
section
variable {ω α β γ δ : Type} {me : EM} {R R1 R2 : ω → Rho} {s : α → SV} {s' : γ → SV} {sr : γ → SV} {T : PT (α ⊕ Xp)} {io : Bool} {out : γ → ω → SV} {K : δ → ω → Rho}
end
end Tv

/-! PyE: own exception classes whose __init__ only keeps what it is handed: self.f = x, or self.f = x; self.g = y. -/
namespace Pv
open PySem PySem.Spec PySem.SeqAt L2 PyProof.Rows
structure NjC (K : PySem.W.Frag) (C : Addr) (f1 f2 : Str) : Prop where
  T : OexC K C
  f1 : PySem.W.findIn K (.ref C) f1 = some none
  f2 : PySem.W.findIn K (.ref C) f2 = some none
def n1FB (K : PySem.W.Frag) (f1 : Str) : FuncData → Bool
  | ⟨_, qn, ⟨[], [⟨a0, _, _⟩, ⟨a1, _, _⟩], none, [], [], none, []⟩, .stmts [.Assign [.Attribute (.Name s1 p6) g1 p7] (.Name y1 p8) p9], sc, gl, [], .none, _, _, _, _, cda, _, bi⟩ =>
    decide (a0 = "self") && (decide (s1 = "self") && (decide (g1 = f1) && (decide (y1 = a1) && (decide (a1 = "index") &&
    (decide (gl = mainGlobals) && (decide (bi = builtinsNs) && (PySem.W.codeIn K cda qn && (decide (sc.kind = .function) && (decide (sc.isCoroutine = false) && (decide (sc.isGenerator = false) &&
    (decide (sc.names.lookup ("self" : Str) = some .local) && (decide (sc.names.lookup ("index" : Str) = some .local) && (sc.names.all fun y => decide (y.2 ≠ .free))))))))))))))
  | _ => false
def n2FB (K : PySem.W.Frag) (f1 f2 : Str) : FuncData → Bool
  | ⟨_, qn, ⟨[], [⟨a0, _, _⟩, ⟨a1, _, _⟩, ⟨a2, _, _⟩], none, [], [], none, []⟩, .stmts [.Assign [.Attribute (.Name s1 p6) g1 p7] (.Name y1 p8) p9, .Assign [.Attribute (.Name s2 p10) g2 p11] (.Name y2 p12) p13], sc, gl, [], .none, _, _, _, _, cda, _, bi⟩ =>
    decide (a0 = "self") && (decide (a1 = "arm") && (decide (a2 = "place") && (decide (s1 = "self") && (decide (s2 = "self") && (decide (g1 = f1) && (decide (g2 = f2) && (decide (y1 = "arm") && (decide (y2 = "place") &&
    (decide (gl = mainGlobals) && (decide (bi = builtinsNs) && (PySem.W.codeIn K cda qn && (decide (sc.kind = .function) && (decide (sc.isCoroutine = false) && (decide (sc.isGenerator = false) &&
    (decide (sc.names.lookup ("self" : Str) = some .local) && (decide (sc.names.lookup ("arm" : Str) = some .local) && (decide (sc.names.lookup ("place" : Str) = some .local) && (sc.names.all fun y => decide (y.2 ≠ .free)))))))))))))))))))
  | _ => false
def ncB (K : PySem.W.Frag) (C : Addr) (f1 f2 : Str) : Bool :=
  oexB K C && (He.eqO (PySem.W.findIn K (.ref C) "__setattr__") (some (some (.builtin "object.__setattr__"))) && (decide (PySem.W.subIn K (.ref C) (.type "BaseException") = some true) && (decide (PySem.W.typeIn K (.ref C) = some (.type "type")) && (PySem.W.keepIn K (.ref C) &&
  (He.eqO (PySem.W.findIn K (.ref C) f1) (some none) && He.eqO (PySem.W.findIn K (.ref C) f2) (some none))))))
def njB (K : PySem.W.Frag) (x f1 f2 : Str) : Bool := (ncB K (He.ga K x) f1 f2 && xfB K (He.ga K x)) && (match PySem.W.findIn K (.ref (He.ga K x)) "__init__" with
  | some (some (.ref fI)) => decide (PySem.W.typeIn K (.ref fI) = some (.type "function")) && (match K.lookup fI with
    | some ⟨_, _, .func fd, _⟩ => if f2 = "" then n1FB K f1 fd else n2FB K f1 f2 fd
    | _ => false)
  | _ => false)
section
variable {X : Cx} {CT : CTab} {P : List Nat} {Wx : Option WX} {W : WX}
end
structure FxN (l : List (Str × Str × Str)) (fa : List He.Fa) (fn : List He.DefD) (cs : ClsT) (K : PySem.W.Frag) (mg : Str → Option Value) : Prop extends Fx fa fn cs K mg where
  nj : (l.all fun z => njB K z.1 z.2.1 z.2.2) = true
abbrev exN (cs : ClsT) (l : List (Str × Str × Str)) (K : PySem.W.Frag) : Bool := exK cs K && l.all fun z => njB K z.1 z.2.1 z.2.2
theorem FxN.of {l : List (Str × Str × Str)} {fa : List He.Fa} {fn : List He.DefD} {cs : ClsT} {K : PySem.W.Frag} {mg : Str → Option Value} {w : World} {h : Heap} (X : K.In h) (G : h.Ns mainGlobals mg) (c : He.SaysX fa fn [] [] (exN cs l) w h K) : FxN l fa fn cs K mg :=
  ⟨Fx.of X G ⟨c.t, (He.ba c.more).1, c.hd, c.out, c.empty⟩, (He.ba c.more).2⟩
end Pv

/-! PyF: what may raise, frozen where it is made. -/
namespace Pv
open PySem PySem.Spec PySem.SeqAt L2
end Pv

/-! PyG: f(.., raising): the last argument may raise. -/
namespace Pv
open PySem PySem.Spec PySem.SeqAt L2
section
variable {X : Cx} {CT : CTab} {W : WX} {x : Str} {p pos : Pos} {a b e : Expr} {f : Addr} {io : Bool} {np j : Nat} {cm : CM} {ma mb me : EM}
end
end Pv

/-! TwJ: errors with one field told by the run; return [s, e.f]. -/
namespace Tv
open PySem Pv
section
variable {ω α β γ δ : Type} {me ma mb : EM} {R R1 : ω → Rho} {s : α → SV} {sr : γ → SV} {T : PT (α ⊕ Xp)}
end
section
variable {ω α β δ1 δ2 γ σ : Type} {mt : TM} {m1 m2 n : SM} {R R1 : ω → Rho} {K1 : δ1 → ω → Rho} {K2 : δ2 → ω → Rho} {KL : σ → ω → Rho} {io esc : Bool} {ks : List Nat} {s : γ → SV} {out : γ → ω → SV} {Tt : PT Bool} {T1 : PT δ1} {T2 : PT δ2} {Tl : δ1 → PT (Stp σ γ)} {Tr : δ2 → PT (Stp σ γ)}
end
end Tv

/-! PyH: tuples that have no attributes of their own: t.index(n); tuple(range(n)), tuple(list) known as such. -/
namespace L2
open PySem PySem.Spec PyProof.Rows
section
variable {X : Cx}
variable {o e : Expr} {to : TE} {t : TA} {apos cpos : Pos}
end
end L2
namespace Pv
open PySem PySem.Spec PySem.SeqAt L2
section
variable {X : Cx} {CT : CTab} {a e : Expr} {ma me : EM} {p pos p2 pos2 apos : Pos}
end
end Pv

/-! TwK: tuples known to have no attributes of their own. -/
namespace Tv
open PySem Pv
section
variable {ω α β γ δ : Type} {ma me : EM} {R R1 : ω → Rho} {e : α → D}
def eXt (e : α → D) (l : List α) : D := tpD (l.map e)
end
end Tv

/-! PyI: more of tuples that have no attributes of their own: displays, sums, parts, in. -/
namespace L2
open PySem PySem.Spec PyProof.Rows HT
section
variable {X : Cx}
end
end L2
namespace Pv
open PySem PySem.Spec PySem.SeqAt L2
section
variable {X : Cx} {CT : CTab} {a b : Expr} {ma mb : EM} {es : List Expr} {mr : AM} {pos p2 : Pos} {n : Nat}
end
end Pv

/-! TwL: displays, sums, parts of tuples without attributes. -/
namespace Tv
open PySem Pv
section
variable {ω α β γ δ : Type} {ma me : EM} {ms : AM} {R R1 R2 : ω → Rho} {rs : α → List Rv} {Ts : PT α} {e : α → D}
end
end Tv

/-! PyJ: dicts whose keys are nested tuples of numbers. -/
namespace Pv
open PySem PySem.Spec L2
mutual
theorem nk_ok {k : Kx} {F H : Hp} (s : Sub F H) : ∀ {v : V} {d : D} {x : NestedKey}, Rep k F v d → nkD d = some x → NKey H x v
  | _, _, _, .int i, h => by
    simp only [nkD, Option.some.injEq] at h
    subst h; exact .num i
  | _, .tuple xs, _, .tup e r, h => by
    simp only [nkD, Option.map_eq_some_iff] at h
    obtain ⟨ks, h1, rfl⟩ := h
    exact .tup (s.ex e) (nks_ok s r h1)
  | _, _, _, .non, h => by simp [nkD] at h
  | _, _, _, .bl _, h => by simp [nkD] at h
  | _, _, _, .str _, h => by simp [nkD] at h
  | _, _, _, .lst _ _, h => by simp [nkD] at h
  | _, _, _, .fls _ _, h => by simp [nkD] at h
  | _, _, _, .obj _ _ _ _ _, h => by simp [nkD] at h
  | _, _, _, .dnil _, h => by simp [nkD] at h
  | _, _, _, .dct _ _ _, h => by simp [nkD] at h
  | _, _, _, .fn _, h => by simp [nkD] at h
  | _, _, _, .nfn _ _ _, h => by simp [nkD] at h
  | _, _, _, .dcn _ _ _ _, h => by simp [nkD] at h
  | _, _, _, .xt _ _, h => by simp [nkD] at h
theorem nks_ok {k : Kx} {F H : Hp} (s : Sub F H) : ∀ {vs : List V} {ds : List D} {xs : List NestedKey}, RepL k F vs ds → nkDs ds = some xs → NKeys H xs vs
  | _, _, _, .nil, h => by
    simp only [nkDs, Option.some.injEq] at h
    subst h; exact .nil
  | _, _, _, .cons a b, h => by
    simp only [nkDs] at h
    obtain ⟨x, h1, h2⟩ := Option.bind_eq_some_iff.mp h
    obtain ⟨xs, h3, rfl⟩ := Option.map_eq_some_iff.mp h2
    exact .cons (nk_ok s a h1) (nks_ok s b h3)
end
theorem nkE_some {d : D} {x : NestedKey} (h : nkE d = some x) : nkD d = some x ∧ x.depth ≤ 8 := by
  unfold nkE at h
  obtain ⟨y, h1, h2⟩ := Option.bind_eq_some_iff.mp h
  split at h2
  · cases h2; exact ⟨h1, by assumption⟩
  · cases h2
theorem nOk_of {k : Kx} {F H : Hp} (s : Sub F H) : ∀ {es : Ents} {ks : List D}, nkL ks = some (es.map (·.1)) → RepL k F (es.map fun e => .ref e.2.1) ks → NOk H es
  | [], _, _, _ => fun p hp => nomatch hp
  | e :: es, d :: ks, h, .cons a b => by
    simp only [nkL] at h
    obtain ⟨x, h1, h2⟩ := Option.bind_eq_some_iff.mp h
    obtain ⟨xs, h3, h4⟩ := Option.map_eq_some_iff.mp h2
    have h4 : x :: xs = e.1 :: es.map (·.1) := h4
    injection h4 with h5 h6
    subst h5; subst h6
    obtain ⟨h7, h8⟩ := nkE_some h1
    intro p hp
    rcases List.mem_cons.mp hp with rfl | hp
    · exact ⟨nk_ok s a h7, h8⟩
    · exact nOk_of s h3 b p hp
theorem RdR.dcn {k : Kx} {F H : Hp} {v : V} {ks ds : List D} (s : Sub F H) (h : RdR k F H v (dcnD ks ds)) : ∃ a es, v = .ref a ∧ H a = some (DN a es) ∧ nkL ks = some (es.map (·.1)) ∧ NOk H es ∧ RepL k F (es.map (·.2.2)) ds := by
  rcases h with h | ⟨q, o, ho, rfl, h1, h2, e⟩
  · cases h with
    | dcn h e r1 r2 => exact ⟨_, _, rfl, s.ex h, e, nOk_of s e r1, r2⟩
  · cases o with
    | lst ys => cases e
    | ins c fs => cases e
    | dct t' ks ds' => cases e
    | dcn ks ds =>
      cases e
      obtain ⟨es, rfl, e, r1, r2⟩ := h2
      exact ⟨q, es, rfl, h1, e, nOk_of s e r1, r2⟩
def tupB' : D → Bool
  | .tuple _ => true
  | _ => false
section
variable {X : Cx} {CT : CTab} {a b : Expr} {ma mb : EM} {pos : Pos}
end
/-! d[y] = v -/
section
variable {X : Cx} {CT : CTab} {P : List Nat} {Wx : Option WX} {o i value : Expr} {mk mv : EM} {pos pos' : Pos}
end
end Pv
/-! TwM: dicts whose keys are nested tuples of numbers. -/
namespace Tv
open PySem Pv
structure KyN {κ : Type} (ek : κ → D) (nk : κ → NestedKey) : Prop where
  key : ∀ k, nkE (ek k) = some (nk k)
  inj : ∀ a b, nk a = nk b → a = b
  tup : ∀ k, tupB' (ek k) = true
section
variable {κ β : Type} [DecidableEq κ] {ek : κ → D} {nk : κ → NestedKey} {e : β → D}
end
end Tv

/-! TwN: defs that change their last argument and answer nothing. -/
namespace Tv
open PySem Pv
section
variable {ω α β γ : Type} {m m1 m2 n : SM} {mt : TM} {R R1 : ω → Rho} {K : α → ω → Rho} {T : PT α} {Tt : PT Bool} {q : Nat} {out : γ → SV}
end
end Tv

/-! PyK: except C as e: return ['s', e.f], of errors whose __init__ calls super's. -/
namespace Pv
open PySem PySem.Spec PySem.SeqAt L2 PyProof.Rows
section
variable {X : Cx} {CT : CTab} {P : List Nat} {Wx : Option WX} {W : WX}
end
end Pv

/-! PyL: raising[key] of dicts. -/
namespace Pv
open PySem PySem.Spec PySem.SeqAt L2 PyProof.Rows
section
variable {X : Cx} {CT : CTab} {W : WX} {a b : Expr} {ma mb : EM} {pos : Pos}
end
end Pv

/-! TwO: answers that are a value, or a list of what was raised; == and != of such answers. -/
namespace Tv
open PySem Pv
section
variable {ω α : Type} {me : EM} {R R1 : ω → Rho} {T : PT (α ⊕ Xp)}
end
section
variable {ω γ : Type} {mt : TM} {m1 n : SM} {R R1 : ω → Rho} {io : Bool} {s : γ → SV} {out : γ → ω → SV} {Tt : PT Bool} {Tf Tr : PT γ}
end
end Tv

/-! TwP: defs that answer a value and change their last argument. -/
namespace Tv
open PySem Pv
section
variable {ω α β γ : Type} {m m1 m2 n : SM} {mt : TM} {R R1 : ω → Rho} {K : α → ω → Rho} {T : PT α} {Tt : PT Bool} {q : Nat} {fv : γ → D} {out : γ → SV}
end
section
variable {ω α : Type} {ms : AM} {R R1 : ω → Rho} {rs : α → List Rv} {Ts : PT α}
end
section
variable {ω α β σ δ : Type}
end
end Tv

/-! PyM: str of data; defs that lean on nothing being shown meanwhile (guards). -/
namespace Pv
open PySem PySem.Spec PySem.SeqAt L2 PyProof.Rows
structure FnG (P : Program) (w : World) (K : PySem.W.Frag) (mg : Str → Option Value) (base : Heap) (CX : CXT) (k : Nat) (f : Addr) (fd : FuncData) (ps : List Str) (sp : Sp) : Prop where
  len : ∀ vs H Q E, sp vs H Q E → vs.length = ps.length
  run : ∀ (A : Around) (outer : List Env) (s : Shared) (H : Hp) (args : Args) (us : List Value) (vs : List V) (Q : VK) (E : XK), A.guards = some [] → Room k A → Env0 P w K mg base A outer s H → BindsTo s fd args (ps.zip us) → Vals vs us → sp vs H Q E → codeAny (model P w) A (.call (.ref f) args) (CR CX outer P w H s Q E) s
section
variable {P : Program} {w : World} {K : PySem.W.Frag} {mg : Str → Option Value} {base : Heap} {x qual : Str} {params : Arguments} {body : List Stmt} {scope : Scope} {f : Addr} {fd : FuncData} {CX : CXT} {k : Nat} {sp : Sp} {N ps : List Str}
theorem FnG.of (h : FnOk P w K mg base CX k f fd ps sp) : FnG P w K mg base CX k f fd ps sp := ⟨h.len, fun A o s H a us vs Q E _ => h.run A o s H a us vs Q E⟩
theorem FnG.mono {j : Nat} (h : FnG P w K mg base CX j f fd ps sp) (z : j ≤ k) : FnG P w K mg base CX k f fd ps sp := ⟨h.len, fun A o s H a us vs Q E hg hr => h.run A o s H a us vs Q E hg (hr.mono z)⟩
theorem FnG.made (F : FunD K x qual params body scope [] [] f fd) (S : FnScope N ps scope) (len : ∀ vs H Q E, sp vs H Q E → vs.length = ps.length) (hb : ∀ (cd : Value) (A : Around) (o : List Env) (s : Shared) (H : Hp) (vs : List V) (Q : VK) (E : XK), A.guards = some [] → Room k (A.deeper (envOfC qual scope s.heap.objs.size f cd)) → sp vs H Q E → ∃ t, PSs (cxOf CX P w K mg base N qual scope f cd A o s H E) body t ∧ t { nx := fun _ H' => Q .non H', rt := Q } (start N vs) H) : FnG P w K mg base CX (k + 1) f fd ps sp := by
  obtain ⟨oc, od, dV, kV, doc, pm, an, cd, ct, osl, rfl, lk, hcd, _, _⟩ := F.ex
  refine ⟨len, fun A o s H a us vs Q E hg hr e0 hbi r hsp => ?_⟩
  have KX : K.In s.heap := e0.mod.kin.keeps fun b ob e => (e0.bs b ob e).1
  have nl : s.heap.NoLimit := e0.mod.nolimit.keeps fun b ob e => (e0.bs b ob e).1
  refine codeAny_call_function hr.depth (KX _ _ lk) rfl S.co S.gen rfl (PySem.W.codeRec_of KX hcd) (hbi _ _ _ _ (wpAny_newFunctionEnv_cells S.kind (fun ⟨n, v⟩ hy => ?_) fun env he s1 z => ?_))
  · rcases S.par n (List.of_mem_zip hy).1 with q | q
    · exact .inl q
    · exact .inr ⟨q, PySem.W.cellsFrom_some _ _ _ (.inl q)⟩
  · subst he
    refine ⟨nl.keeps z.toInCall.keep, codeAny_func ?_⟩
    obtain ⟨t, ht, hq⟩ := hb cd A o s H vs Q E hg (hr.deeper _) hsp
    refine wpAny_mono (ht.run [] s1 (start N vs) H _ (inv_start S hr.hd e0 (len _ _ _ _ hsp) r z) hq) (fun fl s' hs => ?_) (fun e s' hs => hs)
    cases fl with
    | ret u => obtain ⟨v, _, H', J, rv, q⟩ := hs; exact ⟨v, H', J.os, J.bare, J.base, J.hok, rv, q⟩
    | next => obtain ⟨_, H', J, q⟩ := hs; exact ⟨.non, H', J.os, J.bare, J.base, J.hok, rfl, q⟩
    | brk => obtain ⟨_, _, _, q⟩ := hs; exact q.elim
    | cont => obtain ⟨_, _, _, q⟩ := hs; exact q.elim
end
section
variable {X : Cx} {CT : CTab} {f : Addr} {io : Bool} {np j : Nat} {cm : CM} {x : Str} {p pos : Pos} {e : Expr} {es : List Expr} {mr : AM} {CX : CXT} {k : Nat} {fd : FuncData} {ps : List Str} {sp : Sp} {E : XK} {t : TA}
end
/-! str -/
end Pv

/-! PyN: the end of a law whose defs lean on nothing being shown (PyM). -/
namespace Pv
open PySem PySem.Spec PySem.SeqAt L2 PyProof.Rows
section
variable {P : Program} {w : World} {K : PySem.W.Frag} {mg mb : Str → Option Value} {k : Nat} {fa a : Addr} {fd : FuncData} {x : Str} {sp : Sp} {s1 : Shared} {vs : List Value} {ns : List Int}
end
end Pv

/-! PyO: min of three ints. -/
namespace Pv
open PySem PySem.Spec PySem.SeqAt L2 PyProof.Rows
end Pv

/-! TwQ: str of data. -/
namespace Tv
open PySem Pv
end Tv

/-! TwR: a slice from a place that is found. -/
namespace Tv
open PySem Pv
end Tv

/-! PyP: methods of frozen instances. -/
namespace Pv
open PySem PySem.Spec L2
section
variable {X : Cx} {CT : CTab} {C f : Addr} {m : Str} {io : Bool} {np j k : Nat} {cm : CM} {CX : CXT} {fd : FuncData} {ps : List Str} {sp : Sp} {E : XK} {o e : Expr} {es : List Expr} {ta : TE} {t : TA} {apos pos : Pos} {mo : EM} {mr : AM}
end
end Pv

/-! TwS: methods of frozen instances. -/
namespace Tv
open PySem Pv
instance {α : Type} {e : α → D} : NN (eXt e) := ⟨fun _ h => nomatch h⟩
end Tv

/-! PyQ: sorted(d), d a dict whose keys are tuples of ints -/
namespace Pv
open PySem PySem.Spec PySem.SeqAt PyProof.Rows L2 Tv
end Pv

/-! PyR: list(enumerate(x)) -/
namespace Pv
open PySem
abbrev EnR (h : Heap) (e it : Addr) (i : Int) (p : Value) (b : Bool) (old : Value) : Prop := h.get? e = some { cls := .type "enumerate", dict := none, data := .fields #[p, .bool b, .ref it, rawInt i, .none, old], slots := #[] }
def EnA (h : Heap) (e it S : Addr) (i : Int) : Prop := ∃ p b old, EnR h e it i p b old ∧ ((p = .none ∧ b = false) ∨ ∃ (T : Addr) (o : Obj), p = rawInt T ∧ h.get? T = some o ∧ T ≠ e ∧ T ≠ it ∧ T ≠ S)
theorem EnA.same {h h' : Heap} {e it S : Addr} {i : Int} (x : EnA h e it S i) (k : ∀ b o, b ≠ S → h.get? b = some o → h'.get? b = some o) (hS : S ≠ e) : EnA h' e it S i := by
  obtain ⟨p, b, old, r, q⟩ := x
  refine ⟨p, b, old, k e _ hS.symm r, q.imp id fun ⟨T, o, e1, e2, n1, n2, n3⟩ => ⟨T, o, e1, k T o n3 e2, n1, n2, n3⟩⟩
section
variable {prog : Program} {w : World} {A : Around} {E : Value → Shared → Prop} {s : Shared} {e it S : Addr} {fp : List Addr} {n i : Nat} {P : Nat → Value → Prop} {St : Nat → Heap → Prop}
end
section
variable {prog : Program} {w : World} {A : Around} {E : Value → Shared → Prop} {s : Shared} {e it S : Addr} {fp : List Addr} {n i : Nat} {P : Nat → Value → Prop} {St : Nat → Heap → Prop}
end
end Pv

namespace Pv
open PySem PySem.Spec PySem.SeqAt PyProof.Rows L2
inductive NewPs : Nat → Hp → List V → List Addr → Hp → Prop
  | nil {i : Nat} {H : Hp} : NewPs i H [] [] H
  | cons {i : Nat} {H H2 : Hp} {x : V} {xs : List V} {T : Addr} {ps : List Addr} : H T = none → NewPs (i + 1) (upd H T (.tup [.int (i : Nat), x])) xs ps H2 → NewPs i H (x :: xs) (T :: ps) H2
theorem NewPs.up {i : Nat} {H H2 : Hp} {xs : List V} {ps : List Addr} (n : NewPs i H xs ps H2) : ∀ b o, H b = some o → H2 b = some o := by
  induction n with
  | nil => exact fun _ _ q => q
  | cons h _ ih => exact fun b o q => ih b o (by rw [upd_ne (ne_of_none q h)]; exact q)
theorem NewPs.out {i : Nat} {H H2 : Hp} {xs : List V} {ps : List Addr} (n : NewPs i H xs ps H2) : ∀ b, b ∉ ps → H b = none → H2 b = none := by
  induction n with
  | nil => exact fun _ _ q => q
  | cons h _ ih => exact fun b hb q => ih b (fun z => hb (List.mem_cons_of_mem _ z)) (by rw [upd_ne (fun z => hb (by simp [z]))]; exact q)
section
variable {X : Cx} {CT : CTab} {a : Expr} {ma : EM} {p p2 q pos : Pos}
end
end Pv

/-! PyS: min(a, b) of two tuples -/
namespace Pv
open PySem PySem.Spec PySem.SeqAt PyProof.Rows L2
end Pv

/-! PyU: a clause `except C as e` whose first statements tell by isinstance what e is: x = [isinstance(e, A), ..], x = x + [..], x.append(isinstance(e, B)); then any statements without e. -/
namespace Pv
open PySem PySem.Spec PySem.SeqAt L2
def isvB (K : PySem.W.Frag) (y : Str) (l : List (Str × Bool)) : Bool :=
  (He.eqO (PySem.W.findIn K (.ref (He.ga K y)) "__getattribute__") (some (some (.builtin "BaseException.__getattribute__"))) && (He.eqO (PySem.W.findIn K (.ref (He.ga K y)) "__getattr__") (some none) && (decide (PySem.W.subIn K (.ref (He.ga K y)) (.type "BaseException") = some true) && (PySem.W.hasDictIn K (He.ga K y) &&
  (He.eqO (PySem.W.findIn K (.ref (He.ga K y)) "__class__") (some (some (.builtin "object.__class__"))) && (He.eqO (PySem.W.specialIn K (.builtin "object.__class__") "__get__") (some (some (.builtin "getset_descriptor.__get__"))) && (decide (PySem.W.takesIn K (.builtin "object.__class__") = some true) && decide (PySem.W.mroIn K (He.ga K y) (.type "object") = some true)))))))) &&
  l.all fun z => decide (PySem.W.kitOne K (.ref (He.ga K y)) (.ref (He.ga K z.1)) = some z.2)
section
variable {X : Cx} {a D : Addr} {oe : Obj} {pn : List (Addr × Obj)}
end
section
variable {X : Cx} {CT : CTab} {P : List Nat} {Wx : Option WX} {i : Nat} {a : Addr} {oe : Obj} {pn : List (Addr × Obj)}
end
section
variable {X : Cx} {CT : CTab} {P : List Nat} {Wx : Option WX} {i : Nat}
end
end Pv
namespace Pv
open PySem PySem.Spec PySem.SeqAt L2
/-! tables of classes, tables of defs -/
structure FxI (tab : List (Str × List (Str × Bool))) (P : Program) (file : Str) (l : List (Str × Str)) (fa : List He.Fa) (fn : List He.DefD) (cs : ClsT) (K : PySem.W.Frag) (mg : Str → Option Value) : Prop extends FxP P file l fa fn cs K mg where
  iv : (tab.all fun z => isvB K z.1 z.2) = true
abbrev exI (tab : List (Str × List (Str × Bool))) (cs : ClsT) (file : Str) (l : List (Str × Str)) (K : PySem.W.Frag) : Bool := exP cs file l K && tab.all fun z => isvB K z.1 z.2
theorem FxI.of {tab : List (Str × List (Str × Bool))} {P : Program} {file : Str} {l : List (Str × Str)} {fa : List He.Fa} {fn : List He.DefD} {cs : ClsT} {K : PySem.W.Frag} {mg : Str → Option Value} {w : World} {h : Heap} (X : K.In h) (G : h.Ns mainGlobals mg) (pf : PF P file) (c : He.SaysX fa fn [] [] (exI tab cs file l) w h K) : FxI tab P file l fa fn cs K mg :=
  ⟨FxP.of X G pf ⟨c.t, (He.ba c.more).1, c.hd, c.out, c.empty⟩, (He.ba c.more).2⟩
section
variable {X : Cx} {CT : CTab} {W : WX} {pos : Pos} {c e : Expr} {es : List Expr} {mc : EM} {mr : AM} {L : List (Str × Nat × CM)}
end
end Pv

/-! PyV: a def within a def: made, called, its promise. -/
namespace Pv
open PySem PySem.Spec PySem.SeqAt PyProof.Rows L2 NdefX LamX
def Grow (H H1 : Hp) : Prop := ∀ b ps, H b = some (.tbl ps) → ∃ more, H1 b = some (.tbl (ps ++ more))
theorem fno_code {f c : Addr} {F : NF} {q : Str} : FnO f F ≠ CodeO c q := fun z => by
  obtain ⟨h, e, u⟩ := heap_of_size { cls := .none, data := .fields #[.none, .str q 0] } rfl c
  have z := HO.ext.inj z
  have w : (fun h : Heap => ∃ (oc : Obj) (vs : Array Value) (t : Tok), h.get? c = some oc ∧ oc.data = .fields vs ∧ vs[1]? = some (.str q t)) (h.push { cls := .none, data := .fields #[.none, .str q 0] }) := ⟨_, _, 0, by rw [← e]; exact Heap.get?_push_size _ rfl, rfl, rfl⟩
  rw [← z] at w
  obtain ⟨od, sl, doc, pm, ctv, h1⟩ := w
  by_cases ha : f = h.objs.size
  · subst ha
    rw [Heap.get?_push_size _ rfl] at h1
    cases h1
  · rw [Heap.get?_push_ne _ _ _ ha] at h1
    have := u f _ h1
    cases this
section
variable {X : Cx} {pins : List (Addr × Obj)} {σ : L2.St} {H : Hp} {s : Shared}
structure Made (T : List NTab) (mk : Addr → NF) (H : Hp) (f c' : Addr) (H1 : Hp) : Prop where
  ext : ExtN H H1
  non : ∀ b, H1 b = Option.none → H b = Option.none
  grow : Grow H H1
  tabs : TabsN T H1
  f0 : H f = Option.none
  f1 : H1 f = some (FnO f (mk c'))
  c1 : H1 c' = some (CodeO c' (mk c').qual)
theorem ndef_mk {T : List NTab} {nm : Nat → Nat → Str} {c P : Addr} {name : Str} {params : Arguments} {body : List Stmt} {scope : Scope} {pos : Pos} {E : Value → Shared → Prop} {Q : Value → Shared → Prop} (I : Inv X pins σ H s) (TB : TabB X.base X.mg c P) (hcode : X.env.code = .ref c)
    (hm : (P, nm) ∈ T) (hn : nm pos.line pos.col = X.env.qual ++ name) (hu : ∀ p ∈ T, p.1 = P → p.2 = nm) (hT : TabsN T H) (hfree : ∀ y ∈ scope.names, y.2 = .free → ∃ c, X.env.cells.lookup y.1 = some c)
    (h : ∀ (f c' : Addr) (H1 : Hp) (s' : Shared), Inv X pins σ H1 s' → Made T (fun c' => ⟨name, X.env.qual ++ name, params, body, scope, cloFrom X.env.cells scope.names [], c'⟩) H f c' H1 → Q (.ref f) s') :
    wpAny (model X.prog X.w) X.A (makeFunction name (X.env.qual ++ name) params (.stmts body) scope X.env [] [] [] pos pos.line) Q E s := by
  obtain ⟨ps, hP, ht, ha⟩ := (show TabN H P nm from hT _ hm)
  have bP : s.heap.BuiltinsAt X.mg P := TB.bm.keeps I.bk
  have hP' : s.heap.get? P = some { cls := .none, data := .fields ps } := I.hok P _ hP
  cases hc : codeAmong pos ps.toList with
  | none =>
    refine PySem.W.makeFunction_K (mg := X.mg) (c := c) (P := P) (ps := ps) (closure_ok hfree) I.ok.glob (I.mod.glob.keeps I.bk) hcode (TB.code.keeps I.bk) hP' ht hc TB.gP bP fun c' ctv doc h' tk hx hge hlt hrec htb => ?_
    obtain ⟨c2, oc, vs, t, e2, hoc, hd, hv⟩ := hrec
    cases e2
    have nC : H c' = none := I.hok.fresh hge
    have I1 := inv_table (t' := tk) (more := #[rawInt pos.line, rawInt pos.col, .ref c']) (h' := h') I hP (fun b o hb e => hx b o hb e) htb hge ⟨oc, vs, t, hoc, hd, hv⟩
    generalize hH2 : upd (upd H P (.tbl (ps ++ #[rawInt pos.line, rawInt pos.col, .ref c']))) c' (CodeO c' (X.env.qual ++ name)) = H2 at I1
    have atC : H2 c' = some (CodeO c' (X.env.qual ++ name)) := by rw [← hH2]; exact upd_same
    have atP : H2 P = some (.tbl (ps ++ #[rawInt pos.line, rawInt pos.col, .ref c'])) := by rw [← hH2, upd_ne (ne_of_none hP nC), upd_same]
    have old : ∀ b, b ≠ P → b ≠ c' → H2 b = H b := fun b h1 h2 => by rw [← hH2, upd_ne h2, upd_ne h1]
    have hE : ExtN H H2 := fun b o e n => by
      rw [old b (fun z => n ps (Option.some.inj (e.symm.trans (by rw [z]; exact hP)))) (ne_of_none e nC)]
      exact e
    have gr : Grow H H2 := fun b qs e => by
      by_cases z : b = P
      · subst z
        rw [hP] at e
        cases e
        exact ⟨_, atP⟩
      · exact ⟨#[], by rw [old b z (ne_of_none e nC), Array.append_empty]; exact e⟩
    have nn : ∀ b, H2 b = none → H b = none := fun b e => by
      by_cases z : b = P
      · rw [z, atP] at e; cases e
      · by_cases z2 : b = c'
        · rw [z2]; exact nC
        · rw [← old b z z2]; exact e
    have T1 : TabsN T H2 := fun p hp => by
      by_cases hb : p.1 = P
      · rw [hu p hp hb, hb]
        refine ⟨_, atP, by simpa using PySem.TriplesOk_snoc _ _ _ _ ht, fun p' cv hcv => ?_⟩
        have eL : (ps ++ #[rawInt pos.line, rawInt pos.col, .ref c']).toList = ps.toList ++ [rawInt pos.line, rawInt pos.col, .ref c'] := by simp
        rw [eL] at hcv
        rcases among_app2 _ ht hcv with z | ⟨z, z1, z2⟩
        · obtain ⟨c0, e1, e2⟩ := ha p' cv z
          exact ⟨c0, e1, hE _ _ e2 codeO_ne⟩
        · exact ⟨c', z, by rw [← z1, ← z2, hn]; exact atC⟩
      · obtain ⟨ps', a1, a2, a3⟩ := hT p hp
        refine ⟨ps', by rw [old _ hb (ne_of_none a1 nC)]; exact a1, a2, fun p' cv hcv => ?_⟩
        obtain ⟨c0, e1, e2⟩ := a3 p' cv hcv
        exact ⟨c0, e1, hE _ _ e2 codeO_ne⟩
    have nF := I1.hok.fresh (Nat.le_refl _)
    have I2 := inv_fn (F := ⟨name, X.env.qual ++ name, params, body, scope, cloFrom X.env.cells scope.names [], c'⟩) (t' := tk) (doc := doc) (pm := (X.mg "__name__").getD .none) (ctv := ctv) I1 rfl
    refine h h'.objs.size c' _ _ I2 ⟨fun b o e n => (upd_ne (ne_of_none (hE b o e n) nF)).trans (hE b o e n), fun b e => nn b (upd_none e), fun b qs e => ?_, T1.ext fun b o e => (upd_ne (ne_of_none e nF)).trans e, I.hok.fresh (Nat.le_trans hge (Nat.le_of_lt hlt)), upd_same, (upd_ne (Nat.ne_of_lt hlt)).trans atC⟩
    obtain ⟨m, e'⟩ := gr b qs e
    exact ⟨m, (upd_ne (ne_of_none e' nF)).trans e'⟩
  | some cv =>
    obtain ⟨c', e, hco⟩ := ha pos cv hc
    subst e
    rw [hn] at hco
    refine PySem.W.makeFunction_hit (mg := X.mg) (c := c) (P := P) (ps := ps) (closure_ok hfree) I.ok.glob (I.mod.glob.keeps I.bk) hcode (TB.code.keeps I.bk) hP' ht hc bP fun ctv doc h' tk hx hsz => ?_
    have I1 : Inv X pins σ H { s with heap := h', toks := tk } := I.kept hx
    have nF : H h'.objs.size = none := I1.hok.fresh (Nat.le_refl _)
    have I2 := inv_fn (F := ⟨name, X.env.qual ++ name, params, body, scope, cloFrom X.env.cells scope.names [], c'⟩) (t' := tk) (doc := doc) (pm := (X.mg "__name__").getD .none) (ctv := ctv) I1 rfl
    have up : ∀ b o, H b = some o → upd H h'.objs.size (FnO h'.objs.size ⟨name, X.env.qual ++ name, params, body, scope, cloFrom X.env.cells scope.names [], c'⟩) b = some o := fun b o e => (upd_ne (ne_of_none e nF)).trans e
    exact h h'.objs.size c' _ _ I2 ⟨fun b o e _ => up b o e, fun b e => upd_none e, fun b qs e => ⟨#[], by rw [Array.append_empty]; exact up b _ e⟩, hT.ext up, nF, upd_same, up _ _ hco⟩
end
def tNdefT (T : List NTab) (i : Nat) (mk : Addr → NF) : TS := fun D σ H => TabsN T H ∧ ∀ (f c' : Addr) (H1 : Hp), Made T mk H f c' H1 → D.nx (σ.set i (some (.ref f))) H1
theorem ps_ndefT {X : Cx} {st : Stmt} {T : List NTab} {nm : Nat → Nat → Str} {c P : Addr} {name : Str} {pos : Pos} {i : Nat} (hst : st = .FunctionDef name (C8.fnArgs st) (C8.fnBody st) [] none [] (C8.fnScope st) none name pos) (TB : TabB X.base X.mg c P) (hcode : X.env.code = .ref c) (hm : (P, nm) ∈ T) (hn : nm pos.line pos.col = X.env.qual ++ name)
    (hu : ∀ p ∈ T, p.1 = P → p.2 = nm) (hfree : ∀ y ∈ (C8.fnScope st).names, y.2 = .free → X.env.scope.names.lookup y.1 = some .cell ∨ X.env.scope.names.lookup y.1 = some .free) (hd0 : (C8.fnArgs st).defaults = []) (hk0 : (C8.fnArgs st).kw_defaults = []) (ha : annTrees (C8.fnArgs st) none X.env = [])
    (hN : X.N.Nodup) (hi : X.N[i]? = some name) (hx : Loc X.env.scope name) (hf : X.fn name = true ∨ X.env.scope.names.lookup name = some .local) :
    PS X st (tNdefT T i (NF.of st name (X.env.qual ++ name) (cloFrom X.env.cells (C8.fnScope st).names []))) := by
  have key : PS X (.FunctionDef name (C8.fnArgs st) (C8.fnBody st) [] none [] (C8.fnScope st) none name pos) (tNdefT T i fun c' => ⟨name, X.env.qual ++ name, C8.fnArgs st, C8.fnBody st, C8.fnScope st, cloFrom X.env.cells (C8.fnScope st).names [], c'⟩) := by
    refine ⟨fun pins s σ H D I h => ?_⟩
    obtain ⟨hT, h⟩ := h
    have hq : qualnameIn X.env name name = X.env.qual ++ name := by
      have hk : X.env.kindOf name = some .local ∨ X.env.kindOf name = some .cell := hx
      unfold qualnameIn
      rcases hk with k | k <;> rw [k] <;> first | rfl | exact if_neg (by decide)
    refine PySem.W.nestDef_K hd0 hk0 ha ?_
    rw [hq]
    have hfr : ∀ y ∈ (C8.fnScope st).names, y.2 = .free → ∃ c, X.env.cells.lookup y.1 = some c := fun y hy e => (hfree y hy e).elim (fun z => I.ok.has _ (.inl z)) fun z => I.ok.has _ (.inr z)
    refine ndef_mk I TB hcode hm hn hu hT hfr fun f c' H1 s' I1 m => ?_
    exact store_ok I1 hN hi hx (v := .ref f) rfl (fun s'' J => ⟨_, H1, J, h f c' H1 m⟩) hf
  rw [← hst] at key
  exact key
section
variable {k : Kx} {P : List Nat} {Wx : Option WX}
def exNdef (P : List Nat) (i : Nat) : SM := fun ρ => if i ∈ P then none else some (.nx, ρ.set i (some (.val nfnD)))
theorem simNdef {mk : Addr → NF} {i : Nat} (hk : k.CT.nf = some mk) (hc : ∀ c, (mk c).c = c) : SimS k P Wx (tNdefT k.CT.T i mk) (exNdef P i) := by
  intro e ρ σ F H D hP s h
  refine ⟨s.fr.tabs, fun f c' H1 M => ?_⟩
  unfold exNdef at h
  split at h
  · exact h.elim
  · rename_i hi
    have h : ∀ σ F H, SInv k e (ρ.set i (some (.val nfnD))) σ F H → D.nx σ H := h
    have nfC : f ≠ c' := fun z => by
      have f1 := M.f1
      rw [z, M.c1] at f1
      exact fno_code (Option.some.inj f1).symm
    have Ff : F f = none := s.fr.sub.none_of M.f0
    have kp : ∀ p o, H p = some o → NTb o → H1 p = some o := fun p o q m => M.ext p o q m.ne
    have sH : Sub F H1 := fun a o q => by
      obtain ⟨o', q1, q2⟩ := s.fr.sub a o q
      by_cases t : ∃ ps, o' = .tbl ps
      · obtain ⟨ps, rfl⟩ := t
        obtain ⟨m, q3⟩ := M.grow a ps q1
        exact ⟨_, q3, by rw [← q2]; rfl⟩
      · exact ⟨o', M.ext a o' q1 fun ps z => t ⟨ps, z⟩, q2⟩
    let F1 : Hp := upd F c' (CodeO c' (mk c').qual)
    have s1 : Sub F F1 := fun a o q => by
      by_cases z : a = c'
      · subst z
        obtain ⟨o', q1, q2⟩ := sH a o q
        rw [M.c1] at q1
        cases q1
        exact ⟨_, upd_same, q2⟩
      · exact ⟨o, by show upd F c' _ a = _; rw [upd_ne z]; exact q, rfl⟩
    have F1f : F1 f = none := by
      show upd F c' _ f = none
      rw [upd_ne nfC]; exact Ff
    have s2 : Sub F (upd F1 f (FnO f (mk c'))) := s1.trans (Sub.upd F1f)
    have codeH : ∀ p o, H p = some o → NoT o → p ≠ c' := fun p o q m z => by
      have q1 := kp p o q m.ntb
      rw [z, M.c1] at q1
      cases q1
      exact m c' _ rfl
    have fr1 : FR k (upd F1 f (FnO f (mk c'))) ρ σ H1 := by
      refine ⟨fun a o q => ?_, s.fr.len, fun j d q => ?_, fun j o q => ?_, s.fr.dist, M.tabs⟩
      · by_cases z : a = f
        · subst z
          rw [upd_same] at q; cases q
          exact ⟨_, M.f1, rfl⟩
        · rw [upd_ne z] at q
          by_cases z2 : a = c'
          · subst z2
            have q : upd F a _ a = some o := q
            rw [upd_same] at q; cases q
            exact ⟨_, M.c1, rfl⟩
          · have q : upd F c' _ a = some o := q
            rw [upd_ne z2] at q
            exact sH a o q
      · obtain ⟨v, h1, r⟩ := s.fr.vals j d q
        exact ⟨v, h1, r.mono s2⟩
      · obtain ⟨p, ho, h1, h2, h3, r⟩ := s.fr.owns j o q
        refine ⟨p, ho, h1, kp p ho h2 r.ntb, ?_, r.mono s2⟩
        rw [upd_ne (ne_of_none h2 M.f0)]
        show upd F c' _ p = none
        rw [upd_ne (codeH p ho h2 r.nt)]; exact h3
    have tr1 : Tr (Own ρ σ) F H (upd F1 f (FnO f (mk c'))) H1 := by
      refine ⟨s2, fun p o q m _ => kp p o q m, fun p o q m n _ => ?_, fun p o q => ?_⟩
      · rw [upd_ne (ne_of_none q M.f0)]
        show upd F c' _ p = none
        rw [upd_ne (codeH p o q m)]; exact n
      · cases z : H1 p with
        | none => rw [M.non p z] at q; cases q
        | some o' => exact ⟨o', rfl⟩
    have A : Aft k ρ σ F H ρ (upd F1 f (FnO f (mk c'))) H1 := ⟨fr1, tr1, fun _ z => z, fun _ s h => ⟨s, h⟩⟩
    have sv := s.aft A
    refine h _ _ _ ⟨sv.fr.setVal (.nfn hk upd_same (by rw [hc c', upd_ne (Ne.symm nfC)]; exact upd_same)), sv.tr, fun p z => sv.ow p z.of_setVal, pr_set hP hi sv.pr⟩
end
end Pv

/-! PyW: a nested def called, its promise. Arguments: its own, then what it captured, itself among it, what it changes last. -/
namespace Pv
open PySem PySem.Spec PySem.SeqAt PyProof.Rows L2 NdefX LamX
section
variable {k : Kx}
def evVars : List Nat → AM
  | [] => evNil
  | j :: js => evCons (evVar j) (evVars js)
def tVars : List Nat → TA
  | [] => tNil
  | j :: js => tCons (tVar j) (tVars js)
theorem simVars : ∀ js : List Nat, SimA k (tVars js) (evVars js)
  | [] => simNil
  | _ :: js => simCons simVar (simVars js)
theorem tVars_slots : ∀ {js : List Nat} {σ : L2.St} {H : Hp} {Q : List V → Hp → Prop}, tVars js σ H Q → ∃ gs : List V, js.map (slotAt σ) = gs.map some ∧ Q gs H
  | [], _, _, _, h => ⟨[], rfl, h⟩
  | j :: js, σ, H, Q, h => by
    obtain ⟨v, e, h⟩ := h
    obtain ⟨gs, e2, h⟩ := tVars_slots h
    exact ⟨v :: gs, by rw [List.map_cons, List.map_cons, slotAt_of e, e2], h⟩
def evNfn (i : Nat) (ma : AM) : AM := fun ρ => match ρ[i]? with
  | some (some (.val (.dict [(.bool true, .none)]))) => ma ρ
  | _ => none
def tNfn (mk : Addr → NF) (i : Nat) (js : List Nat) (te : TE) : TA := fun σ H Q => ∃ f c', σ[i]? = some (some (.ref f)) ∧ H f = some (FnO f (mk c')) ∧
  te σ H fun x H1 => H1 f = some (FnO f (mk c')) ∧ H1 (mk c').c = some (CodeO (mk c').c (mk c').qual) ∧ ∃ gs : List V, js.map (slotAt σ) = gs.map some ∧ Q (x :: gs) H1
theorem simNfn {mk : Addr → NF} {i : Nat} {js : List Nat} {te : TE} {me : EM} (hk : k.CT.nf = some mk) (he : SimE k te me) : SimA k (tNfn mk i js te) (evNfn i (evCons me (evVars js))) := by
  intro F ρ σ H Q f h
  unfold evNfn at h
  split at h
  · rename_i hi
    obtain ⟨v, hs, r⟩ := f.vals i _ hi
    cases r with
    | @nfn a c' mk' e1 e2 e3 =>
      rw [hk] at e1
      cases e1
      refine ⟨a, c', hs, f.sub.ex e2, ?_⟩
      unfold evCons at h
      refine he F ρ σ H _ f ((wpo_bind.mp h).mono fun b _ h => ?_)
      intro v F1 H1 A1 R1
      refine ⟨A1.fr.sub.ex (A1.tr.sub.ex e2), A1.fr.sub.ex (A1.tr.sub.ex e3), ?_⟩
      refine tVars_slots (simVars js F1 b.2 σ H1 _ A1.fr ((wpo_bind.mp h).mono fun d _ h => ?_))
      intro us F2 H2 A2 R2
      refine h (v :: us) F2 H2 (A1.trans A2) (.cons (R1.step f A1 A2) R2 (fun p e => ?_) fun o e => ?_)
      · cases z : H p with
        | none => exact absurd z e
        | some u => obtain ⟨u', hu'⟩ := A1.tr.there p u z; rw [hu']; simp
      · rw [e] at R1
        obtain ⟨p, ho, e1, _, h1, _⟩ := R1
        exact ⟨p, e1, by rw [h1]; simp⟩
  · exact h.elim
def spN (k : Kx) (m np : Nat) (cm : CM) : List (Option V) → Sp := fun ws vs H Q E => ws.length = m ∧ ∃ gs : List V, ws = gs.map some ∧ spQ k np cm (vs ++ gs) H Q E
theorem simCallN {mk : Addr → NF} {i m : Nat} {js : List Nat} {te : TE} {me : EM} {np : Nat} {cm : CM} {E : XK} (hk : k.CT.nf = some mk) (hm : js.length = m) (he : SimE k te me) :
    SimE k (tCallN mk i js (fun _ _ => spN k m np cm) E (tCons te tNil)) (evCallI np cm (evRotP (evNfn i (evCons me (evVars js))))) := by
  intro F ρ σ H Q f h
  have q : tCall (spQ k np cm) [] E (tNfn mk i js te) σ H Q := by
    rw [tCall_rot]
    exact simCallI (simRotP (simNfn hk he)) F ρ σ H Q f h
  have q : tNfn mk i js te σ H (fun vs H1 => spQ k np cm (vs ++ []) H1 Q E) := q
  rw [show (fun (vs : List V) (H1 : Hp) => spQ k np cm (vs ++ []) H1 Q E) = fun vs H1 => spQ k np cm vs H1 Q E by funext vs H1; rw [List.append_nil]] at q
  obtain ⟨a, c', e1, e2, q⟩ := q
  refine ⟨a, c', e1, e2, ?_⟩
  have hl : (js.map (slotAt σ)).length = m := by rw [List.length_map]; exact hm
  show te σ H fun x H1 => _ ∧ _ ∧ ((js.map (slotAt σ)).length = m ∧ ∃ gs : List V, js.map (slotAt σ) = gs.map some ∧ spQ k np cm ([x] ++ gs) H1 Q E)
  simp only [hl, true_and]
  exact q
end
/-! ### its promise -/
section
variable {P : Program} {w : World} {K : PySem.W.Frag} {mg : Str → Option Value} {base : Heap} {N ps fr : List Str} {F : NF} {f : Addr} {CT : CTab} {np nl n : Nat} {mb : SM}
theorem startF_eq {N : List Str} {vs gs : List V} : startF N vs (gs.map some) = L2.start N (vs ++ gs) := by
  unfold startF L2.start
  rw [List.map_append, List.append_assoc, List.length_map, List.length_append, Nat.sub_sub]
theorem spN_len {ps fr : List Str} {cm : CM} {ws : List (Option V)} {vs : List V} {H : Hp} {Q : VK} {E : XK} (hl : ps.length + fr.length = np) (h : spN ⟨K, CT⟩ fr.length np cm ws vs H Q E) : vs.length = ps.length := by
  obtain ⟨hw, gs, e, h⟩ := h
  have := spQ_len h
  rw [e, List.length_map] at hw
  rw [List.length_append] at this
  omega
theorem ndef_ok (S : NScope N ps fr F.scope) (hb : ∀ (doc pm ctv : Value) (us : List Value), us.length = ps.length → bindArgs (F.fd doc pm ctv) ⟨us, []⟩ = pure (ps.zip us)) (hl : ps.length + fr.length = np) (hN : N.length = nl) (h0 : 0 < np)
    (body : ∀ (A : Around) (outer : List Env) (s : Shared) (H : Hp) (E : XK), Room n (A.deeper (envF F f s.heap.objs.size)) → NSs (ncx CX0 P w K mg base N F f A outer s H E).nox CT [np - 1] none F.body mb) :
    NOk P w K mg base CX0 (n + 1) f F ps fr (spN ⟨K, CT⟩ fr.length np (runQ np nl mb)) := by
  refine nok_of S hb (fun ws vs H Q E h => spN_len hl h) fun A outer s H vs ws Q E hr hf hc hw h => ?_
  obtain ⟨_, gs, rfl, h⟩ := h
  obtain ⟨ts, p, si⟩ := body A outer s H E hr
  refine ⟨ts, p.nox, ?_⟩
  rw [startF_eq]
  exact runQ_gen hN si h h0
theorem ndef_bot {np : Nat} (hl : ps.length + fr.length = np) : NOk P w K mg base CX0 n f F ps fr (spN ⟨K, CT⟩ fr.length np fun _ => none) :=
  ⟨fun ws vs H Q E h => spN_len hl h, fun A outer s H us vs ws Q E _ _ _ _ _ _ h => by obtain ⟨_, _, _, F, as, _, _, _, z⟩ := h; exact z.elim⟩
theorem nCallN {X : Cx} {mk : Addr → NF} {cl : List (Str × Addr)} {i j m : Nat} {js : List Nat} {cm : CM} {x : Str} {e : Expr} {me : EM} {p pos : Pos} (hk : CT.nf = some mk) (Fn : ∀ f c', NOk X.prog X.w X.K X.mg X.base CX0 n f (mk c') ps fr (spN (kx X CT) m np cm)) (hcl : ∀ c', (mk c').cl = cl)
    (cp : X.Ok → Caps X cl fr js) (hr : Room j X.A) (hj : n ≤ j) (he : NE X CT e me) (hN : X.N[i]? = some x := by rfl) (hv : Vis X.env.scope x := by first | exact Or.inl rfl | exact Or.inr (Or.inl rfl) | exact Or.inr (Or.inr rfl)) (hm : js.length = m := by rfl)
    (hd : (x == ("__debug__" : Str)) = false := by decide) (hcd : (x == ("__classdict__" : Str)) = false := by decide) (hs : starEach [e] X.env = (false, eval e X.env) :: starEach [] X.env := by rfl) (hpl : (backTo pos (starEach [] X.env)).any (·.1) = false := by rfl) :
    NE X CT (.Call (.Name x p) [e] [] pos) (evCallI np cm (evRotP (evNfn i (evCons me (evVars js))))) := by
  obtain ⟨_, pa, sa⟩ := he
  exact ⟨_, pe_calln (E := fun _ _ _ => False) Fn hcl cp hr hj pass0 hN hv (pa_cons pa pa_nil hs) hd hcd hs hpl, simCallN (k := kx X CT) hk hm sa⟩
theorem nNdef {X : Cx} {P : List Nat} {Wx : Option WX} {st : Stmt} {nm : Nat → Nat → Str} {c Pt : Addr} {name : Str} {pos : Pos} (i : Nat) (hk : CT.nf = some (NF.of st name (X.env.qual ++ name) (cloFrom X.env.cells (C8.fnScope st).names [])))
    (hst : st = .FunctionDef name (C8.fnArgs st) (C8.fnBody st) [] none [] (C8.fnScope st) none name pos) (TB : TabB X.base X.mg c Pt) (hcode : X.env.code = .ref c) (hm : (Pt, nm) ∈ CT.T) (hn : nm pos.line pos.col = X.env.qual ++ name)
    (hu : ∀ p ∈ CT.T, p.1 = Pt → p.2 = nm) (hfree : ∀ y ∈ (C8.fnScope st).names, y.2 = .free → X.env.scope.names.lookup y.1 = some .cell ∨ X.env.scope.names.lookup y.1 = some .free) (hd0 : (C8.fnArgs st).defaults = []) (hk0 : (C8.fnArgs st).kw_defaults = []) (ha : annTrees (C8.fnArgs st) none X.env = [])
    (hN : X.N.Nodup) (hi : X.N[i]? = some name) (hx : Loc X.env.scope name) (hf : X.fn name = true ∨ X.env.scope.names.lookup name = some .local) : NS X CT P Wx st (exNdef P i) :=
  ⟨_, ps_ndefT hst TB hcode hm hn hu hfree hd0 hk0 ha hN hi hx hf, simNdef (k := kx X CT) hk fun _ => rfl⟩
end
end Pv

/-! PyX: data in which no nested def stands. -/
namespace Pv
open PySem PySem.Spec PySem.SeqAt PyProof.Rows L2 NdefX LamX
mutual
/-- no nested def stands in it -/
inductive NoNf : D → Prop
  | non : NoNf .none
  | bl (b : Bool) : NoNf (.bool b)
  | int (i : Int) : NoNf (.int i)
  | str (x : Str) : NoNf (.str x)
  | lst {xs : List D} : NoNfs xs → NoNf (.list xs)
  | tup {xs : List D} : NoNfs xs → NoNf (.tuple xs)
  | fls {xs : List D} : NoNfs xs → NoNf (flsD xs)
  | obj {c : Int} {fs : List D} : NoNfs fs → NoNf (objD c fs)
  | dnil : NoNf (.dict [])
  | dct {t : Bool} {ks : List (List Int)} {ds : List D} : NoNfs ds → NoNf (dctD t ks ds)
  | fn (x : Str) : NoNf (fnD x)
  | dcn {ks ds : List D} : NoNfs ks → NoNfs ds → NoNf (dcnD ks ds)
  | xt {xs : List D} : NoNfs xs → NoNf (tpD xs)
inductive NoNfs : List D → Prop
  | nil : NoNfs []
  | cons {d : D} {ds : List D} : NoNf d → NoNfs ds → NoNfs (d :: ds)
end
abbrev Kx.with (k : Kx) (nf : Option (Addr → NF)) : Kx := ⟨k.K, ⟨k.CT.f, k.CT.T, nf⟩⟩
section
variable {k : Kx} {F : Hp} {nf : Option (Addr → NF)}
mutual
theorem Rep.swap : ∀ {v : V} {d : D}, Rep k F v d → NoNf d → Rep (k.with nf) F v d
  | _, _, .non, _ => .non
  | _, _, .bl b, _ => .bl b
  | _, _, .int i, _ => .int i
  | _, _, .str x, _ => .str x
  | _, _, .lst h r, n => by cases n with | lst n => exact .lst h (r.swap n)
  | _, _, .tup h r, n => by cases n with | tup n => exact .tup h (r.swap n)
  | _, _, .fls h r, n => by cases n with | fls n => exact .fls h (r.swap n)
  | _, _, .obj h1 h2 h3 h4 r, n => by cases n with | obj n => exact .obj h1 h2 h3 h4 (r.swap n)
  | _, _, .dnil h, _ => .dnil h
  | _, _, .dct h hl r, n => by
    rename_i t ks vs ds
    have n' : NoNfs ds := by
      generalize hd : dctD t ks ds = d at n
      cases n with
      | dct n =>
        simp only [PyData.dict.injEq, List.cons.injEq, Prod.mk.injEq, PyData.tuple.injEq, PyData.list.injEq, and_true, true_and] at hd
        rw [hd.2.2]; exact n
      | _ => cases hd
    exact .dct h hl (r.swap n')
  | _, _, .fn x, _ => .fn x
  | _, _, .nfn e h h2, n => by cases n
  | _, _, .dcn h e r1 r2, n => by cases n with | dcn n1 n2 => exact .dcn h e (r1.swap n1) (r2.swap n2)
  | _, _, .xt h r, n => by cases n with | xt n => exact .xt h (r.swap n)
theorem RepL.swap : ∀ {vs : List V} {ds : List D}, RepL k F vs ds → NoNfs ds → RepL (k.with nf) F vs ds
  | _, _, .nil, _ => .nil
  | _, _, .cons a b, n => by cases n with | cons n1 n2 => exact .cons (a.swap n1) (b.swap n2)
end
def NoNfO : OB → Prop
  | .lst xs => NoNfs xs
  | .ins _ fs => NoNfs fs
  | .dct _ _ ds => NoNfs ds
  | .dcn ks ds => NoNfs ks ∧ NoNfs ds
def NoNfS : SV → Prop
  | .val d => NoNf d
  | .own o => NoNfO o
theorem RepO.swap {p : Addr} : ∀ {o : OB} {ho : HO}, RepO k F p o ho → NoNfO o → RepO (k.with nf) F p o ho
  | .lst _, _, ⟨vs, e, r⟩, n => ⟨vs, e, r.swap n⟩
  | .ins _ _, _, ⟨C, ns, dx, vs, h1, h2, h3, h4, r⟩, n => ⟨C, ns, dx, vs, h1, h2, h3, h4, r.swap n⟩
  | .dct _ _ _, _, ⟨vs, h1, h2, r⟩, n => ⟨vs, h1, h2, r.swap n⟩
  | .dcn _ _, _, ⟨es, h1, h2, r1, r2⟩, n => ⟨es, h1, h2, r1.swap n.1, r2.swap n.2⟩
theorem ArgR.swap {H : Hp} {s : SV} {v : V} (r : ArgR k F H s v) (n : NoNfS s) : ArgR (k.with nf) F H s v := by
  cases s with
  | val d => exact Rep.swap r n
  | own o =>
    obtain ⟨p, ho, e1, e2, e3, r⟩ := r
    exact ⟨p, ho, e1, e2, e3, r.swap n⟩
theorem ArgsR.swap {H : Hp} : ∀ {ss : List SV} {vs : List V}, ArgsR k F H ss vs → (∀ s ∈ ss, NoNfS s) → ArgsR (k.with nf) F H ss vs
  | _, _, .nil, _ => .nil
  | _, _, .cons a b c, n => .cons (ArgR.swap a (n _ List.mem_cons_self)) (ArgsR.swap b fun s hs => n s (List.mem_cons_of_mem _ hs)) c
theorem ResR.swap {A : Addr → Prop} {H H' : Hp} {s : SV} {v : V} (r : ResR k A H F H' s v) (n : NoNfS s) : ResR (k.with nf) A H F H' s v := by
  cases s with
  | val d => exact Rep.swap r n
  | own o =>
    obtain ⟨p, ho, e1, e2, e3, e4, r⟩ := r
    exact ⟨p, ho, e1, e2, e3, e4, r.swap n⟩
noncomputable def guardN (cm : CM) : CM := fun args => by
  classical
  exact if ∀ s ∈ args, NoNfS s then (cm args).bind fun x => if NoNfS x.1 ∧ NoNfS x.2 then some x else none else none
theorem spF_swap {io : Bool} {np : Nat} {cm : CM} {vs : List V} {H : Hp} {Q : VK} {E : XK} (h : spF k io np (guardN cm) vs H Q E) : spF (k.with nf) io np cm vs H Q E := by
  obtain ⟨F, args, sF, ar, hl, h⟩ := h
  unfold guardN at h
  split at h
  · rename_i hn
    refine ⟨F, args, ⟨sF.sub, sF.tabs⟩, ar.swap hn, hl, (wpo_bind.mp h).mono fun x _ h => ?_⟩
    split at h
    · rename_i hx
      intro v F' H' sb tr rr ot
      have h : ∀ v F' H', SubT k F' H' → Tr (ArgOwn args vs) F H F' H' → ResR k (ArgGiv io args vs) H F' H' x.1 v → (io = true → ∃ u, vs[0]? = some u ∧ ArgR k F' H' x.2 u) → Q v H' := h
      refine h v F' H' ⟨sb.sub, sb.tabs⟩ tr (ResR.swap (k := k.with nf) (nf := k.CT.nf) rr hx.1) fun hio => ?_
      obtain ⟨u, e, r⟩ := ot hio
      exact ⟨u, e, ArgR.swap (k := k.with nf) (nf := k.CT.nf) r hx.2⟩
    · exact h.elim
  · exact h.elim
end
def codeOf (K : PySem.W.Frag) (f : Addr) : Value := match K.lookup f with
  | some ⟨_, _, .func fd, _⟩ => fd.code
  | _ => .none
theorem okC {P : Program} {w : World} {K : PySem.W.Frag} {mg : Str → Option Value} {base : Heap} {x qual : Str} {params : Arguments} {body : List Stmt} {scope : Scope} {dvs : List V} {kws : List (Str × V)} {f : Addr} {fd : FuncData} {CX : CXT} {N ps : List Str} {k : Nat} {sp : Sp} (F : FunD K x qual params body scope dvs kws f fd) (S : FnScope N ps scope) (len : ∀ vs H Q E, sp vs H Q E → vs.length = ps.length)
    (hbody : ∀ (cdv : Value) (A : Around) (outer : List Env) (s : Shared) (H : Hp) (vs : List V) (Q : VK) (E : XK), cdv = codeOf K f → Room k (A.deeper (envOfC qual scope s.heap.objs.size f cdv)) → sp vs H Q E →
      ∃ t, PSs (cxOf CX P w K mg base N qual scope f cdv A outer s H E) body t ∧ t { nx := fun _ H' => Q .non H', rt := Q } (start N vs) H) : FnOk P w K mg base CX (k + 1) f fd ps sp := by
  obtain ⟨oc, od, dV, kV, doc, pm, an, cdv, ct, osl, rfl, lk, hcd, _, _⟩ := F.ex
  exact fn_of lk hcd S len fun A outer s H vs Q E hr hsp => hbody cdv A outer s H vs Q E (by unfold codeOf; rw [lk]) hr hsp
theorem def_okN {P : Program} {w : World} {K : PySem.W.Frag} {mg : Str → Option Value} {base : Heap} {x qual : Str} {params : Arguments} {body : List Stmt} {scope : Scope} {f : Addr} {fd : FuncData} {CT : CTab} {io : Bool} {np nl n : Nat} {N ps : List Str} {mb : SM} (F : FunD K x qual params body scope [] [] f fd) (S : FnScope N ps scope) (hps : ps.length = np) (hN : N.length = nl) (hio : io = true → 0 < np)
    (hb : ∀ (cd : Value) (A : Around) (outer : List Env) (s : Shared) (H : Hp) (E : XK), cd = codeOf K f → Room n (cxF P w K mg base N qual scope f cd A outer s H E).A → ∃ nf, NSs (cxF P w K mg base N qual scope f cd A outer s H E) ⟨CT.f, CT.T, nf⟩ (if io = true then [0] else []) none body mb) :
    FnOk P w K mg base CX0 (n + 1) f fd ps (spF ⟨K, CT⟩ io np (guardN (runB io nl mb))) := by
  refine okC F S (fun vs H Q E h => by rw [hps]; exact spF_len h) fun cd A outer s H vs Q E hc hr h => ?_
  obtain ⟨nf, ts, p, si⟩ := hb cd A outer s H E hc hr
  exact ⟨ts, p.nox, runB_ok hN hio si (spF_swap (k := ⟨K, CT⟩) (nf := nf) h)⟩
end Pv

/-! PyY: the law's end where tables are tracked: the script may stand unfrozen. -/
namespace Pv
open PySem PySem.Spec PySem.SeqAt PyProof.Rows L2 NdefX LamX
theorem pss_lock {X : Cx} {sts : List Stmt} {t : TS} (h : PSs X sts t) : PSs X sts (tLock t) := by
  refine ⟨fun pins s σ H D I h0 => ?_⟩
  obtain ⟨d, u, hd, mu, q⟩ := h0
  obtain ⟨od, J⟩ := I.lock hd mu
  have nf := I.nofrz hd mu
  refine wpAny_mono (h.run pins s σ _ _ J (q od)) (fun f s' hs => ?_) fun _ _ e => e
  cases f with
  | next => obtain ⟨σ', H', J', e, q'⟩ := hs; exact ⟨σ', _, J'.unlock e nf, q'⟩
  | brk => obtain ⟨σ', H', J', e, q'⟩ := hs; exact ⟨σ', _, J'.unlock e nf, q'⟩
  | cont => obtain ⟨σ', H', J', e, q'⟩ := hs; exact ⟨σ', _, J'.unlock e nf, q'⟩
  | ret v => obtain ⟨x, σ', H', J', r, e, q'⟩ := hs; exact ⟨x, σ', _, J'.unlock e nf, r, q'⟩
def spL (k : Kx) (cm : CM) : Sp := fun vs H Q E => spF k false 1 cm vs H Q E ∨ ∃ (a : Addr) (xs : List V), vs = [.ref a] ∧ H a = some (.lst xs) ∧ ∀ od, spF k false 1 cm vs (upd H a (.frz od (.lst xs))) (fun v H' => H' a = some (.frz od (.lst xs)) ∧ Q v (upd H' a (.lst xs))) E
section
variable {P : Program} {w : World} {K : PySem.W.Frag} {mg : Str → Option Value} {base : Heap} {x qual : Str} {params : Arguments} {body : List Stmt} {scope : Scope} {f : Addr} {fd : FuncData}
theorem def_okL {CT : CTab} {nl n : Nat} {N ps : List Str} {mb : SM} (F : FunD K x qual params body scope [] [] f fd) (S : FnScope N ps scope) (hps : ps.length = 1) (hN : N.length = nl)
    (hb : ∀ (cd : Value) (A : Around) (outer : List Env) (s : Shared) (H : Hp) (E : XK), Room n (cxF P w K mg base N qual scope f cd A outer s H E).A → NSs (cxF P w K mg base N qual scope f cd A outer s H E) CT [] none body mb) :
    FnOk P w K mg base CX0 (n + 1) f fd ps (spL ⟨K, CT⟩ (runB false nl mb)) := by
  refine F.ok S (fun vs H Q E h => ?_) fun cd A outer s H vs Q E hr h => ?_
  · rw [hps]
    rcases h with h | ⟨a, xs, rfl, _, h⟩
    · exact spF_len h
    · rfl
  obtain ⟨ts, p, si⟩ := hb cd A outer s H E hr
  rcases h with h | ⟨a, xs, rfl, ha, h⟩
  · exact ⟨ts, p.nox, runB_ok (io := false) hN (fun z => nomatch z) si h⟩
  · refine ⟨tLock ts, pss_lock p.nox, a, .lst xs, ha, True.intro, fun od => ?_⟩
    show ts ⟨fun σ' H' => H' a = some (.frz od (.lst xs)) ∧ Q .non (upd H' a (.lst xs)), fun v H' => H' a = some (.frz od (.lst xs)) ∧ Q v (upd H' a (.lst xs)), fun σ' H' => H' a = some (.frz od (.lst xs)) ∧ False, fun σ' H' => H' a = some (.frz od (.lst xs)) ∧ False⟩ _ _
    simp only [and_false]
    exact runB_ok (io := false) hN (fun z => nomatch z) si (h od)
end
theorem law_endT {K : PySem.W.Frag} {CT : CTab} {cm : CM} {H : Hp} {a : Addr} {ns : List Int} {E : XK} (hT : TabsN CT.T H) (hS : SqL K H a (ns.map V.int)) (h : ∃ o, cm [.val (flsD (ns.map .int))] = some (.val (.bool true), o)) : spL ⟨K, CT⟩ cm [.ref a] H (fun v _ => v = .bl true) E := by
  obtain ⟨o, h⟩ := h
  have gen : ∀ {H : Hp} {Q : VK}, TabsN CT.T H → FzL K H a (ns.map V.int) → (∀ H', (∀ p u, H p = some u → NTb u → H' p = some u) → Q (.bl true) H') → spF ⟨K, CT⟩ false 1 cm [.ref a] H Q E := by
    intro H Q hT hF hq
    refine ⟨H, [.val (flsD (ns.map .int))], ⟨Sub.refl _, hT⟩, .cons (.fls hF (repL_ints ns)) .nil fun _ z => (nomatch z), rfl, ?_⟩
    rw [h]
    intro v F' H' _ tr r _
    have r : Rep ⟨K, CT⟩ F' v (.bool true) := r
    cases r
    refine hq H' fun p u e m => tr.keep p u e m fun z => ?_
    obtain ⟨i, ob, e1, _⟩ := z
    match i, e1 with
    | 0, e1 => cases e1
    | i + 1, e1 => cases e1
  rcases hS with (hS | ⟨od, hS⟩) | hS
  · refine .inr ⟨a, _, rfl, hS, fun od => gen (tabs_upd hT hS ntc_lst) (.inl ⟨od, upd_same⟩) fun H' kp => ⟨kp a _ upd_same True.intro, rfl⟩⟩
  · exact .inl (gen hT (.inl ⟨od, hS⟩) fun _ _ => rfl)
  · exact .inl (gen hT (.inr (.inr hS)) fun _ _ => rfl)
end Pv

/-! PyZ: tables of code objects from the head's facts. -/
namespace Pv
open PySem PySem.Spec PySem.SeqAt PyProof.Rows L2 NdefX LamX
section
variable {K : PySem.W.Frag} {x qual : Str} {params : Arguments} {body : List Stmt} {scope : Scope} {fd : FuncData} {dvs : List V} {kws : List (Str × V)}
theorem code_ref {p : He.Defn} (F : FunD K x qual params body scope dvs kws (He.fAd K p) fd) : Pv.codeOf K (He.fAd K p) = .ref (He.cT K p).1 := by
  obtain ⟨oc, od, dV, kV, doc, pm, an, cdv, ct, osl, rfl, lk, hcd, _, _⟩ := F.ex
  unfold PySem.W.codeIn at hcd
  split at hcd
  · rename_i c
    unfold Pv.codeOf He.cT He.codeOf
    simp only [lk]
  · cases hcd
end
def tabT (K : PySem.W.Frag) (tf : List (He.Defn × Str)) : List NTab := tf.map fun q => ((He.cT K q.1).2, fun _ _ => q.2)
theorem tabT_start {K : PySem.W.Frag} {tf : List (He.Defn × Str)} {H : Hp} (h : ∀ q ∈ tf, H (He.cT K q.1).2 = some (.tbl #[])) : TabsN (tabT K tf) H := fun p hp => by
  obtain ⟨q, hq, rfl⟩ := List.mem_map.mp hp
  exact TabN.nil (h q hq)
end Pv

/-! PzA: a nested def called within a comprehension: what its cells held where the block began they hold still. -/
namespace Pv
open PySem PySem.Spec PySem.SeqAt PyProof.Rows L2 NdefX LamX
theorem cells_later {X : Cx} {pins : List (Addr × Obj)} {σ : L2.St} {H : Hp} {s : Shared} {cl : List (Str × Addr)} {fr : List Str} {ws : List (Option V)} (C : CellsAt cl fr ws X.s_0.heap X.H_0) (hx : ∀ y c, cl.lookup y = some c → c ∉ X.ex) (I : Inv X pins σ H s) : CellsAt cl fr ws s.heap H := by
  have kp : ∀ y c, cl.lookup y = some c → ∀ v, X.s_0.heap.IsCell c v → s.heap.IsCell c v := fun y c e v z => by
    obtain ⟨o, ho, hd⟩ := z
    obtain ⟨sl, q⟩ := I.base.any ho (C.all y c e).1 (hx y c e)
    exact ⟨_, q, hd⟩
  refine ⟨C.len, fun y c e => ?_, C.inj, fun i y e => ?_⟩
  · obtain ⟨n, v, z⟩ := C.all y c e
    obtain ⟨o, ho, _⟩ := id z
    exact ⟨I.base.free c o ho n (hx y c e), v, kp y c e v z⟩
  · obtain ⟨c, hc, hv⟩ := C.has i y e
    exact ⟨c, hc, fun v ev => (hv v ev).imp fun u q => ⟨q.1, kp y c hc _ q.2⟩⟩
def tCallB (mk : Addr → NF) (i : Nat) (ws : List (Option V)) (sp : List (Option V) → Sp) (E : XK) (t : TA) : TE := fun σ H Q => ∃ f c', σ[i]? = some (some (.ref f)) ∧ H f = some (FnO f (mk c')) ∧
  t σ H fun vs H1 => H1 f = some (FnO f (mk c')) ∧ H1 (mk c').c = some (CodeO (mk c').c (mk c').qual) ∧ sp ws vs H1 Q E
theorem pe_callB {X : Cx} {CX : CXT} {mk : Addr → NF} {cl : List (Str × Addr)} {ps fr : List Str} {i j k : Nat} {x : Str} {ws : List (Option V)} {sp : List (Option V) → Sp} {E : XK} {t : TA} {e : Expr} {es : List Expr} {p pos : Pos}
    (Fn : ∀ f c', NOk X.prog X.w X.K X.mg X.base CX k f (mk c') ps fr sp) (hcl : ∀ c', (mk c').cl = cl) (C0 : CellsAt cl fr ws X.s_0.heap X.H_0) (nx : ∀ y c, cl.lookup y = some c → c ∉ X.ex)
    (hr : Room j X.A) (hk : k ≤ j) (hx : Passes CX X E) (hN : X.N[i]? = some x) (hv : Vis X.env.scope x) (ha : PA X (e :: es) t)
    (hd : (x == ("__debug__" : Str)) = false := by decide) (hcd : (x == ("__classdict__" : Str)) = false := by decide)
    (he : starEach (e :: es) X.env = (false, eval e X.env) :: starEach es X.env := by rfl) (hpl : (backTo pos (starEach es X.env)).any (·.1) = false := by rfl) :
    PE X (.Call (.Name x p) (e :: es) [] pos) (tCallB mk i ws sp E t) := by
  refine ⟨fun pins s σ H Q I h => ?_⟩
  obtain ⟨f, c', hs, hf, ht⟩ := h
  refine wpAny_Call_Name_kw (thn ((pe_var (pos := p) hN hv hd hcd).run pins s σ H (fun v H1 => v = .ref f ∧ H1 = H) I ⟨.ref f, hs, rfl, rfl⟩) fun u s1 ⟨v, H1, I1, r1, q1⟩ => ?_)
  obtain ⟨ev, eH⟩ := q1
  subst ev
  rw [eH] at I1
  obtain rfl : u = Value.ref f := r1
  refine PySem.W.callWith_F (first := []) (fnAt_of I1 hf) (thn (ha.run pos pins s1 σ H _ I1 ht) fun us s2 ⟨vs, H2, I2, r, h1, h2, q⟩ => ⟨fnAt_of I2 h1, ?_⟩) he hpl
  have C : CellsAt (mk c').cl fr ws s2.heap H2 := by
    rw [hcl c']
    exact cells_later C0 nx I2
  show wpAny _ _ (call (.ref f) us) _ _ _
  refine wpAny_call (codeAny_mono ((Fn f c').run X.A X.stack s2 H2 us vs ws Q E (hr.mono hk) I2.env0 h1 h2 C r q) fun r s' hq => ?_)
  cases r with
  | error e => exact hx pins σ H2 s2 e s' I2 hq
  | ok fl =>
    cases fl with
    | ret u => exact I2.after hq
    | next => exact False.elim hq
    | brk => exact False.elim hq
    | cont => exact False.elim hq
/-! ### elements whose reading may lean on what the slots hold -/
section
variable {X : Cx} {CT : CTab} {R : L2.St → Prop} {a b e : Expr} {es : List Expr} {ma mb me : EM} {mr : AM} {pos p : Pos}
def NEr (X : Cx) (CT : CTab) (R : L2.St → Prop) (e : Expr) (m : EM) : Prop := ∃ t, PE X e t ∧ SimE (kx X CT) (fun σ H Q => R σ → t σ H Q) m
def NAr (X : Cx) (CT : CTab) (R : L2.St → Prop) (es : List Expr) (m : AM) : Prop := ∃ t, PA X es t ∧ SimA (kx X CT) (fun σ H Q => R σ → t σ H Q) m
theorem nR (h : NE X CT e me) : NEr X CT R e me := by
  obtain ⟨t, p, s⟩ := h
  exact ⟨t, p, fun F ρ σ H Q f h _ => s F ρ σ H Q f h⟩
theorem aNilR : NAr X CT R [] evNil := ⟨_, pa_nil, fun F ρ σ H Q f h _ => simNil (k := kx X CT) F ρ σ H Q f h⟩
theorem aConsR (ha : NEr X CT R e me) (hr : NAr X CT R es mr) (hs : starEach (e :: es) X.env = (false, eval e X.env) :: starEach es X.env := by rfl) : NAr X CT R (e :: es) (evCons me mr) := by
  obtain ⟨t, pa, sa⟩ := ha
  obtain ⟨u, pr, sr⟩ := hr
  refine ⟨_, pa_cons pa pr hs, fun F ρ σ H Q f h r => ?_⟩
  have q := simCons sa sr F ρ σ H Q f h
  unfold tCons at q ⊢
  simpa only [r, true_imp_iff] using q
theorem nTupR {x1} (ha : NAr X CT R es mr) : NEr X CT R (.Tuple es x1 pos) (evTup mr) := by
  obtain ⟨t, pa, sa⟩ := ha
  refine ⟨_, pe_tup pa, fun F ρ σ H Q f h r => ?_⟩
  have q := simTup sa F ρ σ H Q f h
  unfold tTup at q ⊢
  simpa only [r, true_imp_iff] using q
theorem nAddR (ha : NEr X CT R a ma) (hb : NEr X CT R b mb) : NEr X CT R (.BinOp a .Add b pos) (evBin gAdd ma mb) := by
  obtain ⟨t, pa, sa⟩ := ha
  obtain ⟨u, pb, sb⟩ := hb
  refine ⟨_, pe_op op_addA pa pb, fun F ρ σ H Q f h r => ?_⟩
  have q := simBin (k := kx X CT) simAdd sa sb F ρ σ H Q f h
  unfold tOp at q ⊢
  simpa only [r, true_imp_iff] using q
theorem nCallB {mk : Addr → NF} {cl : List (Str × Addr)} {ps fr : List Str} {i j n m np : Nat} {js : List Nat} {ws : List (Option V)} {cm : CM} {x : Str} (hk : CT.nf = some mk) (Fn : ∀ f c', NOk X.prog X.w X.K X.mg X.base CX0 n f (mk c') ps fr (spN (kx X CT) m np cm)) (hcl : ∀ c', (mk c').cl = cl)
    (C0 : CellsAt cl fr ws X.s_0.heap X.H_0) (nx : ∀ y c, cl.lookup y = some c → c ∉ X.ex) (hr : Room j X.A) (hj : n ≤ j) (he : NE X CT e me) (hN : X.N[i]? = some x := by rfl) (hv : Vis X.env.scope x := by first | exact Or.inl rfl | exact Or.inr (Or.inl rfl) | exact Or.inr (Or.inr rfl)) (hm : js.length = m := by rfl)
    (hd : (x == ("__debug__" : Str)) = false := by decide) (hcd : (x == ("__classdict__" : Str)) = false := by decide) (hs : starEach [e] X.env = (false, eval e X.env) :: starEach [] X.env := by rfl) (hpl : (backTo pos (starEach [] X.env)).any (·.1) = false := by rfl) :
    NEr X CT (fun σ => js.map (NdefX.slotAt σ) = ws) (.Call (.Name x p) [e] [] pos) (evCallI np cm (evRotP (evNfn i (evCons me (evVars js))))) := by
  obtain ⟨_, pa, sa⟩ := he
  refine ⟨_, pe_callB (E := fun _ _ _ => False) Fn hcl C0 nx hr hj pass0 hN hv (pa_cons pa pa_nil hs) hd hcd hs hpl, fun F ρ σ H Q f h r => ?_⟩
  have q := simCallN (k := kx X CT) (E := fun _ _ _ => False) hk hm sa F ρ σ H Q f h
  unfold NdefX.tCallN at q
  rw [r] at q
  exact q
theorem cEr_of (h : NEr X CT R e me) : PE X e (fun σ H Q => R σ ∧ cE (kx X CT) me σ H Q) := by
  obtain ⟨t, p, s⟩ := h
  exact ⟨fun pins sh σ H Q I ⟨r, F, ρ, f, q⟩ => p.run pins sh σ H Q I (s F ρ σ H Q f q r)⟩
end
theorem slots_wipe {σ σ2 : L2.St} {vs js : List Nat} (w : wipe σ2 vs = wipe σ vs) (hj : ∀ j ∈ js, j ∉ vs) : js.map (NdefX.slotAt σ2) = js.map (NdefX.slotAt σ) := by
  refine List.map_congr_left fun j m => ?_
  have e1 : (wipe σ2 vs)[j]? = σ2[j]? := wipe_out (hj j m)
  have e2 : (wipe σ vs)[j]? = σ[j]? := wipe_out (hj j m)
  unfold NdefX.slotAt
  rw [← e1, ← e2, w]
def tLcR (wi : TI) (g : TG) (tt : TT) (te : TE) (js vs : List Nat) : TE := fun σ H Q => tLc wi g tt (fun σ' H' Q' => js.map (NdefX.slotAt σ') = js.map (NdefX.slotAt σ) ∧ te σ' H' Q') vs σ H Q
theorem tLcR_of {wi : TI} {g : TG} {tt : TT} {te : TE} {js vs : List Nat} (hj : ∀ j ∈ js, j ∉ vs) {σ : L2.St} {H : Hp} {Q : VK} (h : tLc wi g tt te vs σ H Q) : tLcR wi g tt te js vs σ H Q := by
  unfold tLcR
  unfold tLc at h ⊢
  have key : ∀ (σ2 : L2.St) (H2 : Hp) (D : Addr) (Nx : Hp → Prop),
      (wipe σ2 vs = wipe σ vs ∧ tt σ2 H2 fun b H3 => if b = true then (js.map (NdefX.slotAt σ2) = js.map (NdefX.slotAt σ) ∧ te σ2 H3 fun y H4 => ∃ acc, H4 D = some (.lst acc) ∧ acc.length < sizeLine ∧ Nx (upd H4 D (.lst (acc ++ [y])))) else Nx H3)
        = (wipe σ2 vs = wipe σ vs ∧ tt σ2 H2 fun b H3 => if b = true then (te σ2 H3 fun y H4 => ∃ acc, H4 D = some (.lst acc) ∧ acc.length < sizeLine ∧ Nx (upd H4 D (.lst (acc ++ [y])))) else Nx H3) :=
    fun σ2 H2 D Nx => propext (and_congr_right fun w => by rw [slots_wipe w hj]; simp only [true_and])
  simp only [key]
  exact h
theorem simCompR {k : Kx} {ts vs js : List Nat} {wi : TI} {g : TG} {tt : TT} {mi : IM} {mg : GM} {mt : TM} {me : EM} (hi : SimI k wi mi) (hg : SimG k [] ts g mg) (ht : SimT k tt mt) (hv : ∀ t ∈ ts, t ∈ vs) (hj : ∀ j ∈ js, j ∉ vs) :
    SimE k (tLcR wi g tt (cE k me) js vs) (evComp mi mg mt me vs) := fun F ρ σ H Q f h => tLcR_of hj (simComp hi hg ht cE_sim hv F ρ σ H Q f h)
end Pv

/-! PzB: a comprehension whose element's rule leans on what held where its block began. -/
namespace Pv
open PySem PySem.Spec PySem.SeqAt PyProof.Rows L2 NdefX LamX
section
variable {X : Cx} {pins : List (Addr × Obj)} {s : Shared} {σ : L2.St} {H : Hp} {Q : VK} {el tg src : Expr} {ifs : List Expr} {sc : Scope} {own : List (Str × Nat)} {ps pq : Pos} {wi : TI} {g : TG} {tt : TT} {te : TE} {use : Option (Value → Sem Unit)} {Qf : Value → Shared → Prop}
abbrev BlkI (X : Cx) (pins : List (Addr × Obj)) (σ : L2.St) (sc : Scope) (Φ : Cx → Prop) : Prop := ∀ (s : Shared) (H : Hp) (C : Addr) (cl : List (Str × Addr)) (fp : List Addr), Inv X pins σ H s → (∀ b ∈ fp, FpOk X pins H b) → Φ (X.blk s H sc (compEnvC sc cl C X.env) fp)
theorem lcI_core (hc : X.calm = true) (hN : X.N.Nodup) (I : Inv X pins σ H s) (hi : PI X tg src wi) (ok : BlkOk X.N X.env.scope sc own) (hg : Blk X sc fun Y => PG Y tg g) (ht : Blk X sc fun Y => PTs Y ifs tt) (he : BlkI X pins σ sc fun Y => PE Y el te)
    (hs : ∀ x, foldedSetIterable src X.env x = pure x) (h : tLc wi g tt te (own.map (·.2)) σ H Q)
    (fin : ∀ D C s' m H', Inv X pins σ H' s' → Q (.ref D) H' → s'.heap.Ns C m → FpOk X pins H' C → compPost (model X.prog X.w) X.A X.xe use Qf (.ref D) C (.ok .next) s') :
    wpAny (model X.prog X.w) X.A (comprehension (.ListComp el [⟨tg, src, ifs, 0⟩] sc ps) sc X.env pq (newList []) false (eval src X.env) use) Qf X.xe s := by
  have hf : ∀ y ∈ sc.names, y.2 = .free → ∃ c, X.env.cells.lookup y.1 = some c := fun y hy e => (ok.free y hy e).elim (fun z => I.ok.has _ (.inl z)) fun z => I.ok.has _ (.inr z)
  refine wpAny_comprehension_free (use := use) rfl hs (closure_ok hf) ok.kind (fun y hy e => by rw [ok.uniq y hy, e]) (thn (hi.run pins s σ H _ I h) fun _ s1 q1 => thn q1 fun _ s2 q2 => ?_)
  obtain ⟨it, fp, tn, J, H2, rfl, I2, T, st2, f2, q⟩ := q2
  refine wpAny_newObj_type (newEnv_comp ?_) (by show 0 ≤ sizeLine; decide)
  obtain ⟨D, hD⟩ : ∃ D, s2.heap.objs.size = D := ⟨_, rfl⟩
  rw [hD]
  obtain ⟨W, ⟨m0, w0⟩, turn⟩ := q D (I2.hok.fresh (Nat.le_of_eq hD))
  obtain ⟨s3, hs3⟩ : ∃ s3 : Shared, ({ s2 with heap := s2.heap.push { cls := .type "list", data := .seq ([] : List Value).toArray } } : Shared) = s3 := ⟨_, rfl⟩
  rw [hs3]
  have e3 : s3.heap = s2.heap.push { cls := .type "list", data := .seq ([] : List Value).toArray } := by rw [← hs3]
  obtain ⟨H3, hH3⟩ : ∃ H3, upd H2 D (.lst []) = H3 := ⟨_, rfl⟩
  rw [hH3] at w0
  have I3 : Inv X pins σ H3 s3 := by
    rw [← hs3, ← hH3]
    refine I2.laid (t' := s2.toks) (fun b o e => Heap.get?_push_of_some _ e) (Nat.le_of_eq hD) ⟨Nat.zero_le _, [], 0, .nil, ?_⟩
    rw [← hD]; exact Heap.get?_push_size _ rfl
  have f3 : ∀ b ∈ fp, FpOk X pins H3 b ∧ b < s3.heap.objs.size := fun b hb => by
    obtain ⟨o, e, _⟩ := T.obj _ _ st2 b hb
    have lt := Heap.lt_size e
    refine ⟨⟨?_, (f2 b hb).2⟩, by rw [e3, Heap.size_push]; exact Nat.lt_succ_of_lt lt⟩
    rw [← hH3, upd_ne (by rw [← hD]; exact Nat.ne_of_lt lt)]
    exact (f2 b hb).1
  have st3 : tn 0 s3.heap := T.keep _ _ _ st2 fun b _ o e => by rw [e3]; exact Heap.get?_push_of_some _ e
  have I4 := block_start I3 ok hN f3
  obtain ⟨cc, hcc⟩ : ∃ cc, cellsFrom (s3.heap.objs.size + 1) sc.names (cloFrom X.env.cells sc.names []) = cc := ⟨_, rfl⟩
  have pg := hg s3 H3 s3.heap.objs.size cc fp
  have pt := ht s3 H3 s3.heap.objs.size cc fp
  have pe := he s3 H3 s3.heap.objs.size cc fp I3 fun b hb => (f3 b hb).1
  show codeAny _ _ (.compStart (.ListComp el [⟨tg, src, ifs, 0⟩] sc ps) 0 (.ref it) (.ref D) (compEnvC sc (cellsFrom (s3.heap.objs.size + 1) sc.names (cloFrom X.env.cells sc.names [])) s3.heap.objs.size X.env)) (compPost (model X.prog X.w) X.A X.xe use Qf (.ref D) s3.heap.objs.size) { s3 with heap := pushCells (s3.heap.push { cls := .type "dict", data := .dict #[] }) sc.names }
  rw [hcc] at I4 ⊢
  obtain ⟨ce, hce⟩ : ∃ ce, compEnvC sc cc s3.heap.objs.size X.env = ce := ⟨_, rfl⟩
  rw [hce] at I4 pg pt pe ⊢
  have cL : ce.locals = s3.heap.objs.size := by rw [← hce]; rfl
  obtain ⟨s4, hs4⟩ : ∃ s4 : Shared, ({ s3 with heap := pushCells (s3.heap.push { cls := .type "dict", data := .dict #[] }) sc.names } : Shared) = s4 := ⟨_, rfl⟩
  rw [hs4] at I4 ⊢
  obtain ⟨Y, hY⟩ : ∃ Y, X.blk s3 H3 sc ce fp = Y := ⟨_, rfl⟩
  obtain ⟨ρ, hρ⟩ : ∃ ρ, wipe σ (own.map (·.2)) = ρ := ⟨_, rfl⟩
  have st4 : tn 0 s4.heap := T.keep _ _ _ st3 fun b _ o e => by rw [← hs4]; exact pushCells_keeps _ _ _ _ (Heap.get?_push_of_some _ e)
  have own_ : ∀ {σ' : L2.St} {H' : Hp} {s' : Shared}, Inv (X.blk s3 H3 sc ce fp) [] σ' H' s' → (∀ b ∈ fp, H' b = none) → ∀ b ∈ fp, FpOk (X.blk s3 H3 sc ce fp) [] H' b := fun {_ _ _} K hn b hb =>
    ⟨hn b hb, (K.ok.exf b hb).1, K.ok.exfs b hb, .inl hb, fun x c e => (K.ok.exf b hb).2 x c e, fun p hp => absurd (show p ∈ ([] : List (Addr × Obj)) ++ [] from hp) (by simp)⟩
  have loop : codeAny (model X.prog X.w) X.A (.compLoop (.ListComp el [⟨tg, src, ifs, 0⟩] sc ps) 0 (.ref it) (.ref D) ce) (compPost (model X.prog X.w) X.A X.xe use Qf (.ref D) s3.heap.objs.size) s4 := by
    refine compLoop_any (fun n s' => ∃ i H', Inv (X.blk s3 H3 sc ce fp) [] ρ H' s' ∧ tn i s'.heap ∧ (∀ b ∈ fp, H' b = none) ∧ W i n H') ?_ m0 ⟨0, H3, by rw [← hρ]; exact I4, st4, fun b hb => (f3 b hb).1.1, w0⟩
    rintro n s5 ⟨i, H5, I5, st5, n5, w5⟩
    rcases turn i n H5 w5 with ⟨stop, qq⟩ | ⟨go, Nx, hNx, step⟩
    · refine thnF (T.done (X.blk s3 H3 sc ce fp) rfl rfl rfl hc i [] s5 _ H5 (fun _ _ => False) I5 (own_ I5 n5) st5 stop) fun r s6 ⟨hr, I6⟩ => ?_
      subst hr
      have I7 : Inv X pins σ H5 s6 := I3.call' (ch := fp) I6.os I6.base I6.hok I6.bare fun b hb => ⟨(f3 b hb).1.2.2.2.1, (f3 b hb).1.2.1, (f3 b hb).1.2.2.2.2.1, (f3 b hb).1.2.2.2.2.2⟩
      have nC : H5 ce.locals = none := I6.free
      obtain ⟨m, hn, _⟩ := I6.loc
      have hn : s6.heap.Ns ce.locals m := hn
      rw [cL] at hn nC
      exact fin D s3.heap.objs.size s6 m H5 I7 qq hn (I3.fpOk (Nat.le_refl _) nC)
    · refine thnF (T.item (X.blk s3 H3 sc ce fp) rfl rfl rfl hc i [] s5 _ H5 (fun _ _ => False) I5 (own_ I5 n5) st5 go) fun r s6 ⟨u, hr, h6⟩ => ?_
      subst hr
      refine thnF h6 fun _ s7 ⟨x, H7, I7, r7, y7, st7, n7⟩ => ?_
      rw [hρ] at step
      refine thnF (pg.run _ s7 _ H7 x u _ (I7.pinned (own_ I7 n7) (T.obj _ _ st7)) r7 (step x H7 y7)) fun _ s8 ⟨σ8, H8, I8, hw8, q8⟩ => ?_
      refine thnF (pt.run _ s8 σ8 H8 _ I8 q8) fun b s9 ⟨H9, I9, q9⟩ => ?_
      have nxt : ∀ {s' : Shared} {H' : Hp}, Inv (X.blk s3 H3 sc ce fp) ([] ++ pinsAt fp s7.heap) σ8 H' s' → Nx H' → ∃ m, m < n ∧ ∃ i H', Inv (X.blk s3 H3 sc ce fp) [] ρ H' s' ∧ tn i s'.heap ∧ (∀ b ∈ fp, H' b = none) ∧ W i m H' := fun {s' H'} K nx => by
        obtain ⟨m', hm, w'⟩ := hNx H' nx
        have pk : ∀ b ∈ fp, ∀ o, s7.heap.get? b = some o → s'.heap.get? b = some o ∧ H' b = none := fun b hb o e =>
          (K.pin (b, o) (List.mem_append_right _ (List.mem_append_right _ (mem_pinsAt hb e)))).imp_right (·.1)
        have wl : ρ.length = σ8.length := by
          have z := congrArg List.length hw8
          rw [wipe_length] at z
          exact z.symm
        refine ⟨m', hm, i + 1, H', (K.unpinned (pins := [])).weak wl (fun j v e => ?_), T.keep _ _ _ st7 fun b hb o e => (pk b hb o e).1, fun b hb => ?_, w'⟩
        · rw [← hw8] at e; exact (wipe_some e).1
        · obtain ⟨o, e, _⟩ := T.obj _ _ st7 b hb
          exact (pk b hb o e).2
      cases b with
      | false =>
        simp only [Bool.false_eq_true, if_false] at q9 ⊢
        exact nxt I9 q9
      | true =>
        simp only [if_true] at q9 ⊢
        exact thnF (pe.run _ s9 σ8 H9 _ I9 q9) fun z s10 ⟨yv, H10, I10, r10, acc, hD10, hz10, nx⟩ => app_ok (X := X.blk s3 H3 sc ce fp) I10 hD10 hz10 r10 fun s11 I11 => nxt I11 nx
  exact codeAny_compStart_list loop (T.self X.A 0 _ _ _ st4 loop)
theorem ps_setLcI {i : Nat} {y : Str} {py spos : Pos} {te : List (Option V) → TE} {js : List Nat} (hc : X.calm = true) (hN : X.N.Nodup) (hy : X.N[i]? = some y) (hyl : X.env.scope.names.lookup y = some .local) (hsw : swapsWith (.ListComp el [⟨tg, src, ifs, 0⟩] sc ps) (some (.Name y py)) spos.line X.env = pure true) (hi : PI X tg src wi)
    (ok : BlkOk X.N X.env.scope sc own) (hg : Blk X sc fun Y => PG Y tg g) (ht : Blk X sc fun Y => PTs Y ifs tt) (he : ∀ pins σ, BlkI X pins σ sc fun Y => PE Y el (te (js.map (NdefX.slotAt σ)))) (hs : ∀ x, foldedSetIterable src X.env x = pure x := by intro _; rfl) :
    PS X (.Assign [.Name y py] (.ListComp el [⟨tg, src, ifs, 0⟩] sc ps) spos) (tAsg (fun σ H Q => tLc wi g tt (te (js.map (NdefX.slotAt σ))) (own.map (·.2)) σ H Q) (gName i)) := by
  refine ⟨fun pins s σ H D I h => ?_⟩
  rw [exec_Assign_Name_used _ _ _ _ hsw]
  refine wpAny_bind (wpAny_standAt (wpAny_bind ?_))
  show wpAny _ X.A (do let _ ← comprehension (.ListComp el [⟨tg, src, ifs, 0⟩] sc ps) sc X.env (firstIterPos [⟨tg, src, ifs, 0⟩] ps) (newList []) false (eval src X.env) (some (assign (.Name y py) X.env))) _ _ s
  have h : tLc wi g tt (te (js.map (NdefX.slotAt σ))) (own.map (·.2)) σ H (fun x H1 => gName i x σ H1 D.nx) := h
  refine wpAny_bind (thn (lcI_core (Qf := fun _ s' => SP X pins D .next s') hc hN I hi ok hg ht (he pins σ) hs h fun L C s' m H' K q hn f => ?_) fun _ s' hq => wpAny_pure (wpAny_pure hq))
  show wpAny _ _ (assign (.Name y py) X.env (.ref L)) _ _ _
  refine wpAny_assign_Name (store_ok2 (v := V.ref L) K hN hy (.inl hyl) rfl (fun s2 I2 ⟨a, sb, ha⟩ => ?_) (.inr hyl))
  obtain ⟨f0, f1, f2, f3, f4, f5⟩ := f
  have ne : C ≠ a := ha.elim (fun z => by rw [z]; exact f1) fun z e => f4 y a z e.symm
  exact ⟨m, hn.sameBut sb ne, fun h3 sb3 => ⟨_, H', I2.turned (t' := s2.toks) (fun b o hb e => (sb3.2 b hb).trans e) f0 f1 f3 f4 f5, q⟩⟩
end
section
variable {X : Cx} {CT : CTab} {P : List Nat} {Wx : Option WX} {el tg src : Expr} {sc : Scope} {ps : Pos} {mi : IM} {mg : GM} {mt : TM} {me : EM} {ts : List Nat}
theorem sSetLcI (i : Nat) {y : Str} {py spos : Pos} {ifs : List Expr} {vs : List Nat} (own : List (Str × Nat)) (js : List Nat) (hc : X.calm = true) (hN : X.N.Nodup) (ok : BlkOk X.N X.env.scope sc own) (hi : NI X CT tg src mi) (hg : Blk X sc fun Y => NG Y CT [] ts tg mg) (ht : Blk X sc fun Y => NTs Y CT ifs mt)
    (he : ∀ pins σ, BlkI X pins σ sc fun Y => NEr Y CT (fun σ' => js.map (NdefX.slotAt σ') = js.map (NdefX.slotAt σ)) el me)
    (hy : X.N[i]? = some y := by rfl) (hyl : X.env.scope.names.lookup y = some .local := by rfl) (hsw : swapsWith (.ListComp el [⟨tg, src, ifs, 0⟩] sc ps) (some (.Name y py)) spos.line X.env = pure true := by exact sw_true rfl rfl rfl (by decide +kernel))
    (hv : ∀ t ∈ ts, t ∈ own.map (·.2) := by decide) (hj : ∀ j ∈ js, j ∉ own.map (·.2) := by decide) (hs : ∀ x, foldedSetIterable src X.env x = pure x := by intro _; rfl) (hvs : own.map (·.2) = vs := by rfl) : NS X CT P Wx (.Assign [.Name y py] (.ListComp el [⟨tg, src, ifs, 0⟩] sc ps) spos) (exAsg P i (evComp mi mg mt me vs)) := by
  obtain ⟨_, p1, s1⟩ := hi
  subst hvs
  exact ⟨_, ps_setLcI (te := fun ws σ' H' Q' => js.map (NdefX.slotAt σ') = ws ∧ cE (kx X CT) me σ' H' Q') hc hN hy hyl hsw p1 ok (fun s H C cl fp => cG_of (k := kx X CT) (hg s H C cl fp)) (fun s H C cl fp => cT_of (k := kx X CT) (ht s H C cl fp)) (fun pins σ s H C cl fp I f => cEr_of (CT := CT) (he pins σ s H C cl fp I f)) hs, simAsg (simCompR s1 cG_sim cT_sim hv hj)⟩
theorem caps_blk {pins : List (Addr × Obj)} {σ : L2.St} {H : Hp} {s : Shared} {cl : List (Str × Addr)} {fr : List Str} {js : List Nat} {fp : List Addr} (I : Inv X pins σ H s) (c : Caps X cl fr js) (hf : ∀ b ∈ fp, FpOk X pins H b) :
    CellsAt cl fr (js.map (NdefX.slotAt σ)) s.heap H ∧ ∀ y a, cl.lookup y = some a → a ∉ fp := ⟨cells_of I c, fun y a e z => (hf a z).2.2.2.2.1 y a (c.sub y a e) rfl⟩
end
end Pv

/-! PzC: the head's facts where tables are tracked; data without nested defs. -/
namespace Pv
open PySem PySem.Spec PySem.SeqAt PyProof.Rows L2 NdefX LamX
theorem fx_of {fa : List He.Fa} {fn : List He.DefD} {cs : ClsT} {K : PySem.W.Frag} {mg : Str → Option Value} {w : World} {h : Heap} {ts : List He.Tab} {tf : List He.Defn} (X : K.In h) (G : h.Ns mainGlobals mg) (c : He.SaysX fa fn ts tf (exK cs) w h K) : Fx fa fn cs K mg :=
  ⟨c.t.d, c.more, fun x => He.free_ok X G, fun x => He.glo_ok X G, fun x i => He.int_ok X G, fun x z => He.str_ok X G⟩
theorem noNfs_map {α : Type} {e : α → D} (h : ∀ a, NoNf (e a)) : ∀ l : List α, NoNfs (l.map e)
  | [] => .nil
  | a :: l => .cons (h a) (noNfs_map h l)
theorem guardN_ok {cm : CM} {args : List SV} {x : SV × SV} (ha : ∀ s ∈ args, NoNfS s) (h : cm args = some x) (h1 : NoNfS x.1) (h2 : NoNfS x.2) : guardN cm args = some x := by
  unfold guardN
  rw [if_pos ha, h, Option.bind_some, if_pos ⟨h1, h2⟩]
end Pv

/-! Mb1: loops that may be left with an answer -/
namespace Ma
open Tv
end Ma

/-! Mb3: values of any kind, plain facts -/
namespace Ma
open PySem Pv Tv
def okB : D → Bool
  | .dict [] => true
  | .dict _ => false
  | _ => true
def tupB : D → Bool
  | .tuple _ => true
  | _ => false
end Ma

/-! Mi1: values of any kind judged as covers. -/
namespace Ma
open PySem Pv Tv
def okV : D → Prop
  | .tuple l => l.length ≤ 60 ∧ ∀ d ∈ l, okB d = true ∧ PyData.plain d = true
  | .dict (_ :: _) => False
  | _ => True
theorem okV.not {v : D} (h : okV v) (t : tupB v = false) : okB v = true := by
  cases v with
  | dict kvs => cases kvs with
    | nil => rfl
    | cons a b => exact h.elim
  | _ => rfl
end Ma

/-! Mq1: rounds: lots of at most so many blocks, one after the other. -/
namespace Ma
open PySem Pv Tv
def pk1 (k : Int) (f : List Lt) (b : Int) : List Lt := f ++ (f.filter fun s => decide ((s.length : Int) < k)).map fun s => s ++ [b]
def pickA (k : Int) (bs : Lt) : List Lt := bs.foldl (pk1 k) [[]]
def picks (k : Int) (bs : Lt) : List Lt := (pickA k bs).drop 1
theorem pickA_snoc (k : Int) (bs : Lt) (b : Int) : pickA k (bs ++ [b]) = pk1 k (pickA k bs) b := by rw [pickA, List.foldl_append]; rfl
theorem snocR_ind {P : Lt → Prop} (h0 : P []) (h1 : ∀ l b, P l → P (l ++ [b])) (l : Lt) : P l := by
  have : ∀ n (l : Lt), l.length = n → P l := by
    intro n
    induction n with
    | zero => intro l e; rw [List.eq_nil_of_length_eq_zero e]; exact h0
    | succ n ih =>
      intro l e
      have ne : l ≠ [] := fun z => by rw [z] at e; cases e
      rw [← List.dropLast_concat_getLast ne]
      exact h1 _ _ (ih _ (by rw [List.length_dropLast, e]; rfl))
  exact this _ l rfl
theorem mem_pk1 {k : Int} {f : List Lt} {b : Int} {x : Lt} : x ∈ pk1 k f b ↔ x ∈ f ∨ ∃ s ∈ f, (s.length : Int) < k ∧ x = s ++ [b] := by
  unfold pk1
  rw [List.mem_append, List.mem_map]
  refine or_congr_right ⟨fun ⟨s, h, e⟩ => ?_, fun ⟨s, h, l, e⟩ => ⟨s, List.mem_filter.mpr ⟨h, decide_eq_true l⟩, e.symm⟩⟩
  obtain ⟨h1, h2⟩ := List.mem_filter.mp h
  exact ⟨s, h1, of_decide_eq_true h2, e.symm⟩
theorem mem_pickA {k : Int} (hk : 0 ≤ k) (bs : Lt) : ∀ x, x ∈ pickA k bs ↔ x.Sublist bs ∧ (x.length : Int) ≤ k := by
  induction bs using snocR_ind with
  | h0 =>
    intro x
    show x ∈ [[]] ↔ _
    rw [List.mem_singleton, List.sublist_nil]
    exact ⟨fun e => ⟨e, by rw [e]; simpa using hk⟩, fun h => h.1⟩
  | h1 bs b ih =>
    intro x
    rw [pickA_snoc, mem_pk1]
    constructor
    · rintro (h | ⟨s, h, l, rfl⟩)
      · obtain ⟨h1, h2⟩ := (ih x).mp h
        exact ⟨h1.trans (List.sublist_append_left _ _), h2⟩
      · obtain ⟨h1, h2⟩ := (ih s).mp h
        exact ⟨h1.append (List.Sublist.refl _), by simp; omega⟩
    · rintro ⟨h, l⟩
      obtain ⟨l1, l2, e, s1, s2⟩ := List.sublist_append_iff.mp h
      subst e
      rcases List.sublist_cons_iff.mp s2 with z | ⟨r, e, z⟩
      · rw [List.sublist_nil] at z
        subst z
        rw [List.append_nil] at l ⊢
        exact .inl ((ih l1).mpr ⟨s1, l⟩)
      · rw [List.sublist_nil] at z
        subst z; subst e
        simp at l
        exact .inr ⟨l1, (ih l1).mpr ⟨s1, by omega⟩, by omega, rfl⟩
theorem pickA_head (k : Int) (bs : Lt) : ∃ t, pickA k bs = [] :: t ∧ ∀ x ∈ t, x ≠ [] := by
  induction bs using snocR_ind with
  | h0 => exact ⟨[], rfl, by simp⟩
  | h1 bs b ih =>
    obtain ⟨t, e, h⟩ := ih
    rw [pickA_snoc, e]
    refine ⟨_, rfl, fun x hx => ?_⟩
    rcases List.mem_append.mp hx with hx | hx
    · exact h x hx
    · obtain ⟨s, _, e⟩ := List.mem_map.mp hx
      rw [← e]; simp
theorem mem_picks {k : Int} (hk : 0 ≤ k) {bs x : Lt} : x ∈ picks k bs ↔ x ≠ [] ∧ x.Sublist bs ∧ (x.length : Int) ≤ k := by
  obtain ⟨t, e, h⟩ := pickA_head k bs
  have m := mem_pickA hk bs x
  unfold picks
  rw [e] at m ⊢
  rw [List.drop_succ_cons, List.drop_zero]
  rw [List.mem_cons] at m
  constructor
  · intro hx
    exact ⟨h x hx, m.mp (.inr hx)⟩
  · intro ⟨n, hx⟩
    exact (m.mpr hx).resolve_left n
theorem picks_nil (k : Int) : picks k [] = [] := rfl
theorem picks_ne {k : Int} (hk : 1 ≤ k) {bs : Lt} (h : bs ≠ []) : picks k bs ≠ [] := by
  cases bs with
  | nil => exact absurd rfl h
  | cons b r =>
    refine List.ne_nil_of_mem (a := [b]) ((mem_picks (by omega)).mpr ⟨by simp, ?_, by simp; omega⟩)
    exact List.Sublist.cons_cons b (List.nil_sublist r)
/-! sizes -/
theorem pickA_len {k : Int} (bs : Lt) : (pickA k bs).length ≤ 2 ^ bs.length := by
  induction bs using snocR_ind with
  | h0 => simp [pickA]
  | h1 bs b ih =>
    rw [pickA_snoc, pk1, List.length_append, List.length_map, List.length_append, List.length_singleton, Nat.pow_succ]
    have := List.length_filter_le (fun s : Lt => decide ((s.length : Int) < k)) (pickA k bs)
    omega
theorem picks_len {k : Int} (bs : Lt) : (picks k bs).length ≤ 2 ^ bs.length := by
  unfold picks
  rw [List.length_drop]
  have := pickA_len (k := k) bs
  omega
/-! one round more -/
section
variable {c : Cv} {p : Lt} {k : Int}
theorem exts_sub {D : Lt} : (exts c p D).Sublist p := List.filter_sublist
theorem sub_joinL {D L : Lt} (hp : Pit c p) (h : SubP c p D) (hL : L.Sublist (exts c p D)) : SubP c p (join D L) ∧ (join D L).length = D.length + L.length := by
  have he : ∀ x ∈ L, x ∈ p ∧ x ∉ D ∧ ∀ o ∈ atC c x, o ∈ D := fun x hx => exts_mem.mp (hL.mem hx)
  have lL : Lot c.length L := ⟨hp.lot.1.sublist (hL.trans exts_sub), fun x hx => hp.lot.2 x (he x hx).1⟩
  have lj := h.1.lot.join lL
  refine ⟨⟨⟨lj, fun x hx o ho => ?_⟩, fun x hx => ?_⟩, ?_⟩
  · rcases mem_join.mp hx with hx | hx
    · exact mem_join.mpr (.inl (h.1.full x hx o ho))
    · exact mem_join.mpr (.inl ((he x hx).2.2 o ho))
  · rcases mem_join.mp hx with hx | hx
    · exact h.2 x hx
    · exact (he x hx).1
  · have nd : (D ++ L).Nodup := by
      rw [List.nodup_append]
      exact ⟨List.nodup_iff_pairwise_ne.mpr (h.1.lot.1.imp fun h => by omega), List.nodup_iff_pairwise_ne.mpr (lL.1.imp fun h => by omega), fun x hx y hy e => (he y hy).2.1 (e ▸ hx)⟩
    have nj : (join D L).Nodup := List.nodup_iff_pairwise_ne.mpr (lj.1.imp fun h => by omega)
    have l1 := List.Nodup.length_le_of_subset nd (l₂ := join D L) fun x hx => mem_join.mpr (List.mem_append.mp hx)
    have l2 := List.Nodup.length_le_of_subset nj (l₂ := D ++ L) fun x hx => List.mem_append.mpr (mem_join.mp hx)
    rw [List.length_append] at l1 l2
    omega
theorem nil_sub (hp : Pit c p) : SubP c p [] := ⟨⟨⟨List.Pairwise.nil, by simp⟩, by simp⟩, by simp⟩
theorem sub_full {D : Lt} (hp : Pit c p) (h : SubP c p D) : D.length ≤ p.length := List.Nodup.length_le_of_subset (List.nodup_iff_pairwise_ne.mpr (h.1.lot.1.imp fun h => by omega)) h.2
theorem sub_eq {D : Lt} (hp : Pit c p) (h : SubP c p D) (e : D.length = p.length) : D = p := asc_sub_eq h.1.lot.1 hp.lot.1 h.2 (by omega)
theorem exts_p : exts c p p = [] := by
  rw [List.eq_nil_iff_forall_not_mem]
  intro b hb
  have := exts_mem.mp hb
  exact this.2.1 this.1
def pth (c : Cv) (p : Lt) (k : Int) : Lt → List Lt → Prop
  | _, [] => True
  | D, L :: Ls => L ∈ picks k (exts c p D) ∧ pth c p k (join D L) Ls
def endp (D : Lt) (Ls : List Lt) : Lt := Ls.foldl join D
theorem pth_app {D : Lt} {As Bs : List Lt} : pth c p k D (As ++ Bs) ↔ pth c p k D As ∧ pth c p k (endp D As) Bs := by
  induction As generalizing D with
  | nil => simp [pth, endp]
  | cons A As ih =>
    rw [List.cons_append]
    show (_ ∧ pth c p k _ (As ++ Bs)) ↔ (_ ∧ _) ∧ _
    rw [ih, and_assoc]; rfl
theorem endp_app (D : Lt) (As Bs : List Lt) : endp D (As ++ Bs) = endp (endp D As) Bs := by unfold endp; rw [List.foldl_append]
theorem pth_sub (hk : 0 ≤ k) (hp : Pit c p) {D : Lt} (h : SubP c p D) {Ls : List Lt} (hs : pth c p k D Ls) : SubP c p (endp D Ls) ∧ D.length + Ls.length ≤ (endp D Ls).length := by
  induction Ls generalizing D with
  | nil => exact ⟨h, Nat.le_refl _⟩
  | cons L Ls ih =>
    obtain ⟨h1, h2⟩ := hs
    obtain ⟨n, sb, _⟩ := (mem_picks hk).mp h1
    obtain ⟨h3, e3⟩ := sub_joinL hp h sb
    obtain ⟨h4, h5⟩ := ih h3 h2
    refine ⟨h4, ?_⟩
    have := List.length_pos_iff.mpr n
    rw [List.length_cons]
    have : (endp D (L :: Ls)).length = (endp (join D L) Ls).length := rfl
    omega
def canR (c : Cv) (p : Lt) (k : Int) (n : Nat) (D : Lt) : Prop := ∃ Ls, pth c p k D Ls ∧ Ls.length = n ∧ (endp D Ls).length = p.length
theorem canR_zero {D : Lt} : canR c p k 0 D ↔ D.length = p.length :=
  ⟨fun ⟨Ls, _, e, h⟩ => by rw [List.eq_nil_of_length_eq_zero e] at h; exact h, fun h => ⟨[], True.intro, rfl, h⟩⟩
theorem canR_succ {n : Nat} {D : Lt} : canR c p k (n + 1) D ↔ ∃ L ∈ picks k (exts c p D), canR c p k n (join D L) := by
  constructor
  · rintro ⟨Ls, h, e, f⟩
    match Ls, e with
    | L :: Ls, e => exact ⟨L, h.1, Ls, h.2, by simpa using e, f⟩
  · rintro ⟨L, hL, Ls, h, e, f⟩
    exact ⟨L :: Ls, ⟨hL, h⟩, by simp [e], f⟩
abbrev ltR : Int × Lt → Int × Lt → Bool := ltP ltI (ltLex ltI)
def fewL : List (Int × Lt) → Int × Lt
  | [] => (0, [])
  | r :: rs => minB ltR r rs
def fewR (c : Cv) (p : Lt) (k : Int) : Nat → Lt → Int × Lt
  | 0, _ => (0, [])
  | n + 1, D => fewL ((picks k (exts c p D)).map fun L => (1 + (fewR c p k n (join D L)).1, L))
abbrev fewD (c : Cv) (p : Lt) (k : Int) (D : Lt) : Int × Lt := fewR c p k (p.length - D.length) D
theorem ltR_le {a r : Int × Lt} : (ltR a r = true → a.1 ≤ r.1) ∧ (¬ ltR a r = true → r.1 ≤ a.1) := by
  unfold ltR ltP
  split
  · rename_i e
    exact ⟨fun _ => by omega, fun _ => by omega⟩
  · simp only [ltI, decide_eq_true_eq]
    omega
theorem fold_min : ∀ (rs : List (Int × Lt)) (r : Int × Lt), minB ltR r rs ∈ r :: rs ∧ ∀ q ∈ r :: rs, (minB ltR r rs).1 ≤ q.1
  | [], r => ⟨by simp [minB], fun q hq => by rw [List.mem_singleton.mp hq]; exact Int.le_refl _⟩
  | a :: rs, r => by
    have st : minB ltR r (a :: rs) = minB ltR (if ltR a r = true then a else r) rs := rfl
    rw [st]
    obtain ⟨h1, h2⟩ := fold_min rs (if ltR a r = true then a else r)
    have le : (if ltR a r = true then a else r).1 ≤ r.1 ∧ (if ltR a r = true then a else r).1 ≤ a.1 := by
      by_cases z : ltR a r = true
      · rw [if_pos z]
        exact ⟨ltR_le.1 z, Int.le_refl _⟩
      · rw [if_neg z]
        exact ⟨Int.le_refl _, ltR_le.2 z⟩
    have m := h2 _ List.mem_cons_self
    refine ⟨?_, fun q hq => ?_⟩
    · rcases List.mem_cons.mp h1 with e | h1
      · rw [e]
        split
        · simp
        · simp
      · exact List.mem_cons_of_mem _ (List.mem_cons_of_mem _ h1)
    · rcases List.mem_cons.mp hq with e | hq
      · rw [e]; omega
      · rcases List.mem_cons.mp hq with e | hq
        · rw [e]; omega
        · exact h2 q (List.mem_cons_of_mem _ hq)
theorem pick_st (hk : 0 ≤ k) (hp : Pit c p) {D L : Lt} (h : SubP c p D) (hL : L ∈ picks k (exts c p D)) : SubP c p (join D L) ∧ (join D L).length = D.length + L.length ∧ 1 ≤ L.length ∧ D.length < (join D L).length ∧ (join D L).length ≤ p.length := by
  obtain ⟨n1, sb, _⟩ := (mem_picks hk).mp hL
  obtain ⟨h3, e3⟩ := sub_joinL hp h sb
  have := List.length_pos_iff.mpr n1
  have := sub_full hp h3
  exact ⟨h3, e3, by omega, by omega, by omega⟩
theorem fewR_p : ∀ n, fewR c p k n p = (0, [])
  | 0 => rfl
  | n + 1 => by unfold fewR; rw [exts_p, picks_nil]; rfl
theorem fewR_same (hk : 0 ≤ k) (hp : Pit c p) : ∀ (n m : Nat) (D : Lt), SubP c p D → p.length ≤ n + D.length → p.length ≤ m + D.length → fewR c p k n D = fewR c p k m D
  | 0, m, D, h, e, _ => by
    have := sub_full hp h
    rw [sub_eq hp h (by omega), fewR_p, fewR_p]
  | n + 1, 0, D, h, _, e => by
    have := sub_full hp h
    rw [sub_eq hp h (by omega), fewR_p, fewR_p]
  | n + 1, m + 1, D, h, e1, e2 => by
    have : ((picks k (exts c p D)).map fun L => (1 + (fewR c p k n (join D L)).1, L)) = (picks k (exts c p D)).map fun L => (1 + (fewR c p k m (join D L)).1, L) := by
      refine List.map_congr_left fun L hL => ?_
      obtain ⟨h3, e3, l1, _, _⟩ := pick_st hk hp h hL
      rw [fewR_same hk hp n m _ h3 (by omega) (by omega)]
    unfold fewR
    rw [this]
theorem fewD_eq (hk : 0 ≤ k) (hp : Pit c p) {n : Nat} {D : Lt} (h : SubP c p D) (e : p.length ≤ n + D.length) : fewR c p k n D = fewD c p k D := fewR_same hk hp _ _ D h e (by have := sub_full hp h; omega)
theorem fewR_ok (hv : Vcv c) (hk : 1 ≤ k) (hp : Pit c p) : ∀ (n : Nat) (D : Lt), SubP c p D → p.length ≤ n + D.length → 0 ≤ (fewR c p k n D).1 ∧ canR c p k (fewR c p k n D).1.toNat D ∧ (∀ m : Nat, canR c p k m D → (fewR c p k n D).1 ≤ m) ∧
    (D.length < p.length → (fewR c p k n D).2 ∈ picks k (exts c p D) ∧ (fewR c p k n D).1 = 1 + (fewD c p k (join D (fewR c p k n D).2)).1)
  | 0, D, h, e => by
    have l := sub_full hp h
    refine ⟨Int.le_refl _, canR_zero.mpr (by omega), fun m _ => ?_, fun z => by omega⟩
    show (0 : Int) ≤ m
    omega
  | n + 1, D, h, e => by
    have l := sub_full hp h
    by_cases dp : D.length = p.length
    · rw [sub_eq hp h dp, fewR_p]
      refine ⟨Int.le_refl _, canR_zero.mpr rfl, fun m _ => ?_, fun z => by omega⟩
      show (0 : Int) ≤ m
      omega
    have ne : picks k (exts c p D) ≠ [] := picks_ne hk (exts_ne hv hp h (by omega))
    cases hl : (picks k (exts c p D)).map fun L => (1 + (fewR c p k n (join D L)).1, L) with
    | nil => exact absurd (List.map_eq_nil_iff.mp hl) ne
    | cons r rs =>
      have ev : fewR c p k (n + 1) D = minB ltR r rs := by unfold fewR; rw [hl]; rfl
      obtain ⟨h1, h2⟩ := fold_min rs r
      rw [← ev] at h1 h2
      rw [← hl] at h1 h2
      obtain ⟨L, hL, eL⟩ := List.mem_map.mp h1
      obtain ⟨h3, e3, l1, _, _⟩ := pick_st (by omega) hp h hL
      obtain ⟨i1, i2, i3, _⟩ := fewR_ok hv hk hp n _ h3 (by omega)
      have e4 : (fewR c p k (n + 1) D).1 = 1 + (fewR c p k n (join D L)).1 := by rw [← eL]
      have e5 : (fewR c p k (n + 1) D).2 = L := by rw [← eL]
      refine ⟨by omega, ?_, fun m hm => ?_, fun _ => ⟨by rw [e5]; exact hL, by rw [e4, e5, fewD_eq (by omega) hp h3 (by omega)]⟩⟩
      · have : (fewR c p k (n + 1) D).1.toNat = (fewR c p k n (join D L)).1.toNat + 1 := by omega
        rw [this]
        exact canR_succ.mpr ⟨L, hL, i2⟩
      · cases m with
        | zero => exact absurd (canR_zero.mp hm) dp
        | succ m =>
          obtain ⟨L', hL', hm'⟩ := canR_succ.mp hm
          obtain ⟨h3', e3', l1', _, _⟩ := pick_st (by omega) hp h hL'
          obtain ⟨_, _, i3', _⟩ := fewR_ok hv hk hp n _ h3' (by omega)
          have a := i3' m hm'
          have b := h2 _ (List.mem_map.mpr ⟨L', hL', rfl⟩)
          simp only at b
          omega
theorem few_ok (hv : Vcv c) (hk : 1 ≤ k) (hp : Pit c p) {D : Lt} (h : SubP c p D) : 0 ≤ (fewD c p k D).1 ∧ ∀ m : Nat, (fewD c p k D).1 ≤ m ↔ ∃ j, j ≤ m ∧ canR c p k j D := by
  obtain ⟨h1, h2, h3, _⟩ := fewR_ok hv hk hp _ D h (Nat.le_of_eq (Nat.sub_add_cancel (sub_full hp h)).symm)
  have e : fewR c p k (p.length - D.length) D = fewD c p k D := rfl
  rw [e] at h1 h2 h3
  refine ⟨h1, fun m => ⟨fun z => ⟨_, by omega, h2⟩, fun ⟨j, jm, hj⟩ => ?_⟩⟩
  have := h3 j hj
  omega
end
end Ma

/-! Mq2: all rounds of a pit, by layers; in which rounds a block can be dug. -/
namespace Ma
open PySem Pv Tv
section
variable {c : Cv} {p : Lt} {k : Int}
/-! sizes -/
theorem exts_room {D : Lt} (hp : Pit c p) (h : SubP c p D) : (exts c p D).length + D.length ≤ p.length := by
  have nd : (D ++ exts c p D).Nodup := by
    rw [List.nodup_append]
    exact ⟨List.nodup_iff_pairwise_ne.mpr (h.1.lot.1.imp fun h => by omega), List.nodup_iff_pairwise_ne.mpr ((hp.lot.1.sublist exts_sub).imp fun h => by omega), fun x hx y hy e => (exts_mem.mp hy).2.1 (e ▸ hx)⟩
  have := List.Nodup.length_le_of_subset nd (l₂ := p) fun x hx => (List.mem_append.mp hx).elim (h.2 x) fun z => (exts_mem.mp z).1
  rw [List.length_append] at this
  omega
def wl (n : Nat) (f : List (List Lt)) : Nat := (f.map fun R => 7 ^ (n - R.flatten.length)).sum
/-! where a block can be dug -/
theorem mem_rangeR {n : Nat} {i : Int} : i ∈ rangeL 0 n ↔ 0 ≤ i ∧ i < n := by
  unfold rangeL
  simp only [List.mem_map, List.mem_range]
  constructor
  · rintro ⟨j, h, rfl⟩; omega
  · intro h; exact ⟨i.toNat, by omega, by omega⟩
end
end Ma

/-! Mq3: which values are rounds. -/
namespace Ma
open PySem Pv Tv
/-! a walk that is left where something is wrong -/
/-! lots as values -/
def intsR : List D → Option Lt
  | [] => some []
  | .int i :: r => (intsR r).map (i :: ·)
  | _ :: _ => none
def ascB (l : Lt) : Bool := decide (l = ssrt l)
theorem ascB_iff {l : Lt} : ascB l = true ↔ l.Pairwise (· < ·) := by
  unfold ascB
  rw [decide_eq_true_eq]
  exact ⟨fun e => by rw [e]; exact ssrt_lt l, fun h => asc_ext h (ssrt_lt l) fun x => by rw [ssrt_mem]⟩
def goodL (c : Cv) (p : Lt) (k : Int) (dug l : Lt) : Bool := (decide (1 ≤ (l.length : Int)) && decide ((l.length : Int) ≤ k)) && (ascB l && l.all fun b => decide (b ∈ exts c p dug))
def stepR (c : Cv) (p : Lt) (k : Int) (dug : Lt) (d : D) : Option Lt := match d with
  | .tuple xs => (intsR xs).bind fun l => if goodL c p k dug l = true then some (dug ++ l) else none
  | _ => none
section
variable {c : Cv} {p : Lt} {k : Int}
theorem goodL_iff {dug l : Lt} : goodL c p k dug l = true ↔ (1 ≤ (l.length : Int) ∧ (l.length : Int) ≤ k) ∧ l.Pairwise (· < ·) ∧ ∀ b ∈ l, b ∈ exts c p dug := by
  unfold goodL
  simp only [Bool.and_eq_true, decide_eq_true_eq, ascB_iff, List.all_eq_true]
def DugR (p dug : Lt) : Prop := dug.Nodup ∧ ∀ x ∈ dug, x ∈ p
theorem DugR.len {dug : Lt} (h : DugR p dug) : dug.length ≤ p.length := List.Nodup.length_le_of_subset h.1 h.2
theorem DugR.step {dug : Lt} {d : D} {s' : Lt} (h : DugR p dug) (e : stepR c p k dug d = some s') : DugR p s' := by
  cases d with
  | tuple xs =>
    have e : ((intsR xs).bind fun l => if goodL c p k dug l = true then some (dug ++ l) else none) = some s' := e
    obtain ⟨l, e1, e2⟩ := Option.bind_eq_some_iff.mp e
    split at e2
    · rename_i g
      cases e2
      obtain ⟨_, g2, g3⟩ := goodL_iff.mp g
      refine ⟨List.nodup_append.mpr ⟨h.1, List.nodup_iff_pairwise_ne.mpr (g2.imp fun h => by omega), fun x hx y hy e => (exts_mem.mp (g3 y hy)).2.1 (e ▸ hx)⟩, fun x hx => ?_⟩
      rcases List.mem_append.mp hx with hx | hx
      · exact h.2 x hx
      · exact (exts_mem.mp (g3 x hx)).1
    · cases e2
  | _ => cases e
/-! rounds are told to be rounds -/
end
/-! which values may be judged -/
def simB (d : D) : Bool := match d with
  | .int _ => true
  | .bool _ => true
  | .str _ => true
  | _ => false
def lotV (d : D) : Prop := (∃ xs, d = .tuple xs ∧ xs.length ≤ 60 ∧ ∀ x ∈ xs, simB x = true) ∨ ∃ i, d = .int i
def valV (v : D) : Prop := v = .none ∨ (∃ ds, v = .list ds) ∨ ∃ ds, v = .tuple ds ∧ ds.length ≤ 1000 ∧ ∀ d ∈ ds, lotV d
end Ma

/-! Mq4: blocks with the longest chains behind them first; that is best where each block is needed first by one alone. -/
namespace Ma
open PySem Pv Tv
section
variable {c : Cv} {p : Lt} {k : Int}
def upsH (c : Cv) (p : Lt) (b : Int) : Lt := p.filter fun o => decide (b ∈ atC c o)
def hgN (c : Cv) (p : Lt) : Nat → Int → Int
  | 0, _ => 1
  | t + 1, b => if upsH c p b = [] then 1 else 1 + maxL ((upsH c p b).map (hgN c p t))
abbrev hg (c : Cv) (p : Lt) (b : Int) : Int := hgN c p 10 b
theorem ups_mem {b o : Int} : o ∈ upsH c p b ↔ o ∈ p ∧ b ∈ atC c o := by simp [upsH, List.mem_filter]
theorem ups_gt (hv : Vcv c) (hp : Pit c p) {b o : Int} (h : o ∈ upsH c p b) : b < o ∧ o < c.length ∧ 0 ≤ b := by
  obtain ⟨h1, h2⟩ := ups_mem.mp h
  have o0 := hp.lot.2 o h1
  have := hv.at o0.1 h2
  omega
theorem hgN_same (hv : Vcv c) (hp : Pit c p) : ∀ (t u : Nat) (b : Int), (c.length : Int) ≤ t + b + 1 → (c.length : Int) ≤ u + b + 1 → hgN c p t b = hgN c p u b
  | 0, 0, _, _, _ => rfl
  | 0, u + 1, b, h1, _ => by
    have : upsH c p b = [] := List.eq_nil_iff_forall_not_mem.mpr fun o ho => by have := ups_gt hv hp ho; omega
    rw [hgN, hgN, if_pos this]
  | t + 1, 0, b, _, h1 => by
    have : upsH c p b = [] := List.eq_nil_iff_forall_not_mem.mpr fun o ho => by have := ups_gt hv hp ho; omega
    rw [hgN, hgN, if_pos this]
  | t + 1, u + 1, b, h1, h2 => by
    have : (upsH c p b).map (hgN c p t) = (upsH c p b).map (hgN c p u) := List.map_congr_left fun o ho => hgN_same hv hp t u o (by have := ups_gt hv hp ho; omega) (by have := ups_gt hv hp ho; omega)
    rw [hgN, hgN, this]
theorem hg_eq (hv : Vcv c) (h2 : c.length ≤ 10) (hp : Pit c p) {b : Int} (b0 : 0 ≤ b) : hg c p b = if upsH c p b = [] then 1 else 1 + maxL ((upsH c p b).map (hg c p)) := by
  unfold hg
  rw [hgN_same hv hp 10 11 b (by omega) (by omega)]
  rfl
theorem hgN_pos (t : Nat) (b : Int) : 1 ≤ hgN c p t b := by
  induction t generalizing b with
  | zero => exact Int.le_refl _
  | succ t ih =>
    rw [hgN]
    split
    · exact Int.le_refl _
    · rename_i ne
      have ne2 : (upsH c p b).map (hgN c p t) ≠ [] := fun z => ne (List.map_eq_nil_iff.mp z)
      obtain ⟨o, _, e⟩ := List.mem_map.mp (maxL_mem ne2)
      have := ih o
      omega
theorem hg_lt (hv : Vcv c) (h2 : c.length ≤ 10) (hp : Pit c p) {b o : Int} (h : o ∈ upsH c p b) : hg c p o + 1 ≤ hg c p b := by
  rw [hg_eq hv h2 hp (ups_gt hv hp h).2.2, if_neg (List.ne_nil_of_mem h)]
  have := maxL_ge (List.mem_map.mpr ⟨o, h, rfl⟩ : hg c p o ∈ (upsH c p b).map (hg c p))
  omega
def topH (c : Cv) (p : Lt) (k : Int) (E : Lt) : Lt := ((sortB (ltP ltI ltI) (E.map fun b => (-(hg c p b), b))).take k.toNat).map (·.2)
def stH (c : Cv) (p : Lt) (k : Int) (D : Lt) : Lt := sortB ltI (topH c p k (exts c p D))
def hlR (c : Cv) (p : Lt) (k : Int) : Nat → Lt → List Lt
  | 0, _ => []
  | n + 1, D => if exts c p D = [] then [] else stH c p k D :: hlR c p k n (join D (stH c p k D))
theorem topH_perm (E : Lt) : ((sortB (ltP ltI ltI) (E.map fun b => (-(hg c p b), b))).map (·.2)).Perm E := by
  have h := (sortB_perm (lt := ltP ltI ltI) (E.map fun b => (-(hg c p b), b))).map (·.2)
  rw [List.map_map] at h
  have e : E.map ((fun x : Int × Int => x.2) ∘ fun b => (-(hg c p b), b)) = E := by
    have : ((fun x : Int × Int => x.2) ∘ fun b => (-(hg c p b), b)) = id := rfl
    rw [this, List.map_id]
  rwa [e] at h
theorem topH_sub (E : Lt) : ∀ x ∈ topH c p k E, x ∈ E := fun x hx => by
  unfold topH at hx
  rw [List.map_take] at hx
  exact (topH_perm (c := c) (p := p) E).mem_iff.mp ((List.take_sublist _ _).mem hx)
theorem topH_nd {E : Lt} (h : E.Nodup) : (topH c p k E).Nodup := by
  unfold topH
  rw [List.map_take]
  exact ((topH_perm (c := c) (p := p) E).nodup_iff.mpr h).sublist (List.take_sublist _ _)
theorem topH_len (hk : 0 ≤ k) (E : Lt) : (topH c p k E).length = min k.toNat E.length := by
  unfold topH
  rw [List.length_map, List.length_take, (sortB_perm (lt := ltP ltI ltI) _).length_eq, List.length_map]
theorem ltP_tot : TotB (ltP ltI ltI : Int × Int → Int × Int → Bool) := by
  refine ⟨fun a => by simp [ltP], fun a b c h1 h2 => ?_, fun a b h1 h2 => ?_⟩
  · unfold ltP at *
    split at h1 <;> split at h2 <;> split <;> simp_all <;> (try omega)
  · unfold ltP at *
    split at h1 <;> split at h2 <;> simp_all <;> (try omega)
    exact Prod.ext (by omega) (by omega)
theorem topH_top {E : Lt} {b x : Int} (hb : b ∈ E) (hn : b ∉ topH c p k E) (hx : x ∈ topH c p k E) : hg c p b ≤ hg c p x := by
  have srt := sortB_sorted (ltP_tot) (E.map fun b => (-(hg c p b), b))
  unfold topH at hn hx
  obtain ⟨q, hq, eq⟩ := List.mem_map.mp hx
  have hm : (-(hg c p b), b) ∈ sortB (ltP ltI ltI) (E.map fun b => (-(hg c p b), b)) := (sortB_perm (lt := ltP ltI ltI) _).mem_iff.mpr (List.mem_map.mpr ⟨b, hb, rfl⟩)
  have qm := (sortB_perm (lt := ltP ltI ltI) _).mem_iff.mp ((List.take_sublist _ _).mem hq)
  obtain ⟨y, _, ey⟩ := List.mem_map.mp qm
  have ex : q = (-(hg c p x), x) := by rw [← ey] at eq ⊢; simp only at eq; rw [eq]
  subst ex
  rw [← List.take_append_drop k.toNat (sortB (ltP ltI ltI) (E.map fun b => (-(hg c p b), b)))] at hm srt
  rcases List.mem_append.mp hm with z | z
  · exact absurd (List.mem_map.mpr ⟨_, z, rfl⟩) hn
  · have := (List.pairwise_append.mp srt).2.2 _ hq _ z
    unfold ltP at this
    simp only at this
    split at this
    · rename_i e; omega
    · simp only [ltI, decide_eq_false_iff_not] at this; omega
theorem asc_sublist : ∀ {l m : Lt}, l.Pairwise (· < ·) → m.Pairwise (· < ·) → (∀ x ∈ l, x ∈ m) → l.Sublist m
  | [], m, _, _, _ => List.nil_sublist m
  | a :: l, [], _, _, h => absurd (h a List.mem_cons_self) (by simp)
  | a :: l, b :: m, h1, h2, h => by
    rw [List.pairwise_cons] at h1 h2
    rcases List.mem_cons.mp (h a List.mem_cons_self) with e | hm
    · subst e
      refine List.Sublist.cons_cons a (asc_sublist h1.2 h2.2 fun x hx => ?_)
      rcases List.mem_cons.mp (h x (List.mem_cons_of_mem _ hx)) with z | z
      · have := h1.1 x hx; omega
      · exact z
    · refine List.Sublist.cons b (asc_sublist (List.pairwise_cons.mpr h1) h2.2 fun x hx => ?_)
      rcases List.mem_cons.mp (h x hx) with z | z
      · have := h2.1 a hm
        rcases List.mem_cons.mp hx with y | y
        · omega
        · have := h1.1 x y; omega
      · exact z
theorem exts_ascH (hp : Pit c p) {D : Lt} : (exts c p D).Pairwise (· < ·) := hp.lot.1.sublist exts_sub
theorem exts_ndH (hp : Pit c p) {D : Lt} : (exts c p D).Nodup := List.nodup_iff_pairwise_ne.mpr ((exts_ascH hp).imp fun h => by omega)
theorem stH_mem {D : Lt} {x : Int} : x ∈ stH c p k D ↔ x ∈ topH c p k (exts c p D) := (sortB_perm (lt := ltI) _).mem_iff
theorem stH_len (hk : 0 ≤ k) (D : Lt) : (stH c p k D).length = min k.toNat (exts c p D).length := by
  unfold stH
  rw [(sortB_perm (lt := ltI) _).length_eq, topH_len hk]
theorem stH_pick (hk : 1 ≤ k) (hp : Pit c p) {D : Lt} (h : exts c p D ≠ []) : stH c p k D ∈ picks k (exts c p D) := by
  have nd : (stH c p k D).Nodup := (sortB_perm (lt := ltI) _).nodup_iff.mpr (topH_nd (exts_ndH hp))
  have asc : (stH c p k D).Pairwise (· < ·) := by
    rw [List.nodup_iff_pairwise_ne] at nd
    refine ((sortB_sorted ltI_tot (topH c p k (exts c p D))).and nd).imp fun {a b} z => ?_
    have := z.1; have := z.2
    simp [ltI] at *
    omega
  have ln := stH_len (c := c) (p := p) (k := k) (by omega) D
  have pos := List.length_pos_iff.mpr h
  refine (mem_picks (by omega)).mpr ⟨fun z => ?_, asc_sublist asc (exts_ascH hp) fun x hx => topH_sub _ x (stH_mem.mp hx), by omega⟩
  rw [z, List.length_nil] at ln
  omega
theorem hl_pth (hv : Vcv c) (hk : 1 ≤ k) (hp : Pit c p) : ∀ (n : Nat) (D : Lt), SubP c p D → p.length ≤ n + D.length → pth c p k D (hlR c p k n D) ∧ (endp D (hlR c p k n D)).length = p.length
  | 0, D, h, e => ⟨trivial, by have := sub_full hp h; show D.length = p.length; omega⟩
  | n + 1, D, h, e => by
    unfold hlR
    by_cases z : exts c p D = []
    · rw [if_pos z]
      refine ⟨trivial, ?_⟩
      have := sub_full hp h
      rcases Nat.lt_or_ge D.length p.length with y | y
      · exact absurd z (exts_ne hv hp h y)
      · show D.length = p.length; omega
    · rw [if_neg z]
      have pk := stH_pick hk hp z
      obtain ⟨h3, e3, l1, _, _⟩ := pick_st (by omega) hp h pk
      obtain ⟨i1, i2⟩ := hl_pth hv hk hp n _ h3 (by omega)
      exact ⟨⟨pk, i1⟩, i2⟩
theorem exts_end (hv : Vcv c) (hp : Pit c p) {D : Lt} (h : SubP c p D) : exts c p D = [] ↔ D.length = p.length := by
  have := sub_full hp h
  constructor
  · intro z
    rcases Nat.lt_or_ge D.length p.length with y | y
    · exact absurd z (exts_ne hv hp h y)
    · omega
  · intro z
    rw [sub_eq hp h z, exts_p]
theorem hlR_same (hv : Vcv c) (hk : 1 ≤ k) (hp : Pit c p) : ∀ (n m : Nat) (D : Lt), SubP c p D → p.length ≤ n + D.length → p.length ≤ m + D.length → hlR c p k n D = hlR c p k m D
  | 0, 0, _, _, _, _ => rfl
  | 0, m + 1, D, h, e, _ => by
    have := sub_full hp h
    rw [hlR, hlR, if_pos ((exts_end hv hp h).mpr (by omega))]
  | n + 1, 0, D, h, _, e => by
    have := sub_full hp h
    rw [hlR, hlR, if_pos ((exts_end hv hp h).mpr (by omega))]
  | n + 1, m + 1, D, h, e1, e2 => by
    rw [hlR, hlR]
    by_cases z : exts c p D = []
    · rw [if_pos z, if_pos z]
    · rw [if_neg z, if_neg z]
      obtain ⟨h3, e3, l1, _, _⟩ := pick_st (by omega) hp h (stH_pick hk hp z)
      rw [hlR_same hv hk hp n m _ h3 (by omega) (by omega)]
/-! the bound from below -/
def restN (c : Cv) (p D : Lt) (L : Int) : Lt := p.filter fun b => !decide (b ∈ D) && decide (L ≤ hg c p b)
theorem restN_mem {D : Lt} {L b : Int} : b ∈ restN c p D L ↔ b ∈ p ∧ b ∉ D ∧ L ≤ hg c p b := by simp [restN, List.mem_filter]
theorem restN_nd (hp : Pit c p) {D : Lt} {L : Int} : (restN c p D L).Nodup := List.nodup_iff_pairwise_ne.mpr ((hp.lot.1.sublist List.filter_sublist).imp fun h => by omega)
theorem hg_bound (hv : Vcv c) (h2 : c.length ≤ 10) (hk : 0 ≤ k) (hp : Pit c p) : ∀ (R : List Lt) (D : Lt), SubP c p D → pth c p k D R → (endp D R).length = p.length → ∀ v ∈ p, v ∉ D → hg c p v ≤ R.length
  | [], D, h, _, e, v, hv1, hv2 => by
    have : D = p := sub_eq hp h e
    subst this
    exact absurd hv1 hv2
  | L :: R, D, h, hs, e, v, hv1, hv2 => by
    obtain ⟨h3, e3, l1, _, _⟩ := pick_st hk hp h hs.1
    have ih := hg_bound hv h2 hk hp R (join D L) h3 hs.2 e
    have v0 := hp.lot.2 v hv1
    by_cases hL : v ∈ L
    · rw [hg_eq hv h2 hp v0.1]
      split
      · simp; omega
      · rename_i ne
        have ne2 : (upsH c p v).map (hg c p) ≠ [] := fun z => ne (List.map_eq_nil_iff.mp z)
        obtain ⟨o, ho, eo⟩ := List.mem_map.mp (maxL_mem ne2)
        rw [← eo]
        obtain ⟨o1, o2⟩ := ups_mem.mp ho
        have : o ∉ join D L := fun z => by
          rcases mem_join.mp z with z | z
          · exact hv2 (h.1.full o z v o2)
          · have sb := ((mem_picks hk).mp hs.1).2.1
            exact hv2 ((exts_mem.mp (sb.mem z)).2.2 v o2)
        have := ih o o1 this
        simp; omega
    · have := ih v hv1 fun z => (mem_join.mp z).elim hv2 hL
      simp; omega
theorem hu_low (hv : Vcv c) (h2 : c.length ≤ 10) (hk : 0 ≤ k) (hp : Pit c p) {L : Int} : ∀ (s : Nat) (R : List Lt) (D : Lt), SubP c p D → pth c p k D R → (endp D R).length = p.length → s * k.toNat + 1 ≤ (restN c p D L).length → (s : Int) + L ≤ R.length
  | 0, R, D, h, hs, e, hn => by
    have ne : restN c p D L ≠ [] := fun z => by rw [z] at hn; simp at hn
    obtain ⟨v, hm⟩ := List.exists_mem_of_ne_nil _ ne
    obtain ⟨v1, v2, v3⟩ := restN_mem.mp hm
    have := hg_bound hv h2 hk hp R D h hs e v v1 v2
    simp; omega
  | s + 1, [], D, h, hs, e, hn => by
    have : D = p := sub_eq hp h e
    subst this
    have : restN c D D L = [] := List.eq_nil_iff_forall_not_mem.mpr fun x hx => (restN_mem.mp hx).2.1 (restN_mem.mp hx).1
    rw [this] at hn; simp at hn
  | s + 1, L0 :: R, D, h, hs, e, hn => by
    obtain ⟨h3, e3, l1, _, _⟩ := pick_st hk hp h hs.1
    obtain ⟨_, _, lk⟩ := (mem_picks hk).mp hs.1
    have le : (restN c p D L).length ≤ (restN c p (join D L0) L ++ L0).length := List.Nodup.length_le_of_subset (restN_nd hp) fun x hx => by
      obtain ⟨x1, x2, x3⟩ := restN_mem.mp hx
      by_cases z : x ∈ L0
      · exact List.mem_append.mpr (.inr z)
      · exact List.mem_append.mpr (.inl (restN_mem.mpr ⟨x1, fun y => (mem_join.mp y).elim x2 z, x3⟩))
    rw [List.length_append] at le
    have := hu_low hv h2 hk hp (L := L) s R (join D L0) h3 hs.2 e (by rw [Nat.add_mul, Nat.one_mul] at hn; omega)
    simp; omega
/-! each block is needed first by one alone -/
def SingleC (c : Cv) : Prop := ∀ b o o', b ∈ atC c o → b ∈ atC c o' → 0 ≤ o → 0 ≤ o' → o = o'
def avL (c : Cv) (p D : Lt) (L : Int) : Lt := (exts c p D).filter fun b => decide (L ≤ hg c p b)
theorem avL_mem {D : Lt} {L b : Int} : b ∈ avL c p D L ↔ b ∈ exts c p D ∧ L ≤ hg c p b := by simp [avL, List.mem_filter]
theorem av_mono (hv : Vcv c) (h2 : c.length ≤ 10) (hk : 0 ≤ k) (hp : Pit c p) (hs : SingleC c) {D L0 : Lt} {L : Int} (h : SubP c p D) (hL : L0 ∈ picks k (exts c p D)) : (avL c p (join D L0) L).length ≤ (avL c p D L).length := by
  classical
  obtain ⟨_, sb, _⟩ := (mem_picks hk).mp hL
  have nw : ∀ b ∈ avL c p (join D L0) L, b ∉ exts c p D → ∃ o, o ∈ L0 ∧ o ∈ atC c b := fun b hb hn => by
    obtain ⟨b1, b2, b3⟩ := exts_mem.mp (avL_mem.mp hb).1
    have : ¬ ∀ o ∈ atC c b, o ∈ D := fun z => hn (exts_mem.mpr ⟨b1, fun y => b2 (mem_join.mpr (.inl y)), z⟩)
    obtain ⟨o, ho⟩ := Classical.not_forall.mp this
    obtain ⟨o1, o2⟩ := Classical.not_imp.mp ho
    exact ⟨o, (mem_join.mp (b3 o o1)).resolve_left o2, o1⟩
  let f : Int → Int := fun b => if hb : b ∈ avL c p (join D L0) L ∧ b ∉ exts c p D then (nw b hb.1 hb.2).choose else b
  have fo : ∀ b, b ∈ avL c p (join D L0) L → b ∈ exts c p D → f b = b := fun b _ h2 => dif_neg fun z => z.2 h2
  have fn : ∀ b (h1 : b ∈ avL c p (join D L0) L) (h2 : b ∉ exts c p D), f b ∈ L0 ∧ f b ∈ atC c b := fun b h1 h2 => by
    have e : f b = (nw b h1 h2).choose := dif_pos ⟨h1, h2⟩
    rw [e]; exact (nw b h1 h2).choose_spec
  have pos : ∀ b ∈ avL c p (join D L0) L, b ∈ p ∧ 0 ≤ b := fun b hb => by
    have b1 := (exts_mem.mp (avL_mem.mp hb).1).1
    exact ⟨b1, (hp.lot.2 b b1).1⟩
  have nd : ((avL c p (join D L0) L).map f).Nodup := by
    refine List.pairwise_map.mpr ((List.nodup_iff_pairwise_ne.mp ((exts_ndH hp).sublist List.filter_sublist)).imp_of_mem (S := fun a b => f a ≠ f b) fun {a b} ha hb ne e => ne ?_)
    have ja : ∀ x, x ∈ avL c p (join D L0) L → x ∉ L0 := fun x hx z => (exts_mem.mp (avL_mem.mp hx).1).2.1 (mem_join.mpr (.inr z))
    by_cases za : a ∈ exts c p D <;> by_cases zb : b ∈ exts c p D
    · rw [fo a ha za, fo b hb zb] at e; exact e
    · rw [fo a ha za] at e
      exact absurd (e ▸ (fn b hb zb).1) (ja a ha)
    · rw [fo b hb zb] at e
      exact absurd (e ▸ (fn a ha za).1) (ja b hb)
    · exact hs (f a) a b (fn a ha za).2 (e ▸ (fn b hb zb).2) (pos a ha).2 (pos b hb).2
  have := List.Nodup.length_le_of_subset nd (l₂ := avL c p D L) fun x hx => by
    obtain ⟨b, hb, rfl⟩ := List.mem_map.mp hx
    by_cases z : b ∈ exts c p D
    · rw [fo b hb z]
      exact avL_mem.mpr ⟨z, (avL_mem.mp hb).2⟩
    · obtain ⟨f1, f2⟩ := fn b hb z
      have := hg_lt hv h2 hp (ups_mem.mpr ⟨(pos b hb).1, f2⟩)
      exact avL_mem.mpr ⟨sb.mem f1, by have := (avL_mem.mp hb).2; omega⟩
  rwa [List.length_map] at this
theorem hu_up (hv : Vcv c) (h2 : c.length ≤ 10) (hk : 1 ≤ k) (hp : Pit c p) (hs : SingleC c) : ∀ (n : Nat) (D : Lt), SubP c p D → p.length ≤ n + D.length → D.length < p.length → ∃ (s : Nat) (L : Int), 1 ≤ L ∧ ((hlR c p k n D).length : Int) = s + L ∧ s * k.toNat + 1 ≤ (restN c p D L).length ∧ (1 ≤ s → k.toNat ≤ (avL c p D L).length)
  | 0, D, h, e, l => by omega
  | n + 1, D, h, e, l => by
    have k0 : 0 ≤ k := by omega
    have ne := exts_ne hv hp h l
    have pk := stH_pick hk hp ne
    obtain ⟨h3, e3, l1, _, le⟩ := pick_st k0 hp h pk
    have sl := stH_len (c := c) (p := p) k0 D
    rw [hlR, if_neg ne, List.length_cons]
    rcases Nat.lt_or_ge (join D (stH c p k D)).length p.length with y | y
    · obtain ⟨s, L, L1, T, N, A⟩ := hu_up hv h2 hk hp hs n _ h3 (by omega) y
      by_cases ca : (∀ x ∈ stH c p k D, L ≤ hg c p x) ∧ (stH c p k D).length = k.toNat
      · refine ⟨s + 1, L, L1, by rw [Int.natCast_add, T]; omega, ?_, fun _ => ?_⟩
        · have nd : (restN c p (join D (stH c p k D)) L ++ stH c p k D).Nodup := by
            refine List.nodup_append.mpr ⟨restN_nd hp, ((exts_ndH hp).sublist ((mem_picks k0).mp pk).2.1), fun x hx z hz e => ?_⟩
            subst e
            exact (restN_mem.mp hx).2.1 (mem_join.mpr (.inr hz))
          have := List.Nodup.length_le_of_subset nd (l₂ := restN c p D L) fun x hx => by
            rcases List.mem_append.mp hx with hx | hx
            · obtain ⟨x1, x2, x3⟩ := restN_mem.mp hx
              exact restN_mem.mpr ⟨x1, fun z => x2 (mem_join.mpr (.inl z)), x3⟩
            · have xe := exts_mem.mp (((mem_picks k0).mp pk).2.1.mem hx)
              exact restN_mem.mpr ⟨xe.1, xe.2.1, ca.1 x hx⟩
          rw [List.length_append, ca.2] at this
          rw [Nat.add_mul, Nat.one_mul]
          omega
        · rw [← ca.2]
          exact List.Nodup.length_le_of_subset ((exts_ndH hp).sublist ((mem_picks k0).mp pk).2.1) fun x hx => avL_mem.mpr ⟨((mem_picks k0).mp pk).2.1.mem hx, ca.1 x hx⟩
      · -- all high ones that can be dug are dug, fewer than k
        have cb : (∀ b ∈ exts c p D, L ≤ hg c p b → b ∈ stH c p k D) ∧ (avL c p D L).length < k.toNat := by
          have al : (avL c p D L).length ≤ (exts c p D).length := List.length_filter_le _ _
          by_cases z : (stH c p k D).length = k.toNat
          · have : ¬ ∀ x ∈ stH c p k D, L ≤ hg c p x := fun y => ca ⟨y, z⟩
            obtain ⟨x, hx⟩ := Classical.not_forall.mp this
            obtain ⟨x1, x2⟩ := Classical.not_imp.mp hx
            have all : ∀ b ∈ exts c p D, L ≤ hg c p b → b ∈ stH c p k D := fun b hb hl => Classical.byContradiction fun nb => by
              have := topH_top hb (fun y => nb (stH_mem.mpr y)) (stH_mem.mp x1)
              omega
            refine ⟨all, ?_⟩
            have nd : (x :: avL c p D L).Nodup := List.nodup_cons.mpr ⟨fun y => x2 (avL_mem.mp y).2, (exts_ndH hp).sublist List.filter_sublist⟩
            have := List.Nodup.length_le_of_subset nd (l₂ := stH c p k D) fun y hy => by
              rcases List.mem_cons.mp hy with rfl | hy
              · exact x1
              · exact all y (avL_mem.mp hy).1 (avL_mem.mp hy).2
            rw [List.length_cons] at this
            omega
          · refine ⟨fun b hb _ => ?_, by omega⟩
            have el : (topH c p k (exts c p D)).length = (exts c p D).length := by rw [topH_len k0]; omega
            refine stH_mem.mpr (Classical.byContradiction fun nb => ?_)
            have nd : (b :: topH c p k (exts c p D)).Nodup := List.nodup_cons.mpr ⟨nb, topH_nd (exts_ndH hp)⟩
            have := List.Nodup.length_le_of_subset nd (l₂ := exts c p D) fun y hy => by
              rcases List.mem_cons.mp hy with rfl | hy
              · exact hb
              · exact topH_sub _ y hy
            rw [List.length_cons] at this
            omega
        have s0 : s = 0 := Classical.byContradiction fun z => by
          have := A (by omega)
          have := av_mono hv h2 k0 hp hs (L := L) h pk
          omega
        subst s0
        refine ⟨0, L + 1, by omega, by omega, ?_, fun z => by omega⟩
        rw [Nat.zero_mul, Nat.zero_add] at N ⊢
        have ne2 : restN c p (join D (stH c p k D)) L ≠ [] := fun z => by rw [z] at N; simp at N
        obtain ⟨v, hm⟩ := List.exists_mem_of_ne_nil _ ne2
        obtain ⟨v1, v2, v3⟩ := restN_mem.mp hm
        have vD : v ∉ D := fun z => v2 (mem_join.mpr (.inl z))
        have vE : v ∉ exts c p D := fun z => v2 (mem_join.mpr (.inr (cb.1 v z v3)))
        have : ¬ ∀ o ∈ atC c v, o ∈ D := fun z => vE (exts_mem.mpr ⟨v1, vD, z⟩)
        obtain ⟨o, ho⟩ := Classical.not_forall.mp this
        obtain ⟨o1, o2⟩ := Classical.not_imp.mp ho
        have hl := hg_lt hv h2 hp (ups_mem.mpr ⟨v1, o1⟩)
        exact List.length_pos_iff.mpr (List.ne_nil_of_mem (restN_mem.mpr ⟨hp.full v v1 o o1, o2, by omega⟩))
    · -- all is dug in this round
      have z : exts c p (join D (stH c p k D)) = [] := (exts_end hv hp h3).mpr (by omega)
      have e4 : hlR c p k n (join D (stH c p k D)) = [] := by
        cases n with
        | zero => rfl
        | succ n => rw [hlR, if_pos z]
      rw [e4]
      refine ⟨0, 1, Int.le_refl _, by simp, ?_, fun z => by omega⟩
      rw [Nat.zero_mul, Nat.zero_add]
      obtain ⟨b, hb⟩ := List.exists_mem_of_ne_nil _ ne
      have be := exts_mem.mp hb
      exact List.length_pos_iff.mpr (List.ne_nil_of_mem (restN_mem.mpr ⟨be.1, be.2.1, hgN_pos _ _⟩))
theorem hl_few (hv : Vcv c) (h2 : c.length ≤ 10) (hk : 1 ≤ k) (hp : Pit c p) : (fewD c p k []).1 ≤ (hlR c p k p.length []).length ∧ (SingleC c → (fewD c p k []).1 = (hlR c p k p.length []).length) := by
  obtain ⟨h1, hw⟩ := hl_pth hv hk hp p.length [] (nil_sub hp) (by simp)
  obtain ⟨f1, f2⟩ := few_ok hv hk hp (nil_sub hp)
  have le := (f2 (hlR c p k p.length []).length).mpr ⟨_, Nat.le_refl _, _, h1, rfl, hw⟩
  refine ⟨le, fun hs => ?_⟩
  by_cases z : p.length = 0
  · rw [z] at le ⊢
    have e : hlR c p k 0 [] = [] := rfl
    rw [e] at le ⊢
    simp at le ⊢
    omega
  · obtain ⟨s, L, L1, T, N, _⟩ := hu_up hv h2 hk hp hs p.length [] (nil_sub hp) (by simp) (by simp; omega)
    obtain ⟨j, j1, R, r1, r2, r3⟩ := (f2 (fewD c p k []).1.toNat).mp (by omega)
    have := hu_low hv h2 (by omega) hp s R [] (nil_sub hp) r1 r3 N
    omega
end
end Ma

namespace Lw
open PySem PySem.Spec PySem.SeqAt L2 Pv
def top (i : Nat) : Stmt := PySem.Challenge.pw_pitlots_k34_whole_longest_chains_first.main.body.getD i (.Pass ⟨0, 0, 0, 0⟩)
def clsBd : Stmt → List Stmt
  | .ClassDef (body := b) .. => b
  | _ => []
def mth (i j : Nat) : Stmt := (clsBd (top i)).getD j (.Pass ⟨0, 0, 0, 0⟩)
def mkD (n : Str) (st : Stmt) : He.DefD := ⟨(n, none), n, n, defArgs st, defBody st, defScope st, [], []⟩
def mkM (c n q : Str) (st : Stmt) : He.DefD := ⟨(c, some n), n, q, defArgs st, defBody st, defScope st, [], []⟩
def fn : List He.DefD := [mkD "need_ground" (top 13), mkD "rises" (top 10), mkD "is_from" (top 9), mkM "Ground" "__len__" "Ground.__len__" (mth 12 2), mkD "is_block" (top 14), mkD "is_lot" (top 16), mkD "need_lot" (top 17), mkD "is_full" (top 18), mkD "need_pit" (top 19), mkD "need_machines" (top 24), mkD "heights_in" (top 30), mkD "next_in" (top 21), mkD "highest_first" (top 31), mkD "picked" (top 25), mkD "later_of" (top 26), mkD "rest_rounds" (top 27), mkD "rest_rounds" (top 27), mkD "fewest_rounds" (top 28), mkD "_law_taken" (top 33), mkD "_law_single" (top 42), mkD "_law_covers" (top 35), mkD "_law_lots" (top 36), mkD "_law_is_pit" (top 37), mkD "_law_pits" (top 38), mkD "_law_a_pit" (top 39), mkD "is_cover" (top 11), mkM "Ground" "__init__" "Ground.__init__" (mth 12 0), mkD "_law_next" (top 41), mkD "round_count" (top 29), mkD "_law_height" (top 43), mkD "law" (top 44)]
def fa : List He.Fa := [.glo "Ground", .free "isinstance", .free "len", .free "range", .free "all", .free "int", .free "bool", .meth "Ground" "__len__", .glo "is_from", .free "tuple", .glo "is_block", .glo "rises", .glo "need_ground", .glo "is_lot", .glo "need_lot", .glo "is_full", .int "MOST_MACHINES" 4, .free "max", .glo "need_pit", .glo "need_machines", .glo "heights_in", .glo "next_in", .free "sorted", .glo "picked", .glo "later_of", .glo "rest_rounds", .free "min", .glo "rest_rounds", .glo "_law_taken", .free "list", .glo "_law_lots", .glo "_law_is_pit", .glo "_law_pits", .int "MOST_BLOCKS" 10, .free "enumerate", .glo "is_cover", .glo "_law_height", .glo "_law_single", .glo "_law_covers", .mkr "Ground", .glo "_law_a_pit", .glo "_law_next", .glo "highest_first", .glo "fewest_rounds", .glo "round_count", .glo "law"]
def cs : ClsT := [⟨"Ground", ["table"], [("covers", "table")], [], [], []⟩]
def fuW : Nat := 50
/-! need_ground -/
abbrev N_need_ground : List Str := ["ground"]
def m_need_ground : SM := (exIf (tvNot (tvB (evIsi [.cls 0] (evVar 0)))) exBad exPass)
def c_need_ground : CM := runB false 1 m_need_ground
/-! rises -/
abbrev N_rises : List Str := ["value", "at"]
def m_rises : SM := (exRet (evCall gAll (evCons (evComp (ivArgs rng2 (evCons (evC (.int 1)) (evCons (evCall gLen (evCons (evVar 0) evNil)) evNil))) (tgName [] 1) tvYes (evBin gLtD (evBin gIx (evVar 0) (evBin Pv.gSub (evVar 1) (evC (.int 1)))) (evBin gIx (evVar 0) (evVar 1))) [1]) evNil)))
def c_rises : CM := runB false 2 m_rises
/-! is_from -/
abbrev N_is_from : List Str := ["value", "low", "high"]
def m_is_from : SM := (exRet (evAnd (evIsi [.ty "int"] (evVar 0)) (evAnd (evNot (evIsi [.ty "bool"] (evVar 0))) (evChain gLeD gLeD (evVar 1) (evVar 0) (evVar 2)))))
def c_is_from : CM := runB false 3 m_is_from
/-! Ground.__len__ -/
abbrev N_Ground___len__ : List Str := ["self"]
def m_Ground___len__ : SM := (exRet (evCall gLen (evCons (evUn (fldD (fnsOf cs) "table") (evVar 0)) evNil)))
def c_Ground___len__ : CM := runB false 1 m_Ground___len__
/-! len of instances -/
def lmT : Int → Option (Nat × CM)
  | 0 => some (1, c_Ground___len__)
  | _ => none
/-! is_block -/
abbrev N_is_block : List Str := ["ground", "value"]
def m_is_block : SM := (exRet (evCallL 3 c_is_from (evCons (evVar 1) (evCons (evC (.int 0)) (evCons (evBin Pv.gSub (evLen lmT (evVar 0)) (evC (.int 1))) evNil)))))
def c_is_block : CM := runB false 2 m_is_block
/-! is_lot -/
abbrev N_is_lot : List Str := ["ground", "value", "one"]
def m_is_lot : SM := (exRet (evAnd (evIsi [.ty "tuple"] (evVar 1)) (evAnd (evCall gAll (evCons (evComp (ivSeq (evVar 1)) (tgName [] 2) tvYes (evCallL 2 c_is_block (evCons (evVar 0) (evCons (evVar 2) evNil))) [2]) evNil)) (evCallL 1 c_rises (evCons (evVar 1) evNil)))))
def c_is_lot : CM := runB false 3 m_is_lot
/-! need_lot -/
abbrev N_need_lot : List Str := ["ground", "lot"]
def m_need_lot : SM := (exSeq (exExpr (evCallL 1 c_need_ground (evCons (evVar 0) evNil)))
  (exIf (tvNot (tvB (evCallL 2 c_is_lot (evCons (evVar 0) (evCons (evVar 1) evNil))))) exBad exPass))
def c_need_lot : CM := runB false 2 m_need_lot
/-! is_full -/
abbrev N_is_full : List Str := ["ground", "lot", "block", "one"]
def m_is_full : SM := (exRet (evCall gAll (evCons (evComp2 (ivSeq (evVar 1)) (tgName [] 2) tvYes (ivSeq (evBin gIx (evUn (fldD (fnsOf cs) "table") (evVar 0)) (evVar 2))) (tgName [] 3) tvYes (evBin gInD (evVar 3) (evVar 1)) [2, 3] [3]) evNil)))
def c_is_full : CM := runB false 4 m_is_full
/-! need_pit -/
abbrev N_need_pit : List Str := ["ground", "pit"]
def m_need_pit : SM := (exSeq (exExpr (evCallL 2 c_need_lot (evCons (evVar 0) (evCons (evVar 1) evNil))))
  (exIf (tvNot (tvB (evCallL 2 c_is_full (evCons (evVar 0) (evCons (evVar 1) evNil))))) exBad exPass))
def c_need_pit : CM := runB false 2 m_need_pit
/-! need_machines -/
abbrev N_need_machines : List Str := ["value"]
def m_need_machines : SM := (exIf (tvNot (tvB (evCallL 3 c_is_from (evCons (evVar 0) (evCons (evC (.int 1)) (evCons (evC (.int 4)) evNil)))))) exBad exPass)
def c_need_machines : CM := runB false 1 m_need_machines
/-! heights_in -/
abbrev N_heights_in : List Str := ["ground", "pit", "found", "block", "behind", "other"]
def m_heights_in : SM := (exSeq (exAsg [] 2 (evDNew false))
  (exSeq (exPre ([3, 4], []) (exFor (ivSeq (evRevT (evVar 1))) (tgName [] 3) (exKill [3, 4] (exSeq (exAsg [] 4 (evComp (ivSeq (evVar 1)) (tgName [] 5) (tvB (evBin gInD (evVar 3) (evBin gIx (evUn (propD (fnsOf cs) 0 "table") (evVar 0)) (evVar 5)))) (evBin gDGet (evVar 2) (evVar 5)) [5]))
  (exDPut 2 (evVar 3) (evIf (tvT (evVar 4)) (evBin gAdd (evC (.int 1)) (evCall (gMM PySem.W.maxD) (evCons (evVar 4) evNil))) (evC (.int 1))))))))
  (exRet (evVar 2))))
def c_heights_in : CM := runB false 6 m_heights_in
/-! next_in -/
abbrev N_next_in : List Str := ["ground", "pit", "dug", "some", "block", "other"]
def m_next_in : SM := (exSeq (exAsg [] 3 (evComp (ivSeq (evVar 1)) (tgName [] 4) (tvB (evBin gNotInD (evVar 4) (evVar 2))) (evVar 4) [4]))
  (exRet (evComp (ivSeq (evVar 3)) (tgName [] 4) (tvB (evCall gAll (evCons (evComp (ivSeq (evBin gIx (evUn (propD (fnsOf cs) 0 "table") (evVar 0)) (evVar 4))) (tgName [] 5) tvYes (evBin gInD (evVar 5) (evVar 2)) [5]) evNil))) (evVar 4) [4])))
def c_next_in : CM := runB false 6 m_next_in
/-! highest_first -/
abbrev N_highest_first : List Str := ["ground", "pit", "machines", "heights", "dug", "found", "some", "block", "height"]
def m_highest_first : SM := (exSeq (exExpr (evCallL 2 c_need_pit (evCons (evVar 0) (evCons (evVar 1) evNil))))
  (exSeq (exExpr (evCallL 1 c_need_machines (evCons (evVar 2) evNil)))
  (exSeq (exPar [] [3, 4, 5] (evCons (evCallL 2 c_heights_in (evCons (evVar 0) (evCons (evVar 1) evNil))) (evCons (evTup evNil) (evCons (evLst evNil) evNil))))
  (exSeq (exPre ([6], []) (exWhile (tvB (evBin gLtD (evCall gLen (evCons (evVar 4) evNil)) (evCall gLen (evCons (evVar 1) evNil)))) (exKill [6] (exSeq (exAsg [] 6 (evSl (evCall gSorted (evCons (evComp (ivSeq (evCallL 3 c_next_in (evCons (evVar 0) (evCons (evVar 1) (evCons (evVar 4) evNil))))) (tgName [] 7) tvYes (evTup (evCons (evUn gNeg (evBin gDGet (evVar 3) (evVar 7))) (evCons (evVar 7) evNil))) [7]) evNil)) opNone (opSome (evVar 2))))
  (exSeq (exExpr (evMut fAppend 5 (evCons (evCall gTuple (evCons (evCall gSorted (evCons (evComp (ivSeq (evVar 6)) (tgTup 2 (tgCons (tgName [] 8) (tgCons (tgName [] 7) tgNil))) tvYes (evVar 7) [7, 8]) evNil)) evNil)) evNil)))
  (exAsg [] 4 (evCall gTuple (evCons (evCall gSorted (evCons (evLst (evStar (evVar 4) (evStar (evBin gIx (evVar 5) (evUn gNeg (evC (.int 1)))) evNil))) evNil)) evNil)))))) fuW))
  (exRet (evCall gTuple (evCons (evVar 5) evNil)))))))
def c_highest_first : CM := runB false 9 m_highest_first
/-! picked -/
abbrev N_picked : List Str := ["blocks", "many", "found", "block", "some"]
def m_picked : SM := (exSeq (exAsg [] 2 (evLst (evCons (evTup evNil) evNil)))
  (exSeq (exPre ([3], []) (exFor (ivSeq (evVar 0)) (tgName [] 3) (exKill [3] (exAsg [] 2 (evBin gAdd (evVar 2) (evComp (ivSeq (evVar 2)) (tgName [] 4) (tvB (evBin gLtD (evCall gLen (evCons (evVar 4) evNil)) (evVar 1))) (evTup (evStar (evVar 4) (evCons (evVar 3) evNil))) [4]))))))
  (exRet (evSl (evVar 2) (opSome (evC (.int 1))) opNone))))
def c_picked : CM := runB false 5 m_picked
/-! later_of -/
abbrev N_later_of : List Str := ["ground", "pit", "machines", "dug", "some", "lot"]
def m_later_of : SM := (exSeq (exAsg [] 4 (evCallL 2 c_picked (evCons (evCallL 3 c_next_in (evCons (evVar 0) (evCons (evVar 1) (evCons (evVar 3) evNil)))) (evCons (evVar 2) evNil))))
  (exRet (evComp (ivSeq (evVar 4)) (tgName [] 5) tvYes (evTup (evCons (evCall gTuple (evCons (evCall gSorted (evCons (evLst (evStar (evVar 3) (evStar (evVar 5) evNil))) evNil)) evNil)) (evCons (evVar 5) evNil))) [5])))
def c_later_of : CM := runB false 6 m_later_of
/-! filled, within rest_rounds -/
abbrev N_filled : List Str := ["dug", "ground", "pit", "machines", "filled", "found", "rows", "later", "lot"]
abbrev fr_filled : List Str := ["ground", "pit", "machines", "filled", "found"]
abbrev q_filled : Str := "rest_rounds.<locals>.filled"
def st_filled : Stmt := (defBody (top 27)).getD 1 (.Pass ⟨0, 0, 0, 0⟩)
def m_filled (self : CM) : SM := (exSeq (exIf (tvB (evBin gDNot (evVar 0) (evVar 5))) (exKill [6] (exSeq (exAsg [5] 6 (evComp (ivSeq (evCallL 4 c_later_of (evCons (evVar 1) (evCons (evVar 2) (evCons (evVar 3) (evCons (evVar 0) evNil)))))) (tgTup 2 (tgCons (tgName [] 7) (tgCons (tgName [] 8) tgNil))) tvYes (evTup (evCons (evBin gAdd (evC (.int 1)) (evCallI 6 self (evRotP (evNfn 4 (evCons (evVar 7) (evVars [1, 2, 3, 4, 5])))))) (evCons (evVar 8) evNil))) [7, 8]))
  (exDPut 5 (evVar 0) (evIf (tvT (evVar 6)) (evCall (gMM PySem.W.minD) (evCons (evVar 6) evNil)) (evTup (evCons (evC (.int 0)) (evCons (evTup evNil) evNil))))))) (exKill [6] exPass))
  (exRet (evBin gIx (evBin gDGet (evVar 5) (evVar 0)) (evC (.int 0)))))
def c_filled : Nat → CM
  | 0 => fun _ => none
  | t + 1 => runQ 6 9 (m_filled (c_filled t))
/-! rest_rounds -/
abbrev N_rest_rounds : List Str := ["ground", "pit", "machines", "found", "filled"]
noncomputable def m_rest_rounds : SM := (exSeq (exAsg [] 3 (evDNew true))
  (exSeq (exNdef [] 4)
  (exSeq (exExpr (evCallI 6 (c_filled 12) (evRotP (evNfn 4 (evCons (evTup evNil) (evVars [0, 1, 2, 4, 3]))))))
  (exRet (evVar 3)))))
noncomputable def c_rest_rounds : CM := guardN (runB false 5 m_rest_rounds)
/-! fewest_rounds -/
abbrev N_fewest_rounds : List Str := ["ground", "pit", "machines"]
noncomputable def m_fewest_rounds : SM := (exSeq (exExpr (evCallL 2 c_need_pit (evCons (evVar 0) (evCons (evVar 1) evNil))))
  (exSeq (exExpr (evCallL 1 c_need_machines (evCons (evVar 2) evNil)))
  (exRet (evBin gIx (evBin gDGet (evCallL 3 c_rest_rounds (evCons (evVar 0) (evCons (evVar 1) (evCons (evVar 2) evNil)))) (evTup evNil)) (evC (.int 0))))))
noncomputable def c_fewest_rounds : CM := runB false 3 m_fewest_rounds
/-! _law_taken -/
abbrev N__law_taken : List Str := ["_law_row", "_law_many", "_law_found", "_law_cell"]
noncomputable def m__law_taken : SM := (exSeq (exIf (tvB (evBin gGtD (evBin gIx (evVar 0) (evC (.int 3))) (evC (.int 0)))) (exSeq (exAsg [0] 2 (evBin gMod (evCall gInt (evCons (evBin gIx (evVar 0) (evC (.int 3))) evNil)) (evVar 1)))
  (exSeq (exSto 0 (evC (.int 3)) (evBin gFdiv (evBin gIx (evVar 0) (evC (.int 3))) (evVar 1)))
  (exRet (evVar 2)))) exPass)
  (exSeq (exSto 0 (evC (.int 1)) (evBin gAdd (evBin gIx (evVar 0) (evC (.int 1))) (evC (.int 1))))
  (exSeq (exIf (tvB (evBin gGtD (evBin gIx (evVar 0) (evC (.int 1))) (evCall gLen (evCons (evBin gIx (evVar 0) (evC (.int 0))) evNil)))) (exSeq (exSto 0 (evC (.int 2)) (evBin gMod (evCall gInt (evCons (evBin gAdd (evBin gMulA (evBin gIx (evVar 0) (evC (.int 2))) (evC (.int 48271))) (evC (.int 11))) evNil)) (evC (.int 2147483647))))
  (exRet (evBin gMod (evCall gInt (evCons (evBin gFdiv (evBin gIx (evVar 0) (evC (.int 2))) (evC (.int 7))) evNil)) (evVar 1)))) exPass)
  (exSeq (exAsg [0] 3 (evBin gIx (evBin gIx (evVar 0) (evC (.int 0))) (evBin Pv.gSub (evBin gIx (evVar 0) (evC (.int 1))) (evC (.int 1)))))
  (exSeq (exSto 0 (evC (.int 2)) (evBin gMod (evCall gInt (evCons (evBin gAdd (evBin gAdd (evBin gMulA (evBin gIx (evVar 0) (evC (.int 2))) (evC (.int 48271))) (evVar 3)) (evC (.int 11))) evNil)) (evC (.int 2147483647))))
  (exSeq (exIf (tvB (evBin gGeD (evVar 3) (evBin gPow (evC (.int 10)) (evC (.int 18))))) (exSto 0 (evC (.int 3)) (evBin gFdiv (evVar 3) (evVar 1))) exPass)
  (exRet (evBin gMod (evCall gInt (evCons (evVar 3) evNil)) (evVar 1)))))))))
noncomputable def c__law_taken : CM := runB true 4 m__law_taken
/-! _law_single -/
abbrev N__law_single : List Str := ["_law_row", "_law_many", "_law_goals", "_law_found", "_law_block", "_law_one"]
noncomputable def m__law_single : SM := (exSeq (exAsg [0] 1 (evBin gAdd (evC (.int 1)) (evCallI 2 c__law_taken (evCons (evVar 0) (evCons (evC (.int 7)) evNil)))))
  (exSeq (exAsg [0] 2 (evComp (ivArgs rng1 (evCons (evVar 1) evNil)) (tgName [] 4) tvYes (evBin gAdd (evBin gAdd (evVar 4) (evC (.int 1))) (evCallI 2 c__law_taken (evCons (evVar 0) (evCons (evBin Pv.gSub (evVar 1) (evVar 4)) evNil)))) [4]))
  (exSeq (exAsg [0] 3 (evLst evNil))
  (exSeq (exPre ([4], []) (exFor (ivArgs rng1 (evCons (evVar 1) evNil)) (tgName [0] 4) (exKill [4] (exExpr (evMut fAppend 3 (evCons (evCall gTuple (evCons (evComp (ivArgs rng1 (evCons (evVar 4) evNil)) (tgName [] 5) (tvB (evBin gEqD (evBin gIx (evVar 2) (evVar 5)) (evVar 4))) (evVar 5) [5]) evNil)) evNil))))))
  (exRet (evCall gTuple (evCons (evVar 3) evNil)))))))
noncomputable def c__law_single : CM := runB true 6 m__law_single
/-! _law_covers -/
abbrev N__law_covers : List Str := ["_law_row", "_law_most", "_law_found", "_law_way", "_law_many", "_law_block", "_law_some", "_law_one"]
noncomputable def m__law_covers : SM := (exSeq (exPar [0] [2, 3, 4] (evCons (evLst evNil) (evCons (evCallI 2 c__law_taken (evCons (evVar 0) (evCons (evC (.int 7)) evNil))) (evCons (evBin gAdd (evC (.int 1)) (evCallI 2 c__law_taken (evCons (evVar 0) (evCons (evVar 1) evNil)))) evNil))))
  (exSeq (exPre ([5, 6], []) (exFor (ivArgs rng1 (evCons (evVar 4) evNil)) (tgName [0] 5) (exKill [5, 6] (exSeq (exAsg [0] 6 (evComp (ivArgs rng1 (evCons (evVar 5) evNil)) (tgName [] 7) (tvB (evBin gEqD (evCallI 2 c__law_taken (evCons (evVar 0) (evCons (evC (.int 3)) evNil))) (evC (.int 0)))) (evVar 7) [7]))
  (exSeq (exIf (tvB (evBin gEqD (evVar 3) (evC (.int 0)))) (exAsg [0] 6 (evLst evNil)) exPass)
  (exSeq (exIf (tvB (evBin gEqD (evVar 3) (evC (.int 1)))) (exAsg [0] 6 (evSl (evUn gLRg1 (evVar 5)) (opSome (evUn gNeg (evC (.int 1)))) opNone)) exPass)
  (exSeq (exIf (tvB (evBin gEqD (evVar 3) (evC (.int 2)))) (exAsg [0] 6 (evComp (ivArgs rng1 (evCons (evVar 5) evNil)) (tgName [] 7) (tvB (evChain gLtD gLeD (evBin gMulA (evC (.int 2)) (evVar 7)) (evVar 4) (evBin gMulA (evC (.int 2)) (evVar 5)))) (evVar 7) [7])) exPass)
  (exSeq (exIf (tvB (evBin gEqD (evVar 3) (evC (.int 3)))) (exAsg [0] 6 (evComp (ivSeq (evVar 6)) (tgName [] 7) (tvB (evBin gLtD (evBin Pv.gSub (evVar 5) (evVar 7)) (evC (.int 3)))) (evVar 7) [7])) exPass)
  (exExpr (evMut fAppend 2 (evCons (evCall gTuple (evCons (evVar 6) evNil)) evNil)))))))))))
  (exRet (evCall gTuple (evCons (evVar 2) evNil)))))
noncomputable def c__law_covers : CM := runB true 8 m__law_covers
/-! _law_lots -/
abbrev N__law_lots : List Str := ["_law_many", "_law_found", "_law_block", "_law_lot", "_law_size"]
noncomputable def m__law_lots : SM := (exSeq (exAsg [] 1 (evLst (evCons (evTup evNil) evNil)))
  (exSeq (exPre ([2], []) (exFor (ivArgs rng1 (evCons (evVar 0) evNil)) (tgName [] 2) (exKill [2] (exAsg [] 1 (evBin gAdd (evVar 1) (evComp (ivSeq (evVar 1)) (tgName [] 3) tvYes (evBin gAdd (evVar 3) (evTup (evCons (evVar 2) evNil))) [3]))))))
  (exRet (evComp (ivSeq (evCall gSorted (evCons (evComp (ivSeq (evVar 1)) (tgName [] 3) tvYes (evTup (evCons (evCall gLen (evCons (evVar 3) evNil)) (evCons (evVar 3) evNil))) [3]) evNil))) (tgTup 2 (tgCons (tgName [] 4) (tgCons (tgName [] 3) tgNil))) tvYes (evVar 3) [3, 4]))))
noncomputable def c__law_lots : CM := runB false 5 m__law_lots
/-! _law_is_pit -/
abbrev N__law_is_pit : List Str := ["_law_covers_here", "_law_lot", "_law_block", "_law_one"]
noncomputable def m__law_is_pit : SM := (exSeq (exPre ([2], []) (exFor (ivSeq (evVar 1)) (tgName [] 2) (exKill [2] (exIf (tvB (evBin gNeD (evComp (ivSeq (evBin gIx (evVar 0) (evVar 2))) (tgName [] 3) (tvB (evBin gNotInD (evVar 3) (evVar 1))) (evVar 3) [3]) (evLst evNil))) (exRet (evC (.bool false))) exPass))))
  (exRet (evC (.bool true))))
noncomputable def c__law_is_pit : CM := runB false 4 m__law_is_pit
/-! _law_pits -/
abbrev N__law_pits : List Str := ["_law_covers_here", "_law_lot"]
noncomputable def m__law_pits : SM := (exRet (evComp (ivSeq (evCallL 1 c__law_lots (evCons (evCall gLen (evCons (evVar 0) evNil)) evNil))) (tgName [] 1) (tvB (evCallL 2 c__law_is_pit (evCons (evVar 0) (evCons (evVar 1) evNil)))) (evVar 1) [1]))
noncomputable def c__law_pits : CM := runB false 2 m__law_pits
/-! _law_a_pit -/
abbrev N__law_a_pit : List Str := ["_law_row", "_law_covers_here", "_law_pits_there"]
noncomputable def m__law_a_pit : SM := (exSeq (exAsg [0] 2 (evCallL 1 c__law_pits (evCons (evVar 1) evNil)))
  (exRet (evIf (tvB (evBin gGtD (evCallI 2 c__law_taken (evCons (evVar 0) (evCons (evC (.int 3)) evNil))) (evC (.int 0)))) (evBin gIx (evVar 2) (evUn gNeg (evC (.int 1)))) (evBin gIx (evVar 2) (evCallI 2 c__law_taken (evCons (evVar 0) (evCons (evCall gLen (evCons (evVar 2) evNil)) evNil)))))))
noncomputable def c__law_a_pit : CM := runB true 3 m__law_a_pit
/-! is_cover -/
abbrev N_is_cover : List Str := ["value", "block", "one"]
noncomputable def m_is_cover : SM := (exRet (evAnd (evIsi [.ty "tuple"] (evVar 0)) (evAnd (evCall gAll (evCons (evComp (ivSeq (evVar 0)) (tgName [] 2) tvYes (evCallL 3 c_is_from (evCons (evVar 2) (evCons (evC (.int 0)) (evCons (evBin Pv.gSub (evVar 1) (evC (.int 1))) evNil)))) [2]) evNil)) (evCallL 1 c_rises (evCons (evVar 0) evNil)))))
noncomputable def c_is_cover : CM := runB false 3 m_is_cover
/-! Ground.__init__ -/
abbrev N_Ground___init__ : List Str := ["self", "covers", "index", "value"]
noncomputable def m_Ground___init__ : SM := (exSeq (exIf (tvOr (tvNot (tvB (evIsi [.ty "tuple"] (evVar 1)))) (tvNot (tvB (evChain gLeD gLeD (evC (.int 1)) (evCall gLen (evCons (evVar 1) evNil)) (evC (.int 10)))))) exBad exPass)
  (exSeq (exPre ([2, 3], []) (exFor (ivEnum (evVar 1)) (tgTup 2 (tgCons (tgName [0] 2) (tgCons (tgName [0] 3) tgNil))) (exKill [2, 3] (exIf (tvNot (tvB (evCallL 2 c_is_cover (evCons (evVar 3) (evCons (evVar 2) evNil))))) exBad exPass))))
  (exFld (fnsOf cs) 0 "table" (evVar 1))))
noncomputable def c_Ground___init__ : CM := runB true 4 m_Ground___init__
/-! _law_next -/
abbrev N__law_next : List Str := ["_law_covers_here", "_law_pit", "_law_dug", "_law_found", "_law_block", "_law_other"]
noncomputable def m__law_next : SM := (exSeq (exAsg [] 3 (evLst evNil))
  (exSeq (exPre ([4], []) (exFor (ivSeq (evVar 1)) (tgName [] 4) (exKill [4] (exIf (tvAnd (tvB (evBin gNotInD (evVar 4) (evVar 2))) (tvB (evBin gEqD (evComp (ivSeq (evBin gIx (evVar 0) (evVar 4))) (tgName [] 5) (tvB (evBin gNotInD (evVar 5) (evVar 2))) (evVar 5) [5]) (evLst evNil)))) (exExpr (evMut fAppend 3 (evCons (evVar 4) evNil))) exPass))))
  (exRet (evVar 3))))
noncomputable def c__law_next : CM := runB false 6 m__law_next
/-! round_count -/
abbrev N_round_count : List Str := ["ground", "pit", "machines", "value", "dug", "lot", "block"]
noncomputable def m_round_count : SM := (exSeq (exExpr (evCallL 2 c_need_pit (evCons (evVar 0) (evCons (evVar 1) evNil))))
  (exSeq (exExpr (evCallL 1 c_need_machines (evCons (evVar 2) evNil)))
  (exSeq (exIf (tvNot (tvB (evIsi [.ty "tuple"] (evVar 3)))) (exRet (evC .none)) exPass)
  (exSeq (exAsg [] 4 (evTup evNil))
  (exSeq (exPre ([5], []) (exFor (ivSeq (evVar 3)) (tgName [] 5) (exKill [5] (exSeq (exIf (tvOr (tvNot (tvB (evCallL 2 c_is_lot (evCons (evVar 0) (evCons (evVar 5) evNil))))) (tvNot (tvB (evChain gLeD gLeD (evC (.int 1)) (evCall gLen (evCons (evVar 5) evNil)) (evVar 2))))) (exRet (evC .none)) exPass)
  (exSeq (exIf (tvNot (tvB (evCall gAll (evCons (evComp (ivSeq (evVar 5)) (tgName [] 6) tvYes (evBin gInD (evVar 6) (evCallL 3 c_next_in (evCons (evVar 0) (evCons (evVar 1) (evCons (evVar 4) evNil))))) [6]) evNil)))) (exRet (evC .none)) exPass)
  (exAsg [] 4 (evCall gTuple (evCons (evCall gSorted (evCons (evLst (evStar (evVar 4) (evStar (evVar 5) evNil))) evNil)) evNil))))))))
  (exRet (evIf (tvB (evBin gEqD (evVar 4) (evVar 1))) (evCall gLen (evCons (evVar 3) evNil)) (evC .none))))))))
noncomputable def c_round_count : CM := runB false 7 m_round_count
/-! _law_height -/
abbrev N__law_height : List Str := ["_law_covers_here", "_law_pit", "_law_block", "_law_later", "_law_other"]
noncomputable def m__law_height (self : CM) : SM := (exSeq (exAsg [] 3 (evComp (ivSeq (evVar 1)) (tgName [] 4) (tvB (evBin gInD (evVar 2) (evBin gIx (evVar 0) (evVar 4)))) (evVar 4) [4]))
  (exRet (evIf (tvB (evBin gNeD (evVar 3) (evLst evNil))) (evBin gAdd (evC (.int 1)) (evCall (gMM PySem.W.maxD) (evCons (evCompH 3 (tgName [] 4) tvYes (evCallL 3 self (evCons (evVar 0) (evCons (evVar 1) (evCons (evVar 4) evNil)))) [4]) evNil))) (evC (.int 1)))))
noncomputable def c__law_height : Nat → CM
  | 0 => fun _ => none
  | t + 1 => runB false 5 (m__law_height (c__law_height t))
/-! law -/
abbrev N_law : List Str := ["_law_script", "_law_row", "_law_is_single", "_law_covers_here", "_law_pit", "_law_ground", "_law_machines", "_law_dug", "_law_due", "_law_turn", "_law_some", "_law_block", "_law_lot", "_law_value", "_law_least", "_law_height_here"]
noncomputable def m_law : SM := (exSeq (exAsg [] 1 (evLst (evCons (evVar 0) (evCons (evC (.int 0)) (evCons (evC (.int 1534)) (evCons (evC (.int 0)) evNil))))))
  (exSeq (exAsg [] 2 (evBin gGtD (evCallI 2 c__law_taken (evCons (evVar 1) (evCons (evC (.int 3)) evNil))) (evC (.int 0))))
  (exSeq (exAsg [] 3 (evIf (tvB (evVar 2)) (evCallI 1 c__law_single (evCons (evVar 1) evNil)) (evCallI 2 c__law_covers (evCons (evVar 1) (evCons (evC (.int 7)) evNil)))))
  (exSeq (exPar [] [4, 5, 6] (evCons (evCallI 2 c__law_a_pit (evCons (evVar 1) (evCons (evVar 3) evNil))) (evCons (evMake 0 2 c_Ground___init__ (evCons (evVar 3) evNil)) (evCons (evBin gAdd (evC (.int 1)) (evCallI 2 c__law_taken (evCons (evVar 1) (evCons (evC (.int 4)) evNil)))) evNil))))
  (exSeq (exPar [] [7, 8] (evCons (evLst evNil) (evCons (evLst evNil) evNil)))
  (exSeq (exPre ([9, 10, 11, 12], []) (exFor (ivArgs rng1 (evCons (evCall gLen (evCons (evVar 4) evNil)) evNil)) (tgName [] 9) (exKill [9, 10, 11, 12] (exSeq (exAsg [] 10 (evLst evNil))
  (exSeq (exPre ([11], []) (exFor (ivSeq (evCallL 3 c__law_next (evCons (evVar 3) (evCons (evVar 4) (evCons (evVar 7) evNil))))) (tgName [] 11) (exKill [11] (exExpr (evMut fAppend 10 (evCons (evTup (evCons (evBin Pv.gSub (evC (.int 0)) (evCallL 3 (c__law_height 12) (evCons (evVar 3) (evCons (evVar 4) (evCons (evVar 11) evNil))))) (evCons (evVar 11) evNil))) evNil))))))
  (exSeq (exAsg [] 12 (evCall gSorted (evCons (evComp (ivSeq (evSl (evCall gSorted (evCons (evVar 10) evNil)) opNone (opSome (evVar 6)))) (tgTup 2 (tgCons (tgName [] 15) (tgCons (tgName [] 11) tgNil))) tvYes (evVar 11) [11, 15]) evNil)))
  (exSeq (exAsg [] 7 (evBin gAdd (evVar 7) (evVar 12)))
  (exAsg [] 8 (evBin gAdd (evVar 8) (evIf (tvB (evBin gNeD (evVar 12) (evLst evNil))) (evLst (evCons (evCall gTuple (evCons (evVar 12) evNil)) evNil)) (evLst evNil)))))))))))
  (exSeq (exAsg [] 13 (evCallL 3 c_highest_first (evCons (evVar 5) (evCons (evVar 4) (evCons (evVar 6) evNil)))))
  (exSeq (exAsg [] 14 (evCallL 3 c_fewest_rounds (evCons (evVar 5) (evCons (evVar 4) (evCons (evVar 6) evNil)))))
  (exSeq (exIf (tvOr (tvB (evBin gNeD (evVar 13) (evCall gTuple (evCons (evVar 8) evNil)))) (tvB (evBin gNeD (evCallL 4 c_round_count (evCons (evVar 5) (evCons (evVar 4) (evCons (evVar 6) (evCons (evVar 13) evNil))))) (evCall gLen (evCons (evVar 8) evNil))))) (exRet (evC (.bool false))) exPass)
  (exSeq (exIf (tvB (evBin gGtD (evVar 14) (evCall gLen (evCons (evVar 8) evNil)))) (exRet (evC (.bool false))) exPass)
  (exRet (evOr (evNot (evVar 2)) (evBin gEqD (evVar 14) (evCall gLen (evCons (evVar 8) evNil)))))))))))))))
noncomputable def c_law : CM := runB false 16 m_law
section
variable {P : Program} {w : World} {K : PySem.W.Frag} {mg : Str → Option Value} {base : Heap} {T : List NdefX.NTab} {nf : Option (Addr → NdefX.NF)}
theorem sc_need_ground : FnScope N_need_ground ["ground"] (defScope (top 13)) := ⟨rfl, rfl, rfl, by decide +kernel, rfl, by decide +kernel, by decide +kernel⟩
theorem kp_need_ground (h : Fx fa fn cs K mg) : PySem.W.keepIn K (.ref (He.ga K "need_ground")) = true := by
  obtain ⟨fd, F⟩ := h.def_ 0
  exact F.kp
theorem body_need_ground (h : Fx fa fn cs K mg) {fd : FuncData} (F : FunD K "need_ground" "need_ground" (defArgs (top 13)) (defBody (top 13)) (defScope (top 13)) [] [] (He.ga K "need_ground") fd) : FnOk P w K mg base CX0 1 (He.ga K "need_ground") fd ["ground"] (spF ⟨K, ctOf cs K T nf⟩ false 1 c_need_ground) := by
  refine def_ok (n := 0) F sc_need_ground rfl rfl (by decide) fun cd A outer s H E hr => ?_
  exact (ssOne (sIf (qNot (qVal (nIsi h.isi (.cls (c := 0) rfl) (pCl (h.glo 0)) (h.free 1) (nVar 0)))) (ssOne sBad) ssNil))
theorem ok_need_ground (h : Fx fa fn cs K mg) : FunK P w K mg base (ctOf cs K T nf) 1 (He.ga K "need_ground") false 1 c_need_ground := by
  obtain ⟨fd, F⟩ := h.def_ 0
  exact ⟨fd, ["ground"], body_need_ground h F, F.bindsN fun _ _ _ _ _ _ us hl => match us, hl with | [_], _ => rfl⟩
theorem sc_rises : FnScope N_rises ["value"] (defScope (top 10)) := ⟨rfl, rfl, rfl, by decide +kernel, rfl, by decide +kernel, by decide +kernel⟩
theorem kp_rises (h : Fx fa fn cs K mg) : PySem.W.keepIn K (.ref (He.ga K "rises")) = true := by
  obtain ⟨fd, F⟩ := h.def_ 1
  exact F.kp
theorem body_rises (h : Fx fa fn cs K mg) {fd : FuncData} (F : FunD K "rises" "rises" (defArgs (top 10)) (defBody (top 10)) (defScope (top 10)) [] [] (He.ga K "rises") fd) : FnOk P w K mg base CX0 1 (He.ga K "rises") fd ["value"] (spF ⟨K, ctOf cs K T nf⟩ false 1 c_rises) := by
  refine def_ok (n := 0) F sc_rises rfl rfl (by decide) fun cd A outer s H E hr => ?_
  exact (ssOne (sRet (nB (uAll rfl) PyProof.Rows.boot_all (h.free 4) (aCons (nComp [("at", 1)] rfl sc_rises.nd (blkOk_by (N := N_rises) (sc := defScope (top 10)) (by decide +kernel)) (iRng2N (h.free 3) (aCons nInt (aCons (nB uLen boot_len (h.free 2) (aCons (nVar 0) aNil)) aNil))) (fun _ _ _ _ _ => (gNameN 1 sc_rises.nd)) (fun _ _ _ _ _ => tsNil) (fun _ _ _ _ _ => (nCmp (kLt hr) (nIx (nVar 0) (nSub (nVar 1) nInt)) (nIx (nVar 0) (nVar 1))))) aNil))))
theorem ok_rises (h : Fx fa fn cs K mg) : FunK P w K mg base (ctOf cs K T nf) 1 (He.ga K "rises") false 1 c_rises := by
  obtain ⟨fd, F⟩ := h.def_ 1
  exact ⟨fd, ["value"], body_rises h F, F.bindsN fun _ _ _ _ _ _ us hl => match us, hl with | [_], _ => rfl⟩
theorem sc_is_from : FnScope N_is_from ["value", "low", "high"] (defScope (top 9)) := ⟨rfl, rfl, rfl, by decide +kernel, rfl, by decide +kernel, by decide +kernel⟩
theorem kp_is_from (h : Fx fa fn cs K mg) : PySem.W.keepIn K (.ref (He.ga K "is_from")) = true := by
  obtain ⟨fd, F⟩ := h.def_ 2
  exact F.kp
theorem body_is_from (h : Fx fa fn cs K mg) {fd : FuncData} (F : FunD K "is_from" "is_from" (defArgs (top 9)) (defBody (top 9)) (defScope (top 9)) [] [] (He.ga K "is_from") fd) : FnOk P w K mg base CX0 1 (He.ga K "is_from") fd ["value", "low", "high"] (spF ⟨K, ctOf cs K T nf⟩ false 3 c_is_from) := by
  refine def_ok (n := 0) F sc_is_from rfl rfl (by decide) fun cd A outer s H E hr => ?_
  exact (ssOne (sRet (nAnd (nIsi h.isi (.ty "int") (pTy PyProof.Rows.boot_int (h.free 5)) (h.free 1) (nVar 0)) (nAnd (nNot (nIsi h.isi (.ty "bool") (pTy PyProof.Rows.boot_bool (h.free 6)) (h.free 1) (nVar 0))) (nOne (nChain (kLe hr) (kLe hr) (nVar 1) (nVar 0) (nVar 2)))))))
theorem ok_is_from (h : Fx fa fn cs K mg) : FunK P w K mg base (ctOf cs K T nf) 1 (He.ga K "is_from") false 3 c_is_from := by
  obtain ⟨fd, F⟩ := h.def_ 2
  exact ⟨fd, ["value", "low", "high"], body_is_from h F, F.bindsN fun _ _ _ _ _ _ us hl => match us, hl with | [_, _, _], _ => rfl⟩
theorem sc_Ground___len__ : FnScope N_Ground___len__ ["self"] (defScope (mth 12 2)) := ⟨rfl, rfl, rfl, by decide +kernel, rfl, by decide +kernel, by decide +kernel⟩
theorem body_Ground___len__ (h : Fx fa fn cs K mg) {fd : FuncData} (F : FunD K "__len__" "Ground.__len__" (defArgs (mth 12 2)) (defBody (mth 12 2)) (defScope (mth 12 2)) [] [] (He.ma K (He.ga K "Ground") "__len__") fd) : FnOk P w K mg base CX0 1 (He.ma K (He.ga K "Ground") "__len__") fd ["self"] (spF ⟨K, ctOf cs K T nf⟩ false 1 c_Ground___len__) := by
  refine def_ok (n := 0) F sc_Ground___len__ rfl rfl (by decide) fun cd A outer s H E hr => ?_
  exact (ssOne (sRet (nB uLen boot_len (h.free 2) (aCons (nFld (exK_fld h.ex rfl) (nVar 0)) aNil))))
theorem ok_Ground___len__ (h : Fx fa fn cs K mg) : FunK P w K mg base (ctOf cs K T nf) 1 (He.ma K (He.ga K "Ground") "__len__") false 1 c_Ground___len__ := by
  obtain ⟨fd, F⟩ := h.def_ 3
  exact ⟨fd, ["self"], body_Ground___len__ h F, F.bindsN fun _ _ _ _ _ _ us hl => match us, hl with | [_], _ => rfl⟩
theorem len_ok (h : Fx fa fn cs K mg) {X : Cx} (e1 : X.prog = P := by rfl) (e2 : X.w = w := by rfl) (e3 : X.K = K := by rfl) (e4 : X.mg = mg := by rfl) (e5 : X.base = base := by rfl) : LenOk (kx X (ctOf cs K T nf)) X 1 lmT := by
  subst e1 e2 e3 e4 e5
  intro c np cm C ns e1 e2
  unfold lmT at e1
  split at e1
  · cases e1
    cases (show some (He.ga X.K "Ground", _) = some (C, ns) from e2)
    obtain ⟨fd, ps, F, hb⟩ := ok_Ground___len__ (P := X.prog) (w := X.w) (base := X.base) h
    exact ⟨_, fd, ps, _, (h.meth 7).at_, (h.meth 7).fn, hb, F⟩
  · cases e1
theorem sc_is_block : FnScope N_is_block ["ground", "value"] (defScope (top 14)) := ⟨rfl, rfl, rfl, by decide +kernel, rfl, by decide +kernel, by decide +kernel⟩
theorem kp_is_block (h : Fx fa fn cs K mg) : PySem.W.keepIn K (.ref (He.ga K "is_block")) = true := by
  obtain ⟨fd, F⟩ := h.def_ 4
  exact F.kp
theorem body_is_block (h : Fx fa fn cs K mg) {fd : FuncData} (F : FunD K "is_block" "is_block" (defArgs (top 14)) (defBody (top 14)) (defScope (top 14)) [] [] (He.ga K "is_block") fd) : FnOk P w K mg base CX0 3 (He.ga K "is_block") fd ["ground", "value"] (spF ⟨K, ctOf cs K T nf⟩ false 2 c_is_block) := by
  refine def_ok (n := 2) F sc_is_block rfl rfl (by decide) fun cd A outer s H E hr => ?_
  exact (ssOne (sRet (nCall (ok_is_from h) (hr.mono (by decide)) (h.glo 8) (kp_is_from h) (aCons (nVar 1) (aCons nInt (aCons (nSub (nLenA (len_ok h) (hr.mono (by decide)) (h.free 2) (nVar 0)) nInt) aNil))))))
theorem ok_is_block (h : Fx fa fn cs K mg) : FunK P w K mg base (ctOf cs K T nf) 3 (He.ga K "is_block") false 2 c_is_block := by
  obtain ⟨fd, F⟩ := h.def_ 4
  exact ⟨fd, ["ground", "value"], body_is_block h F, F.bindsN fun _ _ _ _ _ _ us hl => match us, hl with | [_, _], _ => rfl⟩
theorem sc_is_lot : FnScope N_is_lot ["ground", "value"] (defScope (top 16)) := ⟨rfl, rfl, rfl, by decide +kernel, rfl, by decide +kernel, by decide +kernel⟩
theorem kp_is_lot (h : Fx fa fn cs K mg) : PySem.W.keepIn K (.ref (He.ga K "is_lot")) = true := by
  obtain ⟨fd, F⟩ := h.def_ 5
  exact F.kp
theorem body_is_lot (h : Fx fa fn cs K mg) {fd : FuncData} (F : FunD K "is_lot" "is_lot" (defArgs (top 16)) (defBody (top 16)) (defScope (top 16)) [] [] (He.ga K "is_lot") fd) : FnOk P w K mg base CX0 4 (He.ga K "is_lot") fd ["ground", "value"] (spF ⟨K, ctOf cs K T nf⟩ false 2 c_is_lot) := by
  refine def_ok (n := 3) F sc_is_lot rfl rfl (by decide) fun cd A outer s H E hr => ?_
  exact (ssOne (sRet (nAnd (nIsi h.isi (.ty "tuple") (pTy PyProof.Rows.boot_tuple (h.free 9)) (h.free 1) (nVar 1)) (nAnd (nB (uAll rfl) PyProof.Rows.boot_all (h.free 4) (aCons (nComp [("one", 2)] rfl sc_is_lot.nd (blkOk_by (N := N_is_lot) (sc := defScope (top 16)) (by decide +kernel)) (iSeqN (nVar 1)) (fun _ _ _ _ _ => (gNameN 2 sc_is_lot.nd)) (fun _ _ _ _ _ => tsNil) (fun _ _ _ _ _ => (nCall (ok_is_block h) (hr.mono (by decide)) (h.glo 10) (kp_is_block h) (aCons (nVar 0) (aCons (nVar 2) aNil))))) aNil)) (nOne (nCall (ok_rises h) (hr.mono (by decide)) (h.glo 11) (kp_rises h) (aCons (nVar 1) aNil)))))))
theorem ok_is_lot (h : Fx fa fn cs K mg) : FunK P w K mg base (ctOf cs K T nf) 4 (He.ga K "is_lot") false 2 c_is_lot := by
  obtain ⟨fd, F⟩ := h.def_ 5
  exact ⟨fd, ["ground", "value"], body_is_lot h F, F.bindsN fun _ _ _ _ _ _ us hl => match us, hl with | [_, _], _ => rfl⟩
theorem sc_need_lot : FnScope N_need_lot ["ground", "lot"] (defScope (top 17)) := ⟨rfl, rfl, rfl, by decide +kernel, rfl, by decide +kernel, by decide +kernel⟩
theorem kp_need_lot (h : Fx fa fn cs K mg) : PySem.W.keepIn K (.ref (He.ga K "need_lot")) = true := by
  obtain ⟨fd, F⟩ := h.def_ 6
  exact F.kp
theorem body_need_lot (h : Fx fa fn cs K mg) {fd : FuncData} (F : FunD K "need_lot" "need_lot" (defArgs (top 17)) (defBody (top 17)) (defScope (top 17)) [] [] (He.ga K "need_lot") fd) : FnOk P w K mg base CX0 5 (He.ga K "need_lot") fd ["ground", "lot"] (spF ⟨K, ctOf cs K T nf⟩ false 2 c_need_lot) := by
  refine def_ok (n := 4) F sc_need_lot rfl rfl (by decide) fun cd A outer s H E hr => ?_
  exact (ssCons (sExpr (nCall (ok_need_ground h) (hr.mono (by decide)) (h.glo 12) (kp_need_ground h) (aCons (nVar 0) aNil)))
  (ssOne (sIf (qNot (qVal (nCall (ok_is_lot h) (hr.mono (by decide)) (h.glo 13) (kp_is_lot h) (aCons (nVar 0) (aCons (nVar 1) aNil))))) (ssOne sBad) ssNil)))
theorem ok_need_lot (h : Fx fa fn cs K mg) : FunK P w K mg base (ctOf cs K T nf) 5 (He.ga K "need_lot") false 2 c_need_lot := by
  obtain ⟨fd, F⟩ := h.def_ 6
  exact ⟨fd, ["ground", "lot"], body_need_lot h F, F.bindsN fun _ _ _ _ _ _ us hl => match us, hl with | [_, _], _ => rfl⟩
theorem sc_is_full : FnScope N_is_full ["ground", "lot"] (defScope (top 18)) := ⟨rfl, rfl, rfl, by decide +kernel, rfl, by decide +kernel, by decide +kernel⟩
theorem kp_is_full (h : Fx fa fn cs K mg) : PySem.W.keepIn K (.ref (He.ga K "is_full")) = true := by
  obtain ⟨fd, F⟩ := h.def_ 7
  exact F.kp
theorem body_is_full (h : Fx fa fn cs K mg) {fd : FuncData} (F : FunD K "is_full" "is_full" (defArgs (top 18)) (defBody (top 18)) (defScope (top 18)) [] [] (He.ga K "is_full") fd) : FnOk P w K mg base CX0 1 (He.ga K "is_full") fd ["ground", "lot"] (spF ⟨K, ctOf cs K T nf⟩ false 2 c_is_full) := by
  refine def_ok (n := 0) F sc_is_full rfl rfl (by decide) fun cd A outer s H E hr => ?_
  exact (ssOne (sRet (nB (uAll rfl) PyProof.Rows.boot_all (h.free 4) (aCons (nComp2 [("block", 2), ("one", 3)] rfl sc_is_full.nd (blkOk_by (N := N_is_full) (sc := defScope (top 18)) (by decide +kernel)) (iSeqN (nVar 1)) (fun _ _ _ _ _ => (gNameN 2 sc_is_full.nd)) (fun _ _ _ _ _ => tsNil) (fun _ _ _ _ _ => (iSeqN (nIx (nFld (exK_fld h.ex rfl) (nVar 0)) (nVar 2)))) (fun _ _ _ _ _ => (gNameN 3 sc_is_full.nd)) (fun _ _ _ _ _ => tsNil) (fun _ _ _ _ _ => (nCmp (kIn hr) (nVar 3) (nVar 1)))) aNil))))
theorem ok_is_full (h : Fx fa fn cs K mg) : FunK P w K mg base (ctOf cs K T nf) 1 (He.ga K "is_full") false 2 c_is_full := by
  obtain ⟨fd, F⟩ := h.def_ 7
  exact ⟨fd, ["ground", "lot"], body_is_full h F, F.bindsN fun _ _ _ _ _ _ us hl => match us, hl with | [_, _], _ => rfl⟩
theorem sc_need_pit : FnScope N_need_pit ["ground", "pit"] (defScope (top 19)) := ⟨rfl, rfl, rfl, by decide +kernel, rfl, by decide +kernel, by decide +kernel⟩
theorem kp_need_pit (h : Fx fa fn cs K mg) : PySem.W.keepIn K (.ref (He.ga K "need_pit")) = true := by
  obtain ⟨fd, F⟩ := h.def_ 8
  exact F.kp
theorem body_need_pit (h : Fx fa fn cs K mg) {fd : FuncData} (F : FunD K "need_pit" "need_pit" (defArgs (top 19)) (defBody (top 19)) (defScope (top 19)) [] [] (He.ga K "need_pit") fd) : FnOk P w K mg base CX0 6 (He.ga K "need_pit") fd ["ground", "pit"] (spF ⟨K, ctOf cs K T nf⟩ false 2 c_need_pit) := by
  refine def_ok (n := 5) F sc_need_pit rfl rfl (by decide) fun cd A outer s H E hr => ?_
  exact (ssCons (sExpr (nCall (ok_need_lot h) (hr.mono (by decide)) (h.glo 14) (kp_need_lot h) (aCons (nVar 0) (aCons (nVar 1) aNil))))
  (ssOne (sIf (qNot (qVal (nCall (ok_is_full h) (hr.mono (by decide)) (h.glo 15) (kp_is_full h) (aCons (nVar 0) (aCons (nVar 1) aNil))))) (ssOne sBad) ssNil)))
theorem ok_need_pit (h : Fx fa fn cs K mg) : FunK P w K mg base (ctOf cs K T nf) 6 (He.ga K "need_pit") false 2 c_need_pit := by
  obtain ⟨fd, F⟩ := h.def_ 8
  exact ⟨fd, ["ground", "pit"], body_need_pit h F, F.bindsN fun _ _ _ _ _ _ us hl => match us, hl with | [_, _], _ => rfl⟩
theorem sc_need_machines : FnScope N_need_machines ["value"] (defScope (top 24)) := ⟨rfl, rfl, rfl, by decide +kernel, rfl, by decide +kernel, by decide +kernel⟩
theorem kp_need_machines (h : Fx fa fn cs K mg) : PySem.W.keepIn K (.ref (He.ga K "need_machines")) = true := by
  obtain ⟨fd, F⟩ := h.def_ 9
  exact F.kp
theorem body_need_machines (h : Fx fa fn cs K mg) {fd : FuncData} (F : FunD K "need_machines" "need_machines" (defArgs (top 24)) (defBody (top 24)) (defScope (top 24)) [] [] (He.ga K "need_machines") fd) : FnOk P w K mg base CX0 2 (He.ga K "need_machines") fd ["value"] (spF ⟨K, ctOf cs K T nf⟩ false 1 c_need_machines) := by
  refine def_ok (n := 1) F sc_need_machines rfl rfl (by decide) fun cd A outer s H E hr => ?_
  exact (ssOne (sIf (qNot (qVal (nCall (ok_is_from h) (hr.mono (by decide)) (h.glo 8) (kp_is_from h) (aCons (nVar 0) (aCons nInt (aCons (nGInt (h.int 16)) aNil)))))) (ssOne sBad) ssNil))
theorem ok_need_machines (h : Fx fa fn cs K mg) : FunK P w K mg base (ctOf cs K T nf) 2 (He.ga K "need_machines") false 1 c_need_machines := by
  obtain ⟨fd, F⟩ := h.def_ 9
  exact ⟨fd, ["value"], body_need_machines h F, F.bindsN fun _ _ _ _ _ _ us hl => match us, hl with | [_], _ => rfl⟩
theorem sc_heights_in : FnScope N_heights_in ["ground", "pit"] (defScope (top 30)) := ⟨rfl, rfl, rfl, by decide +kernel, rfl, by decide +kernel, by decide +kernel⟩
theorem kp_heights_in (h : Fx fa fn cs K mg) : PySem.W.keepIn K (.ref (He.ga K "heights_in")) = true := by
  obtain ⟨fd, F⟩ := h.def_ 10
  exact F.kp
theorem body_heights_in (h : Fx fa fn cs K mg) {fd : FuncData} (F : FunD K "heights_in" "heights_in" (defArgs (top 30)) (defBody (top 30)) (defScope (top 30)) [] [] (He.ga K "heights_in") fd) : FnOk P w K mg base CX0 3 (He.ga K "heights_in") fd ["ground", "pit"] (spF ⟨K, ctOf cs K T nf⟩ false 2 c_heights_in) := by
  refine def_ok (n := 2) F sc_heights_in rfl rfl (by decide) fun cd A outer s H E hr => ?_
  exact (ssCons (sSet 2 sc_heights_in.nd nDNewK)
  (ssCons (sPre ([3, 4], []) (sFor [3, 4] PassesOwn.never rfl (iSeqN (nRevT (nVar 1))) (gNameN 3 sc_heights_in.nd) (ssCons (sSetLc 4 [("other", 5)] rfl sc_heights_in.nd (blkOk_by (N := N_heights_in) (sc := defScope (top 30)) (by decide +kernel)) (iSeqN (nVar 1)) (fun _ _ _ _ _ => (gNameN 5 sc_heights_in.nd)) (fun _ _ _ _ _ => (tsOne (qCmp (kIn hr) (nVar 3) (nIx (nProp h.ex rfl 0 (fld := "table") (hr.mono (by decide)) (nVar 0)) (nVar 5))))) (fun _ _ _ _ _ => (nDGet hr.u1 (nVar 2) (nVar 5))))
  (ssOne (sDPutN 2 hr.u1 (pv 2) (nVar 3) (nIf (qTruth (nVar 4)) (nAdd nInt (nB (uMax rfl hr) PyProof.Rows.boot_max (h.free 17) (aCons (nVar 4) aNil))) nInt))))))
  (ssOne (sRet (nVar 2)))))
theorem ok_heights_in (h : Fx fa fn cs K mg) : FunK P w K mg base (ctOf cs K T nf) 3 (He.ga K "heights_in") false 2 c_heights_in := by
  obtain ⟨fd, F⟩ := h.def_ 10
  exact ⟨fd, ["ground", "pit"], body_heights_in h F, F.bindsN fun _ _ _ _ _ _ us hl => match us, hl with | [_, _], _ => rfl⟩
theorem sc_next_in : FnScope N_next_in ["ground", "pit", "dug"] (defScope (top 21)) := ⟨rfl, rfl, rfl, by decide +kernel, rfl, by decide +kernel, by decide +kernel⟩
theorem kp_next_in (h : Fx fa fn cs K mg) : PySem.W.keepIn K (.ref (He.ga K "next_in")) = true := by
  obtain ⟨fd, F⟩ := h.def_ 11
  exact F.kp
theorem body_next_in (h : Fx fa fn cs K mg) {fd : FuncData} (F : FunD K "next_in" "next_in" (defArgs (top 21)) (defBody (top 21)) (defScope (top 21)) [] [] (He.ga K "next_in") fd) : FnOk P w K mg base CX0 3 (He.ga K "next_in") fd ["ground", "pit", "dug"] (spF ⟨K, ctOf cs K T nf⟩ false 3 c_next_in) := by
  refine def_ok (n := 2) F sc_next_in rfl rfl (by decide) fun cd A outer s H E hr => ?_
  exact (ssCons (sSetLc 3 [("block", 4)] rfl sc_next_in.nd (blkOk_by (N := N_next_in) (sc := defScope (top 21)) (by decide +kernel)) (iSeqN (nVar 1)) (fun _ _ _ _ _ => (gNameN 4 sc_next_in.nd)) (fun _ _ _ _ _ => (tsOne (qCmp (kNotIn hr) (nVar 4) (nVar 2)))) (fun _ _ _ _ _ => (nVar 4)))
  (ssOne (sRet (nComp [("block", 4)] rfl sc_next_in.nd (blkOk_by (N := N_next_in) (sc := defScope (top 21)) (by decide +kernel)) (iSeqN (nVar 3)) (fun _ _ _ _ _ => (gNameN 4 sc_next_in.nd)) (fun _ _ _ _ _ => (tsOne (qVal (nB (uAll rfl) PyProof.Rows.boot_all (h.free 4) (aCons (nComp [("other", 5)] rfl sc_next_in.nd (blkOk_by (by kernel_rfl)) (iSeqN (nIx (nProp h.ex rfl 0 (fld := "table") (hr.mono (by decide)) (nVar 0)) (nVar 4))) (fun _ _ _ _ _ => (gNameN 5 sc_next_in.nd)) (fun _ _ _ _ _ => tsNil) (fun _ _ _ _ _ => (nCmp (kIn hr) (nVar 5) (nVar 2)))) aNil))))) (fun _ _ _ _ _ => (nVar 4))))))
theorem ok_next_in (h : Fx fa fn cs K mg) : FunK P w K mg base (ctOf cs K T nf) 3 (He.ga K "next_in") false 3 c_next_in := by
  obtain ⟨fd, F⟩ := h.def_ 11
  exact ⟨fd, ["ground", "pit", "dug"], body_next_in h F, F.bindsN fun _ _ _ _ _ _ us hl => match us, hl with | [_, _, _], _ => rfl⟩
theorem sc_highest_first : FnScope N_highest_first ["ground", "pit", "machines"] (defScope (top 31)) := ⟨rfl, rfl, rfl, by decide +kernel, rfl, by decide +kernel, by decide +kernel⟩
theorem kp_highest_first (h : Fx fa fn cs K mg) : PySem.W.keepIn K (.ref (He.ga K "highest_first")) = true := by
  obtain ⟨fd, F⟩ := h.def_ 12
  exact F.kp
theorem body_highest_first (h : Fx fa fn cs K mg) {fd : FuncData} (F : FunD K "highest_first" "highest_first" (defArgs (top 31)) (defBody (top 31)) (defScope (top 31)) [] [] (He.ga K "highest_first") fd) : FnOk P w K mg base CX0 7 (He.ga K "highest_first") fd ["ground", "pit", "machines"] (spF ⟨K, ctOf cs K T nf⟩ false 3 c_highest_first) := by
  refine def_ok (n := 6) F sc_highest_first rfl rfl (by decide) fun cd A outer s H E hr => ?_
  exact (ssCons (sExpr (nCall (ok_need_pit h) (hr.mono (by decide)) (h.glo 18) (kp_need_pit h) (aCons (nVar 0) (aCons (nVar 1) aNil))))
  (ssCons (sExpr (nCall (ok_need_machines h) (hr.mono (by decide)) (h.glo 19) (kp_need_machines h) (aCons (nVar 2) aNil)))
  (ssCons (sParT [3, 4, 5] rfl (nnCons 3 sc_highest_first.nd (nnCons 4 sc_highest_first.nd (nnCons 5 sc_highest_first.nd nnNil))) (aCons (nCall (ok_heights_in h) (hr.mono (by decide)) (h.glo 20) (kp_heights_in h) (aCons (nVar 0) (aCons (nVar 1) aNil))) (aCons (nTup aNil) (aCons (nLst aNil) aNil))))
  (ssCons (sPre ([6], []) (sWhile fuW [6] PassesOwn.never (qCmp (kLt hr) (nB uLen boot_len (h.free 2) (aCons (nVar 4) aNil)) (nB uLen boot_len (h.free 2) (aCons (nVar 1) aNil))) (ssCons (sSet 6 sc_highest_first.nd (nSl (nB (uSorted hr) PyProof.Rows.boot_sorted (h.free 22) (aCons (nComp [("block", 7)] rfl sc_highest_first.nd (blkOk_by (N := N_highest_first) (sc := defScope (top 31)) (by decide +kernel)) (iSeqN (nCall (ok_next_in h) (hr.mono (by decide)) (h.glo 21) (kp_next_in h) (aCons (nVar 0) (aCons (nVar 1) (aCons (nVar 4) aNil))))) (fun _ _ _ _ _ => (gNameN 7 sc_highest_first.nd)) (fun _ _ _ _ _ => tsNil) (fun _ _ _ _ _ => (nTup (aCons (nNeg (nDGet hr.u1 (nVar 3) (nVar 7))) (aCons (nVar 7) aNil))))) aNil)) oNone (oSome (nVar 2))))
  (ssCons (sExpr (nAppend 5 (pv 5) (aCons (nTy uTuple PyProof.Rows.boot_tuple (h.free 9) (aCons (nB (uSorted hr) PyProof.Rows.boot_sorted (h.free 22) (aCons (nComp [("block", 7), ("height", 8)] rfl sc_highest_first.nd (blkOk_by (N := N_highest_first) (sc := defScope (top 31)) (by decide +kernel)) (iSeqN (nVar 6)) (fun _ _ _ _ _ => (gTupN rfl (gsConsN (gNameN 8 sc_highest_first.nd) (gsConsN (gNameN 7 sc_highest_first.nd) gsNilN)))) (fun _ _ _ _ _ => tsNil) (fun _ _ _ _ _ => (nVar 7))) aNil)) aNil)) aNil)))
  (ssOne (sSet 4 sc_highest_first.nd (nTy uTuple PyProof.Rows.boot_tuple (h.free 9) (aCons (nB (uSorted hr) PyProof.Rows.boot_sorted (h.free 22) (aCons (nLst (aStar (nVar 4) (aStar (nIx (nVar 5) (nNeg nInt)) aNil))) aNil)) aNil))))))))
  (ssOne (sRet (nTy uTuple PyProof.Rows.boot_tuple (h.free 9) (aCons (nVar 5) aNil))))))))
theorem ok_highest_first (h : Fx fa fn cs K mg) : FunK P w K mg base (ctOf cs K T nf) 7 (He.ga K "highest_first") false 3 c_highest_first := by
  obtain ⟨fd, F⟩ := h.def_ 12
  exact ⟨fd, ["ground", "pit", "machines"], body_highest_first h F, F.bindsN fun _ _ _ _ _ _ us hl => match us, hl with | [_, _, _], _ => rfl⟩
theorem sc_picked : FnScope N_picked ["blocks", "many"] (defScope (top 25)) := ⟨rfl, rfl, rfl, by decide +kernel, rfl, by decide +kernel, by decide +kernel⟩
theorem kp_picked (h : Fx fa fn cs K mg) : PySem.W.keepIn K (.ref (He.ga K "picked")) = true := by
  obtain ⟨fd, F⟩ := h.def_ 13
  exact F.kp
theorem body_picked (h : Fx fa fn cs K mg) {fd : FuncData} (F : FunD K "picked" "picked" (defArgs (top 25)) (defBody (top 25)) (defScope (top 25)) [] [] (He.ga K "picked") fd) : FnOk P w K mg base CX0 1 (He.ga K "picked") fd ["blocks", "many"] (spF ⟨K, ctOf cs K T nf⟩ false 2 c_picked) := by
  refine def_ok (n := 0) F sc_picked rfl rfl (by decide) fun cd A outer s H E hr => ?_
  exact (ssCons (sSet 2 sc_picked.nd (nLst (aCons (nTup aNil) aNil)))
  (ssCons (sPre ([3], []) (sFor [3] PassesOwn.never rfl (iSeqN (nVar 0)) (gNameN 3 sc_picked.nd) (ssOne (sSet 2 sc_picked.nd (nAdd (nVar 2) (nComp [("some", 4)] rfl sc_picked.nd (blkOk_by (N := N_picked) (sc := defScope (top 25)) (by decide +kernel)) (iSeqN (nVar 2)) (fun _ _ _ _ _ => (gNameN 4 sc_picked.nd)) (fun _ _ _ _ _ => (tsOne (qCmp (kLt hr) (nB uLen boot_len (h.free 2) (aCons (nVar 4) aNil)) (nVar 1)))) (fun _ _ _ _ _ => (nTup (aStar (nVar 4) (aCons (nVar 3) aNil))))))))))
  (ssOne (sRet (nSl (nVar 2) (oSome nInt) oNone)))))
theorem ok_picked (h : Fx fa fn cs K mg) : FunK P w K mg base (ctOf cs K T nf) 1 (He.ga K "picked") false 2 c_picked := by
  obtain ⟨fd, F⟩ := h.def_ 13
  exact ⟨fd, ["blocks", "many"], body_picked h F, F.bindsN fun _ _ _ _ _ _ us hl => match us, hl with | [_, _], _ => rfl⟩
theorem sc_later_of : FnScope N_later_of ["ground", "pit", "machines", "dug"] (defScope (top 26)) := ⟨rfl, rfl, rfl, by decide +kernel, rfl, by decide +kernel, by decide +kernel⟩
theorem kp_later_of (h : Fx fa fn cs K mg) : PySem.W.keepIn K (.ref (He.ga K "later_of")) = true := by
  obtain ⟨fd, F⟩ := h.def_ 14
  exact F.kp
theorem body_later_of (h : Fx fa fn cs K mg) {fd : FuncData} (F : FunD K "later_of" "later_of" (defArgs (top 26)) (defBody (top 26)) (defScope (top 26)) [] [] (He.ga K "later_of") fd) : FnOk P w K mg base CX0 4 (He.ga K "later_of") fd ["ground", "pit", "machines", "dug"] (spF ⟨K, ctOf cs K T nf⟩ false 4 c_later_of) := by
  refine def_ok (n := 3) F sc_later_of rfl rfl (by decide) fun cd A outer s H E hr => ?_
  exact (ssCons (sSet 4 sc_later_of.nd (nCall (ok_picked h) (hr.mono (by decide)) (h.glo 23) (kp_picked h) (aCons (nCall (ok_next_in h) (hr.mono (by decide)) (h.glo 21) (kp_next_in h) (aCons (nVar 0) (aCons (nVar 1) (aCons (nVar 3) aNil)))) (aCons (nVar 2) aNil))))
  (ssOne (sRet (nComp [("lot", 5)] rfl sc_later_of.nd (blkOk_by (N := N_later_of) (sc := defScope (top 26)) (by decide +kernel)) (iSeqN (nVar 4)) (fun _ _ _ _ _ => (gNameN 5 sc_later_of.nd)) (fun _ _ _ _ _ => tsNil) (fun _ _ _ _ _ => (nTup (aCons (nTy uTuple PyProof.Rows.boot_tuple (h.free 9) (aCons (nB (uSorted hr) PyProof.Rows.boot_sorted (h.free 22) (aCons (nLst (aStar (nVar 3) (aStar (nVar 5) aNil))) aNil)) aNil)) (aCons (nVar 5) aNil))))))))
theorem ok_later_of (h : Fx fa fn cs K mg) : FunK P w K mg base (ctOf cs K T nf) 4 (He.ga K "later_of") false 4 c_later_of := by
  obtain ⟨fd, F⟩ := h.def_ 14
  exact ⟨fd, ["ground", "pit", "machines", "dug"], body_later_of h F, F.bindsN fun _ _ _ _ _ _ us hl => match us, hl with | [_, _, _, _], _ => rfl⟩
/-cut-/theorem sc_filled {cl : List (Str × Addr)} {c : Addr} : NdefX.NScope N_filled ["dug"] fr_filled (NdefX.NF.of st_filled "filled" q_filled cl c).scope := NdefX.nscope_by (show NdefX.nscB N_filled ["dug"] fr_filled (C8.fnScope st_filled) = true by decide +kernel)
theorem ok_filled (h : Fx fa fn cs K mg) {cl : List (Str × Addr)} : ∀ (t : Nat) (f c' : Addr), NdefX.NOk P w K mg base CX0 (5 + t) f (NdefX.NF.of st_filled "filled" q_filled cl c') ["dug"] fr_filled (spN ⟨K, ctOf cs K T (some (NdefX.NF.of st_filled "filled" q_filled cl))⟩ 5 6 (c_filled t))
  | 0, f, c' => ndef_bot rfl
  | t + 1, f, c' => by
    have self := ok_filled h (cl := cl) t
    refine ndef_ok (n := 5 + t) (nl := 9) sc_filled (fun _ _ _ us hl => match us, hl with | [_], _ => rfl) rfl rfl (by decide) fun A outer s H E hr => ?_
    exact (ssCons (sIf (qDNot hr.u1 (nVar 0) (nVar 5)) (ssKill [6] (ssCons (sSetLcI 6 [("later", 7), ("lot", 8)] [1, 2, 3, 4, 5] rfl (sc_filled (cl := cl) (c := c')).nd (blkOk_by (N := N_filled) (sc := C8.fnScope st_filled) (by decide +kernel)) (iSeqN (nCall (ok_later_of h) (hr.mono (by omega)) (h.glo 24) (kp_later_of h) (aCons (nVar 1) (aCons (nVar 2) (aCons (nVar 3) (aCons (nVar 0) aNil)))))) (fun _ _ _ _ _ => (gTupN rfl (gsConsN (gNameN 7 (sc_filled (cl := cl) (c := c')).nd) (gsConsN (gNameN 8 (sc_filled (cl := cl) (c := c')).nd) gsNilN)))) (fun _ _ _ _ _ => tsNil) (fun pins σ s H C cl' fp I hf => (nTupR (aConsR (nAddR (nR nInt) (nCallB (js := [1, 2, 3, 4, 5]) rfl (fun f c' => self f c') (fun _ => rfl) (caps_blk (js := [1, 2, 3, 4, 5]) I (NdefX.Caps.self (sc_filled (cl := cl) (c := c')) rfl rfl rfl) hf).1 (caps_blk (js := [1, 2, 3, 4, 5]) I (NdefX.Caps.self (sc_filled (cl := cl) (c := c')) rfl rfl rfl) hf).2 hr (Nat.le_refl _) (nVar 7))) (aConsR (nR (nVar 8)) aNilR)))))
  (ssOne (sDPutN 5 hr.u1 (pv 5) (nVar 0) (nIf (qTruth (nVar 6)) (nB (uMin rfl hr) PyProof.Rows.boot_min (h.free 26) (aCons (nVar 6) aNil)) (nTup (aCons nInt (aCons (nTup aNil) aNil)))))))) (ssKill [6] ssNil))
  (ssOne (sRet (nIx (nDGet hr.u1 (nVar 5) (nVar 0)) nInt))))
theorem sc_rest_rounds : FnScope N_rest_rounds ["ground", "pit", "machines"] (defScope (top 27)) := ⟨rfl, rfl, rfl, by decide +kernel, rfl, by decide +kernel, by decide +kernel⟩
theorem kp_rest_rounds (h : Fx fa fn cs K mg) : PySem.W.keepIn K (.ref (He.ga K "rest_rounds")) = true := by
  obtain ⟨fd, F⟩ := h.def_ 16
  exact F.kp
abbrev p_rest : He.Defn := ("rest_rounds", none)
abbrev tf_rest : List (He.Defn × Str) := [(p_rest, q_filled)]
theorem nb_rest : NdefX.ndefB (defScope (top 27)) (C8.fnScope st_filled) fr_filled = true := by decide +kernel
theorem ok_rest_rounds (h : Fx fa fn cs K mg) (hB : LamX.TabB base mg (He.cT K p_rest).1 (He.cT K p_rest).2) : FunK P w K mg base (ctOf cs K (tabT K tf_rest) nf) 18 (He.ga K "rest_rounds") false 3 c_rest_rounds := by
  obtain ⟨fd, F⟩ := h.def_ 16
  have cr : Pv.codeOf K (He.ga K "rest_rounds") = .ref (He.cT K p_rest).1 := code_ref (p := p_rest) F
  refine ⟨fd, ["ground", "pit", "machines"], def_okN (n := 17) F sc_rest_rounds rfl rfl (by decide) fun cd A outer s H E hc hr => ⟨some (NdefX.NF.of st_filled "filled" q_filled (cloFrom (cxF P w K mg base N_rest_rounds "rest_rounds" (defScope (top 27)) (He.ga K "rest_rounds") cd A outer s H E).env.cells (C8.fnScope st_filled).names [])), ?_⟩, F.bindsN fun _ _ _ _ _ _ us hl => match us, hl with | [_, _, _], _ => rfl⟩
  exact (ssCons (sSet 3 sc_rest_rounds.nd nDNewT)
  (ssCons (nNdef (nm := fun _ _ => q_filled) 4 rfl rfl hB (hc.trans cr) (List.mem_singleton.mpr rfl) rfl (fun p hp _ => by rw [List.mem_singleton.mp hp]) (NdefX.ndef_free nb_rest) rfl rfl rfl sc_rest_rounds.nd rfl (Or.inr rfl) (Or.inl rfl))
  (ssCons (sExpr (nCallN rfl (fun f c' => ok_filled h 12 f c') (fun _ => rfl) (fun ok => NdefX.Caps.made ok (NdefX.ndef_free nb_rest) (NdefX.ndef_fr nb_rest) rfl) hr (show 5 + 12 ≤ 17 by decide) (nTup aNil)))
  (ssOne (sRet (nVar 3))))))
theorem sc_fewest_rounds : FnScope N_fewest_rounds ["ground", "pit", "machines"] (defScope (top 28)) := ⟨rfl, rfl, rfl, by decide +kernel, rfl, by decide +kernel, by decide +kernel⟩
theorem kp_fewest_rounds (h : Fx fa fn cs K mg) : PySem.W.keepIn K (.ref (He.ga K "fewest_rounds")) = true := by
  obtain ⟨fd, F⟩ := h.def_ 17
  exact F.kp
theorem body_fewest_rounds (h : Fx fa fn cs K mg) (hB : LamX.TabB base mg (He.cT K p_rest).1 (He.cT K p_rest).2) {fd : FuncData} (F : FunD K "fewest_rounds" "fewest_rounds" (defArgs (top 28)) (defBody (top 28)) (defScope (top 28)) [] [] (He.ga K "fewest_rounds") fd) : FnOk P w K mg base CX0 19 (He.ga K "fewest_rounds") fd ["ground", "pit", "machines"] (spF ⟨K, ctOf cs K (tabT K tf_rest) nf⟩ false 3 c_fewest_rounds) := by
  refine def_ok (n := 18) F sc_fewest_rounds rfl rfl (by decide) fun cd A outer s H E hr => ?_
  exact (ssCons (sExpr (nCall (ok_need_pit h) (hr.mono (by decide)) (h.glo 18) (kp_need_pit h) (aCons (nVar 0) (aCons (nVar 1) aNil))))
  (ssCons (sExpr (nCall (ok_need_machines h) (hr.mono (by decide)) (h.glo 19) (kp_need_machines h) (aCons (nVar 2) aNil)))
  (ssOne (sRet (nIx (nDGet hr.u1 (nCall (ok_rest_rounds h hB) (hr.mono (by decide)) (h.glo 27) (kp_rest_rounds h) (aCons (nVar 0) (aCons (nVar 1) (aCons (nVar 2) aNil)))) (nTup aNil)) nInt)))))
theorem ok_fewest_rounds (h : Fx fa fn cs K mg) (hB : LamX.TabB base mg (He.cT K p_rest).1 (He.cT K p_rest).2) : FunK P w K mg base (ctOf cs K (tabT K tf_rest) nf) 19 (He.ga K "fewest_rounds") false 3 c_fewest_rounds := by
  obtain ⟨fd, F⟩ := h.def_ 17
  exact ⟨fd, ["ground", "pit", "machines"], body_fewest_rounds h hB F, F.bindsN fun _ _ _ _ _ _ us hl => match us, hl with | [_, _, _], _ => rfl⟩
theorem sc__law_taken : FnScope N__law_taken ["_law_row", "_law_many"] (defScope (top 33)) := ⟨rfl, rfl, rfl, by decide +kernel, rfl, by decide +kernel, by decide +kernel⟩
theorem kp__law_taken (h : Fx fa fn cs K mg) : PySem.W.keepIn K (.ref (He.ga K "_law_taken")) = true := by
  obtain ⟨fd, F⟩ := h.def_ 18
  exact F.kp
theorem body__law_taken (h : Fx fa fn cs K mg) {fd : FuncData} (F : FunD K "_law_taken" "_law_taken" (defArgs (top 33)) (defBody (top 33)) (defScope (top 33)) [] [] (He.ga K "_law_taken") fd) : FnOk P w K mg base CX0 1 (He.ga K "_law_taken") fd ["_law_row", "_law_many"] (spF ⟨K, ctOf cs K T nf⟩ true 2 c__law_taken) := by
  refine def_ok (n := 0) F sc__law_taken rfl rfl (by decide) fun cd A outer s H E hr => ?_
  exact (ssCons (sIf (qCmp (kGt hr) (nIx (nVar 0) nInt) nInt) (ssCons (sSet 2 sc__law_taken.nd (nMod (nTy uInt PyProof.Rows.boot_int (h.free 5) (aCons (nIx (nVar 0) nInt) aNil)) (nVar 1)))
  (ssCons (sSto 0 (pv 0) nInt (nFdiv (nIx (nVar 0) nInt) (nVar 1)))
  (ssOne (sRet (nVar 2))))) ssNil)
  (ssCons (sSto 0 (pv 0) nInt (nAdd (nIx (nVar 0) nInt) nInt))
  (ssCons (sIf (qCmp (kGt hr) (nIx (nVar 0) nInt) (nB uLen boot_len (h.free 2) (aCons (nIx (nVar 0) nInt) aNil))) (ssCons (sSto 0 (pv 0) nInt (nMod (nTy uInt PyProof.Rows.boot_int (h.free 5) (aCons (nAdd (nMulA (nIx (nVar 0) nInt) nInt) nInt) aNil)) nInt))
  (ssOne (sRet (nMod (nTy uInt PyProof.Rows.boot_int (h.free 5) (aCons (nFdiv (nIx (nVar 0) nInt) nInt) aNil)) (nVar 1))))) ssNil)
  (ssCons (sSet 3 sc__law_taken.nd (nIx (nIx (nVar 0) nInt) (nSub (nIx (nVar 0) nInt) nInt)))
  (ssCons (sSto 0 (pv 0) nInt (nMod (nTy uInt PyProof.Rows.boot_int (h.free 5) (aCons (nAdd (nAdd (nMulA (nIx (nVar 0) nInt) nInt) (nVar 3)) nInt) aNil)) nInt))
  (ssCons (sIf (qCmp (kGe hr) (nVar 3) (nPow nInt nInt)) (ssOne (sSto 0 (pv 0) nInt (nFdiv (nVar 3) (nVar 1)))) ssNil)
  (ssOne (sRet (nMod (nTy uInt PyProof.Rows.boot_int (h.free 5) (aCons (nVar 3) aNil)) (nVar 1))))))))))
theorem ok__law_taken (h : Fx fa fn cs K mg) : FunK P w K mg base (ctOf cs K T nf) 1 (He.ga K "_law_taken") true 2 c__law_taken := by
  obtain ⟨fd, F⟩ := h.def_ 18
  exact ⟨fd, ["_law_row", "_law_many"], body__law_taken h F, F.bindsN fun _ _ _ _ _ _ us hl => match us, hl with | [_, _], _ => rfl⟩
theorem sc__law_single : FnScope N__law_single ["_law_row"] (defScope (top 42)) := ⟨rfl, rfl, rfl, by decide +kernel, rfl, by decide +kernel, by decide +kernel⟩
theorem kp__law_single (h : Fx fa fn cs K mg) : PySem.W.keepIn K (.ref (He.ga K "_law_single")) = true := by
  obtain ⟨fd, F⟩ := h.def_ 19
  exact F.kp
theorem body__law_single (h : Fx fa fn cs K mg) {fd : FuncData} (F : FunD K "_law_single" "_law_single" (defArgs (top 42)) (defBody (top 42)) (defScope (top 42)) [] [] (He.ga K "_law_single") fd) : FnOk P w K mg base CX0 2 (He.ga K "_law_single") fd ["_law_row"] (spF ⟨K, ctOf cs K T nf⟩ true 1 c__law_single) := by
  refine def_ok (n := 1) F sc__law_single rfl rfl (by decide) fun cd A outer s H E hr => ?_
  exact (ssCons (sSet 1 sc__law_single.nd (nAdd nInt (nCallI (ok__law_taken h) (hr.mono (by decide)) (h.glo 28) (kp__law_taken h) (aCons (nVar 0) (aCons nInt aNil)))))
  (ssCons (sSet 2 sc__law_single.nd (nComp [("_law_block", 4)] rfl sc__law_single.nd (blkOk_by (N := N__law_single) (sc := defScope (top 42)) (by decide +kernel)) (iRng1N (h.free 3) (aCons (nVar 1) aNil)) (fun _ _ _ _ _ => (gNameN 4 sc__law_single.nd)) (fun _ _ _ _ _ => tsNil) (fun _ _ _ _ _ => (nAdd (nAdd (nVar 4) nInt) (nCallI (ok__law_taken h) (hr.mono (by decide)) (h.glo 28) (kp__law_taken h) (aCons (nVar 0) (aCons (nSub (nVar 1) (nVar 4)) aNil)))))))
  (ssCons (sSet 3 sc__law_single.nd (nLst aNil))
  (ssCons (sPre ([4], []) (sFor [4] PassesOwn.never rfl (iRng1N (h.free 3) (aCons (nVar 1) aNil)) (gNameN 4 sc__law_single.nd) (ssOne (sExpr (nAppend 3 (pv 3) (aCons (nTy uTuple PyProof.Rows.boot_tuple (h.free 9) (aCons (nComp [("_law_one", 5)] rfl sc__law_single.nd (blkOk_by (N := N__law_single) (sc := defScope (top 42)) (by decide +kernel)) (iRng1N (h.free 3) (aCons (nVar 4) aNil)) (fun _ _ _ _ _ => (gNameN 5 sc__law_single.nd)) (fun _ _ _ _ _ => (tsOne (qCmp (kEq hr) (nIx (nVar 2) (nVar 5)) (nVar 4)))) (fun _ _ _ _ _ => (nVar 5))) aNil)) aNil))))))
  (ssOne (sRet (nTy uTuple PyProof.Rows.boot_tuple (h.free 9) (aCons (nVar 3) aNil))))))))
theorem ok__law_single (h : Fx fa fn cs K mg) : FunK P w K mg base (ctOf cs K T nf) 2 (He.ga K "_law_single") true 1 c__law_single := by
  obtain ⟨fd, F⟩ := h.def_ 19
  exact ⟨fd, ["_law_row"], body__law_single h F, F.bindsN fun _ _ _ _ _ _ us hl => match us, hl with | [_], _ => rfl⟩
theorem sc__law_covers : FnScope N__law_covers ["_law_row", "_law_most"] (defScope (top 35)) := ⟨rfl, rfl, rfl, by decide +kernel, rfl, by decide +kernel, by decide +kernel⟩
theorem kp__law_covers (h : Fx fa fn cs K mg) : PySem.W.keepIn K (.ref (He.ga K "_law_covers")) = true := by
  obtain ⟨fd, F⟩ := h.def_ 20
  exact F.kp
theorem body__law_covers (h : Fx fa fn cs K mg) {fd : FuncData} (F : FunD K "_law_covers" "_law_covers" (defArgs (top 35)) (defBody (top 35)) (defScope (top 35)) [] [] (He.ga K "_law_covers") fd) : FnOk P w K mg base CX0 2 (He.ga K "_law_covers") fd ["_law_row", "_law_most"] (spF ⟨K, ctOf cs K T nf⟩ true 2 c__law_covers) := by
  refine def_ok (n := 1) F sc__law_covers rfl rfl (by decide) fun cd A outer s H E hr => ?_
  exact (ssCons (sParT [2, 3, 4] rfl (nnCons 2 sc__law_covers.nd (nnCons 3 sc__law_covers.nd (nnCons 4 sc__law_covers.nd nnNil))) (aCons (nLst aNil) (aCons (nCallI (ok__law_taken h) (hr.mono (by decide)) (h.glo 28) (kp__law_taken h) (aCons (nVar 0) (aCons nInt aNil))) (aCons (nAdd nInt (nCallI (ok__law_taken h) (hr.mono (by decide)) (h.glo 28) (kp__law_taken h) (aCons (nVar 0) (aCons (nVar 1) aNil)))) aNil))))
  (ssCons (sPre ([5, 6], []) (sFor [5, 6] PassesOwn.never rfl (iRng1N (h.free 3) (aCons (nVar 4) aNil)) (gNameN 5 sc__law_covers.nd) (ssCons (sSetLc 6 [("_law_one", 7)] rfl sc__law_covers.nd (blkOk_by (N := N__law_covers) (sc := defScope (top 35)) (by decide +kernel)) (iRng1N (h.free 3) (aCons (nVar 5) aNil)) (fun _ _ _ _ _ => (gNameN 7 sc__law_covers.nd)) (fun _ _ _ _ _ => (tsOne (qCmp (kEq hr) (nCallI (ok__law_taken h) (hr.mono (by decide)) (h.glo 28) (kp__law_taken h) (aCons (nVar 0) (aCons nInt aNil))) nInt))) (fun _ _ _ _ _ => (nVar 7)))
  (ssCons (sIf (qCmp (kEq hr) (nVar 3) nInt) (ssOne (sSet 6 sc__law_covers.nd (nLst aNil))) ssNil)
  (ssCons (sIf (qCmp (kEq hr) (nVar 3) nInt) (ssOne (sSet 6 sc__law_covers.nd (nSl (nLRg1 rfl (h.free 29) (h.free 3) (nVar 5)) (oSome (nNeg nInt)) oNone))) ssNil)
  (ssCons (sIf (qCmp (kEq hr) (nVar 3) nInt) (ssOne (sSetLc 6 [("_law_one", 7)] rfl sc__law_covers.nd (blkOk_by (N := N__law_covers) (sc := defScope (top 35)) (by decide +kernel)) (iRng1N (h.free 3) (aCons (nVar 5) aNil)) (fun _ _ _ _ _ => (gNameN 7 sc__law_covers.nd)) (fun _ _ _ _ _ => (tsOne (qChain (kLt hr) (kLe hr) (nMulA nInt (nVar 7)) (nVar 4) (nMulA nInt (nVar 5))))) (fun _ _ _ _ _ => (nVar 7)))) ssNil)
  (ssCons (sIf (qCmp (kEq hr) (nVar 3) nInt) (ssOne (sSetLc 6 [("_law_one", 7)] rfl sc__law_covers.nd (blkOk_by (N := N__law_covers) (sc := defScope (top 35)) (by decide +kernel)) (iSeqN (nVar 6)) (fun _ _ _ _ _ => (gNameN 7 sc__law_covers.nd)) (fun _ _ _ _ _ => (tsOne (qCmp (kLt hr) (nSub (nVar 5) (nVar 7)) nInt))) (fun _ _ _ _ _ => (nVar 7)))) ssNil)
  (ssOne (sExpr (nAppend 2 (pv 2) (aCons (nTy uTuple PyProof.Rows.boot_tuple (h.free 9) (aCons (nVar 6) aNil)) aNil)))))))))))
  (ssOne (sRet (nTy uTuple PyProof.Rows.boot_tuple (h.free 9) (aCons (nVar 2) aNil))))))
theorem ok__law_covers (h : Fx fa fn cs K mg) : FunK P w K mg base (ctOf cs K T nf) 2 (He.ga K "_law_covers") true 2 c__law_covers := by
  obtain ⟨fd, F⟩ := h.def_ 20
  exact ⟨fd, ["_law_row", "_law_most"], body__law_covers h F, F.bindsN fun _ _ _ _ _ _ us hl => match us, hl with | [_, _], _ => rfl⟩
theorem sc__law_lots : FnScope N__law_lots ["_law_many"] (defScope (top 36)) := ⟨rfl, rfl, rfl, by decide +kernel, rfl, by decide +kernel, by decide +kernel⟩
theorem kp__law_lots (h : Fx fa fn cs K mg) : PySem.W.keepIn K (.ref (He.ga K "_law_lots")) = true := by
  obtain ⟨fd, F⟩ := h.def_ 21
  exact F.kp
theorem body__law_lots (h : Fx fa fn cs K mg) {fd : FuncData} (F : FunD K "_law_lots" "_law_lots" (defArgs (top 36)) (defBody (top 36)) (defScope (top 36)) [] [] (He.ga K "_law_lots") fd) : FnOk P w K mg base CX0 1 (He.ga K "_law_lots") fd ["_law_many"] (spF ⟨K, ctOf cs K T nf⟩ false 1 c__law_lots) := by
  refine def_ok (n := 0) F sc__law_lots rfl rfl (by decide) fun cd A outer s H E hr => ?_
  exact (ssCons (sSet 1 sc__law_lots.nd (nLst (aCons (nTup aNil) aNil)))
  (ssCons (sPre ([2], []) (sFor [2] PassesOwn.never rfl (iRng1N (h.free 3) (aCons (nVar 0) aNil)) (gNameN 2 sc__law_lots.nd) (ssOne (sSet 1 sc__law_lots.nd (nAdd (nVar 1) (nComp [("_law_lot", 3)] rfl sc__law_lots.nd (blkOk_by (N := N__law_lots) (sc := defScope (top 36)) (by decide +kernel)) (iSeqN (nVar 1)) (fun _ _ _ _ _ => (gNameN 3 sc__law_lots.nd)) (fun _ _ _ _ _ => tsNil) (fun _ _ _ _ _ => (nAdd (nVar 3) (nTup (aCons (nVar 2) aNil))))))))))
  (ssOne (sRet (nComp [("_law_lot", 3), ("_law_size", 4)] rfl sc__law_lots.nd (blkOk_by (N := N__law_lots) (sc := defScope (top 36)) (by decide +kernel)) (iSeqN (nB (uSorted hr) PyProof.Rows.boot_sorted (h.free 22) (aCons (nComp [("_law_lot", 3)] rfl sc__law_lots.nd (blkOk_by (N := N__law_lots) (sc := defScope (top 36)) (by decide +kernel)) (iSeqN (nVar 1)) (fun _ _ _ _ _ => (gNameN 3 sc__law_lots.nd)) (fun _ _ _ _ _ => tsNil) (fun _ _ _ _ _ => (nTup (aCons (nB uLen boot_len (h.free 2) (aCons (nVar 3) aNil)) (aCons (nVar 3) aNil))))) aNil))) (fun _ _ _ _ _ => (gTupN rfl (gsConsN (gNameN 4 sc__law_lots.nd) (gsConsN (gNameN 3 sc__law_lots.nd) gsNilN)))) (fun _ _ _ _ _ => tsNil) (fun _ _ _ _ _ => (nVar 3)))))))
theorem ok__law_lots (h : Fx fa fn cs K mg) : FunK P w K mg base (ctOf cs K T nf) 1 (He.ga K "_law_lots") false 1 c__law_lots := by
  obtain ⟨fd, F⟩ := h.def_ 21
  exact ⟨fd, ["_law_many"], body__law_lots h F, F.bindsN fun _ _ _ _ _ _ us hl => match us, hl with | [_], _ => rfl⟩
theorem sc__law_is_pit : FnScope N__law_is_pit ["_law_covers_here", "_law_lot"] (defScope (top 37)) := ⟨rfl, rfl, rfl, by decide +kernel, rfl, by decide +kernel, by decide +kernel⟩
theorem kp__law_is_pit (h : Fx fa fn cs K mg) : PySem.W.keepIn K (.ref (He.ga K "_law_is_pit")) = true := by
  obtain ⟨fd, F⟩ := h.def_ 22
  exact F.kp
theorem body__law_is_pit (h : Fx fa fn cs K mg) {fd : FuncData} (F : FunD K "_law_is_pit" "_law_is_pit" (defArgs (top 37)) (defBody (top 37)) (defScope (top 37)) [] [] (He.ga K "_law_is_pit") fd) : FnOk P w K mg base CX0 1 (He.ga K "_law_is_pit") fd ["_law_covers_here", "_law_lot"] (spF ⟨K, ctOf cs K T nf⟩ false 2 c__law_is_pit) := by
  refine def_ok (n := 0) F sc__law_is_pit rfl rfl (by decide) fun cd A outer s H E hr => ?_
  exact (ssCons (sPre ([2], []) (sFor [2] PassesOwn.never rfl (iSeqN (nVar 1)) (gNameN 2 sc__law_is_pit.nd) (ssOne (sIf (qCmp (kNe hr) (nComp [("_law_one", 3)] rfl sc__law_is_pit.nd (blkOk_by (N := N__law_is_pit) (sc := defScope (top 37)) (by decide +kernel)) (iSeqN (nIx (nVar 0) (nVar 2))) (fun _ _ _ _ _ => (gNameN 3 sc__law_is_pit.nd)) (fun _ _ _ _ _ => (tsOne (qCmp (kNotIn hr) (nVar 3) (nVar 1)))) (fun _ _ _ _ _ => (nVar 3))) (nLst aNil)) (ssOne (sRet nBl)) ssNil))))
  (ssOne (sRet nBl)))
theorem ok__law_is_pit (h : Fx fa fn cs K mg) : FunK P w K mg base (ctOf cs K T nf) 1 (He.ga K "_law_is_pit") false 2 c__law_is_pit := by
  obtain ⟨fd, F⟩ := h.def_ 22
  exact ⟨fd, ["_law_covers_here", "_law_lot"], body__law_is_pit h F, F.bindsN fun _ _ _ _ _ _ us hl => match us, hl with | [_, _], _ => rfl⟩
theorem sc__law_pits : FnScope N__law_pits ["_law_covers_here"] (defScope (top 38)) := ⟨rfl, rfl, rfl, by decide +kernel, rfl, by decide +kernel, by decide +kernel⟩
theorem kp__law_pits (h : Fx fa fn cs K mg) : PySem.W.keepIn K (.ref (He.ga K "_law_pits")) = true := by
  obtain ⟨fd, F⟩ := h.def_ 23
  exact F.kp
theorem body__law_pits (h : Fx fa fn cs K mg) {fd : FuncData} (F : FunD K "_law_pits" "_law_pits" (defArgs (top 38)) (defBody (top 38)) (defScope (top 38)) [] [] (He.ga K "_law_pits") fd) : FnOk P w K mg base CX0 2 (He.ga K "_law_pits") fd ["_law_covers_here"] (spF ⟨K, ctOf cs K T nf⟩ false 1 c__law_pits) := by
  refine def_ok (n := 1) F sc__law_pits rfl rfl (by decide) fun cd A outer s H E hr => ?_
  exact (ssOne (sRet (nComp [("_law_lot", 1)] rfl sc__law_pits.nd (blkOk_by (N := N__law_pits) (sc := defScope (top 38)) (by decide +kernel)) (iSeqN (nCall (ok__law_lots h) (hr.mono (by decide)) (h.glo 30) (kp__law_lots h) (aCons (nB uLen boot_len (h.free 2) (aCons (nVar 0) aNil)) aNil))) (fun _ _ _ _ _ => (gNameN 1 sc__law_pits.nd)) (fun _ _ _ _ _ => (tsOne (qVal (nCall (ok__law_is_pit h) (hr.mono (by decide)) (h.glo 31) (kp__law_is_pit h) (aCons (nVar 0) (aCons (nVar 1) aNil)))))) (fun _ _ _ _ _ => (nVar 1)))))
theorem ok__law_pits (h : Fx fa fn cs K mg) : FunK P w K mg base (ctOf cs K T nf) 2 (He.ga K "_law_pits") false 1 c__law_pits := by
  obtain ⟨fd, F⟩ := h.def_ 23
  exact ⟨fd, ["_law_covers_here"], body__law_pits h F, F.bindsN fun _ _ _ _ _ _ us hl => match us, hl with | [_], _ => rfl⟩
theorem sc__law_a_pit : FnScope N__law_a_pit ["_law_row", "_law_covers_here"] (defScope (top 39)) := ⟨rfl, rfl, rfl, by decide +kernel, rfl, by decide +kernel, by decide +kernel⟩
theorem kp__law_a_pit (h : Fx fa fn cs K mg) : PySem.W.keepIn K (.ref (He.ga K "_law_a_pit")) = true := by
  obtain ⟨fd, F⟩ := h.def_ 24
  exact F.kp
theorem body__law_a_pit (h : Fx fa fn cs K mg) {fd : FuncData} (F : FunD K "_law_a_pit" "_law_a_pit" (defArgs (top 39)) (defBody (top 39)) (defScope (top 39)) [] [] (He.ga K "_law_a_pit") fd) : FnOk P w K mg base CX0 3 (He.ga K "_law_a_pit") fd ["_law_row", "_law_covers_here"] (spF ⟨K, ctOf cs K T nf⟩ true 2 c__law_a_pit) := by
  refine def_ok (n := 2) F sc__law_a_pit rfl rfl (by decide) fun cd A outer s H E hr => ?_
  exact (ssCons (sSet 2 sc__law_a_pit.nd (nCall (ok__law_pits h) (hr.mono (by decide)) (h.glo 32) (kp__law_pits h) (aCons (nVar 1) aNil)))
  (ssOne (sRet (nIf (qCmp (kGt hr) (nCallI (ok__law_taken h) (hr.mono (by decide)) (h.glo 28) (kp__law_taken h) (aCons (nVar 0) (aCons nInt aNil))) nInt) (nIx (nVar 2) (nNeg nInt)) (nIx (nVar 2) (nCallI (ok__law_taken h) (hr.mono (by decide)) (h.glo 28) (kp__law_taken h) (aCons (nVar 0) (aCons (nB uLen boot_len (h.free 2) (aCons (nVar 2) aNil)) aNil))))))))
theorem ok__law_a_pit (h : Fx fa fn cs K mg) : FunK P w K mg base (ctOf cs K T nf) 3 (He.ga K "_law_a_pit") true 2 c__law_a_pit := by
  obtain ⟨fd, F⟩ := h.def_ 24
  exact ⟨fd, ["_law_row", "_law_covers_here"], body__law_a_pit h F, F.bindsN fun _ _ _ _ _ _ us hl => match us, hl with | [_, _], _ => rfl⟩
theorem sc_is_cover : FnScope N_is_cover ["value", "block"] (defScope (top 11)) := ⟨rfl, rfl, rfl, by decide +kernel, rfl, by decide +kernel, by decide +kernel⟩
theorem kp_is_cover (h : Fx fa fn cs K mg) : PySem.W.keepIn K (.ref (He.ga K "is_cover")) = true := by
  obtain ⟨fd, F⟩ := h.def_ 25
  exact F.kp
theorem body_is_cover (h : Fx fa fn cs K mg) {fd : FuncData} (F : FunD K "is_cover" "is_cover" (defArgs (top 11)) (defBody (top 11)) (defScope (top 11)) [] [] (He.ga K "is_cover") fd) : FnOk P w K mg base CX0 2 (He.ga K "is_cover") fd ["value", "block"] (spF ⟨K, ctOf cs K T nf⟩ false 2 c_is_cover) := by
  refine def_ok (n := 1) F sc_is_cover rfl rfl (by decide) fun cd A outer s H E hr => ?_
  exact (ssOne (sRet (nAnd (nIsi h.isi (.ty "tuple") (pTy PyProof.Rows.boot_tuple (h.free 9)) (h.free 1) (nVar 0)) (nAnd (nB (uAll rfl) PyProof.Rows.boot_all (h.free 4) (aCons (nComp [("one", 2)] rfl sc_is_cover.nd (blkOk_by (N := N_is_cover) (sc := defScope (top 11)) (by decide +kernel)) (iSeqN (nVar 0)) (fun _ _ _ _ _ => (gNameN 2 sc_is_cover.nd)) (fun _ _ _ _ _ => tsNil) (fun _ _ _ _ _ => (nCall (ok_is_from h) (hr.mono (by decide)) (h.glo 8) (kp_is_from h) (aCons (nVar 2) (aCons nInt (aCons (nSub (nVar 1) nInt) aNil)))))) aNil)) (nOne (nCall (ok_rises h) (hr.mono (by decide)) (h.glo 11) (kp_rises h) (aCons (nVar 0) aNil)))))))
theorem ok_is_cover (h : Fx fa fn cs K mg) : FunK P w K mg base (ctOf cs K T nf) 2 (He.ga K "is_cover") false 2 c_is_cover := by
  obtain ⟨fd, F⟩ := h.def_ 25
  exact ⟨fd, ["value", "block"], body_is_cover h F, F.bindsN fun _ _ _ _ _ _ us hl => match us, hl with | [_, _], _ => rfl⟩
theorem sc_Ground___init__ : FnScope N_Ground___init__ ["self", "covers"] (defScope (mth 12 0)) := ⟨rfl, rfl, rfl, by decide +kernel, rfl, by decide +kernel, by decide +kernel⟩
theorem body_Ground___init__ (h : Fx fa fn cs K mg) {fd : FuncData} (F : FunD K "__init__" "Ground.__init__" (defArgs (mth 12 0)) (defBody (mth 12 0)) (defScope (mth 12 0)) [] [] (He.ma K (He.ga K "Ground") "__init__") fd) : FnOk P w K mg base CX0 3 (He.ma K (He.ga K "Ground") "__init__") fd ["self", "covers"] (spF ⟨K, ctOf cs K T nf⟩ true 2 c_Ground___init__) := by
  refine def_ok (n := 2) F sc_Ground___init__ rfl rfl (by decide) fun cd A outer s H E hr => ?_
  exact (ssCons (sIf (qW (wOr (qNot (qVal (nIsi h.isi (.ty "tuple") (pTy PyProof.Rows.boot_tuple (h.free 9)) (h.free 1) (nVar 1)))) (wOr1 (qNot (qChain (kLe hr) (kLe hr) nInt (nB uLen boot_len (h.free 2) (aCons (nVar 1) aNil)) (nGInt (h.int 33))))))) (ssOne sBad) ssNil)
  (ssCons (sPre ([2, 3], []) (sFor [2, 3] PassesOwn.never rfl (iEnumN (h.free 34) (nVar 1)) (gTupN rfl (gsConsN (gNameN 2 sc_Ground___init__.nd) (gsConsN (gNameN 3 sc_Ground___init__.nd) gsNilN))) (ssOne (sIf (qNot (qVal (nCall (ok_is_cover h) (hr.mono (by decide)) (h.glo 35) (kp_is_cover h) (aCons (nVar 3) (aCons (nVar 2) aNil))))) (ssOne sBad) ssNil))))
  (ssOne (sFldN 0 (exK_fld h.ex rfl) (pv 0) (nVar 1)))))
theorem ok_Ground___init__ (h : Fx fa fn cs K mg) : FunK P w K mg base (ctOf cs K T nf) 3 (He.ma K (He.ga K "Ground") "__init__") true 2 c_Ground___init__ := by
  obtain ⟨fd, F⟩ := h.def_ 26
  exact ⟨fd, ["self", "covers"], body_Ground___init__ h F, F.bindsN fun _ _ _ _ _ _ us hl => match us, hl with | [_, _], _ => rfl⟩
theorem sc__law_next : FnScope N__law_next ["_law_covers_here", "_law_pit", "_law_dug"] (defScope (top 41)) := ⟨rfl, rfl, rfl, by decide +kernel, rfl, by decide +kernel, by decide +kernel⟩
theorem kp__law_next (h : Fx fa fn cs K mg) : PySem.W.keepIn K (.ref (He.ga K "_law_next")) = true := by
  obtain ⟨fd, F⟩ := h.def_ 27
  exact F.kp
theorem body__law_next (h : Fx fa fn cs K mg) {fd : FuncData} (F : FunD K "_law_next" "_law_next" (defArgs (top 41)) (defBody (top 41)) (defScope (top 41)) [] [] (He.ga K "_law_next") fd) : FnOk P w K mg base CX0 1 (He.ga K "_law_next") fd ["_law_covers_here", "_law_pit", "_law_dug"] (spF ⟨K, ctOf cs K T nf⟩ false 3 c__law_next) := by
  refine def_ok (n := 0) F sc__law_next rfl rfl (by decide) fun cd A outer s H E hr => ?_
  exact (ssCons (sSet 3 sc__law_next.nd (nLst aNil))
  (ssCons (sPre ([4], []) (sFor [4] PassesOwn.never rfl (iSeqN (nVar 1)) (gNameN 4 sc__law_next.nd) (ssOne (sIf (qW (wAnd (qCmp (kNotIn hr) (nVar 4) (nVar 2)) (wAnd1 (qCmp (kEq hr) (nComp [("_law_other", 5)] rfl sc__law_next.nd (blkOk_by (N := N__law_next) (sc := defScope (top 41)) (by decide +kernel)) (iSeqN (nIx (nVar 0) (nVar 4))) (fun _ _ _ _ _ => (gNameN 5 sc__law_next.nd)) (fun _ _ _ _ _ => (tsOne (qCmp (kNotIn hr) (nVar 5) (nVar 2)))) (fun _ _ _ _ _ => (nVar 5))) (nLst aNil))))) (ssOne (sExpr (nAppend 3 (pv 3) (aCons (nVar 4) aNil)))) ssNil))))
  (ssOne (sRet (nVar 3)))))
theorem ok__law_next (h : Fx fa fn cs K mg) : FunK P w K mg base (ctOf cs K T nf) 1 (He.ga K "_law_next") false 3 c__law_next := by
  obtain ⟨fd, F⟩ := h.def_ 27
  exact ⟨fd, ["_law_covers_here", "_law_pit", "_law_dug"], body__law_next h F, F.bindsN fun _ _ _ _ _ _ us hl => match us, hl with | [_, _, _], _ => rfl⟩
theorem sc_round_count : FnScope N_round_count ["ground", "pit", "machines", "value"] (defScope (top 29)) := ⟨rfl, rfl, rfl, by decide +kernel, rfl, by decide +kernel, by decide +kernel⟩
theorem kp_round_count (h : Fx fa fn cs K mg) : PySem.W.keepIn K (.ref (He.ga K "round_count")) = true := by
  obtain ⟨fd, F⟩ := h.def_ 28
  exact F.kp
theorem body_round_count (h : Fx fa fn cs K mg) {fd : FuncData} (F : FunD K "round_count" "round_count" (defArgs (top 29)) (defBody (top 29)) (defScope (top 29)) [] [] (He.ga K "round_count") fd) : FnOk P w K mg base CX0 7 (He.ga K "round_count") fd ["ground", "pit", "machines", "value"] (spF ⟨K, ctOf cs K T nf⟩ false 4 c_round_count) := by
  refine def_ok (n := 6) F sc_round_count rfl rfl (by decide) fun cd A outer s H E hr => ?_
  exact (ssCons (sExpr (nCall (ok_need_pit h) (hr.mono (by decide)) (h.glo 18) (kp_need_pit h) (aCons (nVar 0) (aCons (nVar 1) aNil))))
  (ssCons (sExpr (nCall (ok_need_machines h) (hr.mono (by decide)) (h.glo 19) (kp_need_machines h) (aCons (nVar 2) aNil)))
  (ssCons (sIf (qNot (qVal (nIsi h.isi (.ty "tuple") (pTy PyProof.Rows.boot_tuple (h.free 9)) (h.free 1) (nVar 3)))) (ssOne (sRet nNon)) ssNil)
  (ssCons (sSet 4 sc_round_count.nd (nTup aNil))
  (ssCons (sPre ([5], []) (sFor [5] PassesOwn.never rfl (iSeqN (nVar 3)) (gNameN 5 sc_round_count.nd) (ssCons (sIf (qW (wOr (qNot (qVal (nCall (ok_is_lot h) (hr.mono (by decide)) (h.glo 13) (kp_is_lot h) (aCons (nVar 0) (aCons (nVar 5) aNil))))) (wOr1 (qNot (qChain (kLe hr) (kLe hr) nInt (nB uLen boot_len (h.free 2) (aCons (nVar 5) aNil)) (nVar 2)))))) (ssOne (sRet nNon)) ssNil)
  (ssCons (sIf (qNot (qVal (nB (uAll rfl) PyProof.Rows.boot_all (h.free 4) (aCons (nComp [("block", 6)] rfl sc_round_count.nd (blkOk_by (N := N_round_count) (sc := defScope (top 29)) (by decide +kernel)) (iSeqN (nVar 5)) (fun _ _ _ _ _ => (gNameN 6 sc_round_count.nd)) (fun _ _ _ _ _ => tsNil) (fun _ _ _ _ _ => (nCmp (kIn hr) (nVar 6) (nCall (ok_next_in h) (hr.mono (by decide)) (h.glo 21) (kp_next_in h) (aCons (nVar 0) (aCons (nVar 1) (aCons (nVar 4) aNil))))))) aNil)))) (ssOne (sRet nNon)) ssNil)
  (ssOne (sSet 4 sc_round_count.nd (nTy uTuple PyProof.Rows.boot_tuple (h.free 9) (aCons (nB (uSorted hr) PyProof.Rows.boot_sorted (h.free 22) (aCons (nLst (aStar (nVar 4) (aStar (nVar 5) aNil))) aNil)) aNil))))))))
  (ssOne (sRet (nIf (qCmp (kEq hr) (nVar 4) (nVar 1)) (nB uLen boot_len (h.free 2) (aCons (nVar 3) aNil)) nNon))))))))
theorem ok_round_count (h : Fx fa fn cs K mg) : FunK P w K mg base (ctOf cs K T nf) 7 (He.ga K "round_count") false 4 c_round_count := by
  obtain ⟨fd, F⟩ := h.def_ 28
  exact ⟨fd, ["ground", "pit", "machines", "value"], body_round_count h F, F.bindsN fun _ _ _ _ _ _ us hl => match us, hl with | [_, _, _, _], _ => rfl⟩
theorem sc__law_height : FnScope N__law_height ["_law_covers_here", "_law_pit", "_law_block"] (defScope (top 43)) := ⟨rfl, rfl, rfl, by decide +kernel, rfl, by decide +kernel, by decide +kernel⟩
theorem kp__law_height (h : Fx fa fn cs K mg) : PySem.W.keepIn K (.ref (He.ga K "_law_height")) = true := by
  obtain ⟨fd, F⟩ := h.def_ 29
  exact F.kp
theorem ok__law_height (h : Fx fa fn cs K mg) : ∀ t : Nat, FunK P w K mg base (ctOf cs K T nf) (1 + t) (He.ga K "_law_height") false 3 (c__law_height t)
  | 0 => by
    obtain ⟨fd, F⟩ := h.def_ 29
    exact ⟨fd, ["_law_covers_here", "_law_pit", "_law_block"], bot_ok rfl, F.bindsN fun _ _ _ _ _ _ us hl => match us, hl with | [_, _, _], _ => rfl⟩
  | t + 1 => by
    have self := ok__law_height h t
    obtain ⟨fd, F⟩ := h.def_ 29
    refine ⟨fd, ["_law_covers_here", "_law_pit", "_law_block"], def_ok (n := 1 + t) F sc__law_height rfl rfl (by decide) fun cd A outer s H E hr => ?_, F.bindsN fun _ _ _ _ _ _ us hl => match us, hl with | [_, _, _], _ => rfl⟩
    exact (ssCons (sSetLc 3 [("_law_other", 4)] rfl sc__law_height.nd (blkOk_by (N := N__law_height) (sc := defScope (top 43)) (by decide +kernel)) (iSeqN (nVar 1)) (fun _ _ _ _ _ => (gNameN 4 sc__law_height.nd)) (fun _ _ _ _ _ => (tsOne (qCmp (kIn hr) (nVar 2) (nIx (nVar 0) (nVar 4))))) (fun _ _ _ _ _ => (nVar 4)))
  (ssOne (sRet (nIf (qCmp (kNe hr) (nVar 3) (nLst aNil)) (nAdd nInt (nB (uMax rfl hr) PyProof.Rows.boot_max (h.free 17) (aCons (nCompH 3 [("_law_other", 4)] (pv 3) rfl sc__law_height.nd (blkOk_by (N := N__law_height) (sc := defScope (top 43)) (by decide +kernel)) (fun _ _ _ _ _ => (gNameN 4 sc__law_height.nd)) (fun _ _ _ _ _ => tsNil) (fun _ _ _ _ _ => (nCall self (hr.mono (by omega)) (h.glo 36) (kp__law_height h) (aCons (nVar 0) (aCons (nVar 1) (aCons (nVar 4) aNil)))))) aNil))) nInt))))
theorem sc_law : FnScope N_law ["_law_script"] (defScope (top 44)) := ⟨rfl, rfl, rfl, by decide +kernel, rfl, by decide +kernel, by decide +kernel⟩
theorem body_law (h : Fx fa fn cs K mg) (hB : LamX.TabB base mg (He.cT K p_rest).1 (He.cT K p_rest).2) {fd : FuncData} (F : FunD K "law" "law" (defArgs (top 44)) (defBody (top 44)) (defScope (top 44)) [] [] (He.ga K "law") fd) : FnOk P w K mg base CX0 20 (He.ga K "law") fd ["_law_script"] (spL ⟨K, ctOf cs K (tabT K tf_rest) nf⟩ c_law) := by
  refine def_okL (n := 19) F sc_law rfl rfl fun cd A outer s H E hr => ?_
  exact (ssCons (sSet 1 sc_law.nd (nLst (aCons (nVar 0) (aCons nInt (aCons nInt (aCons nInt aNil))))))
  (ssCons (sSet 2 sc_law.nd (nCmp (kGt hr) (nCallI (ok__law_taken h) (hr.mono (by decide)) (h.glo 28) (kp__law_taken h) (aCons (nVar 1) (aCons nInt aNil))) nInt))
  (ssCons (sSet 3 sc_law.nd (nIf (qVal (nVar 2)) (nCallI (ok__law_single h) (hr.mono (by decide)) (h.glo 37) (kp__law_single h) (aCons (nVar 1) aNil)) (nCallI (ok__law_covers h) (hr.mono (by decide)) (h.glo 38) (kp__law_covers h) (aCons (nVar 1) (aCons nInt aNil)))))
  (ssCons (sPar3 4 5 6 rfl sc_law.nd (aCons (nCallI (ok__law_a_pit h) (hr.mono (by decide)) (h.glo 40) (kp__law_a_pit h) (aCons (nVar 1) (aCons (nVar 3) aNil))) (aCons (nMake (ci := 0) rfl (h.mkr 39) (ok_Ground___init__ h) (hr.mono (by decide)) (h.glo 0) (aCons (nVar 3) aNil)) (aCons (nAdd nInt (nCallI (ok__law_taken h) (hr.mono (by decide)) (h.glo 28) (kp__law_taken h) (aCons (nVar 1) (aCons nInt aNil)))) aNil))))
  (ssCons (sPar2 7 8 rfl sc_law.nd (aCons (nLst aNil) (aCons (nLst aNil) aNil)))
  (ssCons (sPre ([9, 10, 11, 12], []) (sFor [9, 10, 11, 12] PassesOwn.never rfl (iRng1N (h.free 3) (aCons (nB uLen boot_len (h.free 2) (aCons (nVar 4) aNil)) aNil)) (gNameN 9 sc_law.nd) (ssCons (sSet 10 sc_law.nd (nLst aNil))
  (ssCons (sPre ([11], []) (sFor [11] PassesOwn.never rfl (iSeqN (nCall (ok__law_next h) (hr.mono (by decide)) (h.glo 41) (kp__law_next h) (aCons (nVar 3) (aCons (nVar 4) (aCons (nVar 7) aNil))))) (gNameN 11 sc_law.nd) (ssOne (sExpr (nAppend 10 (pv 10) (aCons (nTup (aCons (nSub nInt (nCall (ok__law_height h 12) (hr.mono (by decide)) (h.glo 36) (kp__law_height h) (aCons (nVar 3) (aCons (nVar 4) (aCons (nVar 11) aNil))))) (aCons (nVar 11) aNil))) aNil))))))
  (ssCons (sSet 12 sc_law.nd (nB (uSorted hr) PyProof.Rows.boot_sorted (h.free 22) (aCons (nComp [("_law_block", 11), ("_law_height_here", 15)] rfl sc_law.nd (blkOk_by (N := N_law) (sc := defScope (top 44)) (by decide +kernel)) (iSeqN (nSl (nB (uSorted hr) PyProof.Rows.boot_sorted (h.free 22) (aCons (nVar 10) aNil)) oNone (oSome (nVar 6)))) (fun _ _ _ _ _ => (gTupN rfl (gsConsN (gNameN 15 sc_law.nd) (gsConsN (gNameN 11 sc_law.nd) gsNilN)))) (fun _ _ _ _ _ => tsNil) (fun _ _ _ _ _ => (nVar 11))) aNil)))
  (ssCons (sSet 7 sc_law.nd (nAdd (nVar 7) (nVar 12)))
  (ssOne (sSet 8 sc_law.nd (nAdd (nVar 8) (nIf (qCmp (kNe hr) (nVar 12) (nLst aNil)) (nLst (aCons (nTy uTuple PyProof.Rows.boot_tuple (h.free 9) (aCons (nVar 12) aNil)) aNil)) (nLst aNil)))))))))))
  (ssCons (sSet 13 sc_law.nd (nCall (ok_highest_first h) (hr.mono (by decide)) (h.glo 42) (kp_highest_first h) (aCons (nVar 5) (aCons (nVar 4) (aCons (nVar 6) aNil)))))
  (ssCons (sSet 14 sc_law.nd (nCall (ok_fewest_rounds h hB) (hr.mono (by decide)) (h.glo 43) (kp_fewest_rounds h) (aCons (nVar 5) (aCons (nVar 4) (aCons (nVar 6) aNil)))))
  (ssCons (sIf (qW (wOr (qCmp (kNe hr) (nVar 13) (nTy uTuple PyProof.Rows.boot_tuple (h.free 9) (aCons (nVar 8) aNil))) (wOr1 (qCmp (kNe hr) (nCall (ok_round_count h) (hr.mono (by decide)) (h.glo 44) (kp_round_count h) (aCons (nVar 5) (aCons (nVar 4) (aCons (nVar 6) (aCons (nVar 13) aNil))))) (nB uLen boot_len (h.free 2) (aCons (nVar 8) aNil)))))) (ssOne (sRet nBl)) ssNil)
  (ssCons (sIf (qCmp (kGt hr) (nVar 14) (nB uLen boot_len (h.free 2) (aCons (nVar 8) aNil))) (ssOne (sRet nBl)) ssNil)
  (ssOne (sRet (nOr (nNot (nVar 2)) (nOne (nCmp (kEq hr) (nVar 14) (nB uLen boot_len (h.free 2) (aCons (nVar 8) aNil)))))))))))))))))
end
end Lw

namespace Lw
open PySem Pv Tv
theorem ix0 {ns : List Int} {i s b : Int} : L2.atI (rowD ns i s b) 0 = some (flsD (ns.map .int)) := rfl
theorem ix1 {ns : List Int} {i s b : Int} : L2.atI (rowD ns i s b) 1 = some (.int i) := rfl
theorem ix2 {ns : List Int} {i s b : Int} : L2.atI (rowD ns i s b) 2 = some (.int s) := rfl
theorem ix3 {ns : List Int} {i s b : Int} : L2.atI (rowD ns i s b) 3 = some (.int b) := rfl
theorem n1 {ns : List Int} {i s b : Int} : L2.ixN (rowD ns i s b).length 1 = some 1 := rfl
theorem n2 {ns : List Int} {i s b : Int} : L2.ixN (rowD ns i s b).length 2 = some 2 := rfl
theorem n3 {ns : List Int} {i s b : Int} : L2.ixN (rowD ns i s b).length 3 = some 3 := rfl
theorem s1 {ns : List Int} {i s b x : Int} : (rowD ns i s b).set 1 (.int x) = rowD ns x s b := rfl
theorem s2 {ns : List Int} {i s b x : Int} : (rowD ns i s b).set 2 (.int x) = rowD ns i x b := rfl
theorem s3 {ns : List Int} {i s b x : Int} : (rowD ns i s b).set 3 (.int x) = rowD ns i s x := rfl
theorem atI_nat {α : Type} {xs : List α} {i : Int} (h0 : 0 ≤ i) (h1 : i < xs.length) : L2.atI xs i = xs[i.toNat]? := by
  unfold L2.atI L2.ixN
  rw [if_pos h0, if_pos (by omega)]
  rfl
theorem e_taken {ns : List Int} {i s b m : Int} (hi : 0 ≤ i) (hm : 0 < m) (hm2 : m < 1000000000) :
    ∃ r i' s' b', c__law_taken [.own (.lst (rowD ns i s b)), .val (.int m)] = some (.val (.int r), .own (.lst (rowD ns i' s' b'))) ∧ 0 ≤ r ∧ r < m ∧ 0 ≤ i' := by
  have hm3 : m < 1073741824 := by omega
  by_cases h1 : 0 < b
  · refine ⟨b % m, i, s, b / m, ?_, Int.emod_nonneg _ (by omega), Int.emod_lt_of_pos _ hm, hi⟩
    simp [runB, exRet, exRetN, exSeq, exIf, exAsg, exExpr, exPass, exSto, evAnd, evOr, evNot, evIf, tvB, tvNot, tvAnd, tvOr, evIsi, evVar, evC, evBin, evUn, evCall, evCons, evNil, rdD, rdAll, tyD, isiAny, isi1, tyNames, toB, evChain, eLe, eGe, eLt, eGt, eEq, eNe, eEqB, eNeB, retS, out0, stoS, frz1, frzs, lstAt, SV.d, OB.d, c__law_taken, m__law_taken, gIx, ix3, h1, gInt, gMulA_int, gI2, cPos_ok hm, cDiv_ok hm hm3, cPos_ok (show (0:Int) < 2147483647 by decide), cDiv_ok (show (0:Int) < 7 by decide) (by decide), cMul_r (show (48271:Int).natAbs ≤ 18446744073709551615 by decide), cPow_10, n3, s3]
  · by_cases h2 : (ns.length : Int) < i + 1
    · refine ⟨(s * 48271 + 11) % 2147483647 / 7 % m, i + 1, (s * 48271 + 11) % 2147483647, b, ?_, Int.emod_nonneg _ (by omega), Int.emod_lt_of_pos _ hm, by omega⟩
      simp [runB, exRet, exRetN, exSeq, exIf, exAsg, exExpr, exPass, exSto, evAnd, evOr, evNot, evIf, tvB, tvNot, tvAnd, tvOr, evIsi, evVar, evC, evBin, evUn, evCall, evCons, evNil, rdD, rdAll, tyD, isiAny, isi1, tyNames, toB, evChain, eLe, eGe, eLt, eGt, eEq, eNe, eEqB, eNeB, retS, out0, stoS, frz1, frzs, lstAt, SV.d, OB.d, c__law_taken, m__law_taken, gIx, ix0, ix1, ix2, ix3, h1, gInt, gMulA_int, gI2, cPos_ok hm, cDiv_ok hm hm3, cPos_ok (show (0:Int) < 2147483647 by decide), cDiv_ok (show (0:Int) < 7 by decide) (by decide), cMul_r (show (48271:Int).natAbs ≤ 18446744073709551615 by decide), cPow_10, n1, n2, n3, s1, s2, s3, gLen, gAdd, h2]
    · have h4 : L2.atI (ns.map PyData.int) i = some (.int (ns.getD i.toNat 0)) := by
        rw [atI_nat hi (by simp; omega)]
        have : i.toNat < ns.length := by omega
        simp [runB, exRet, exRetN, exSeq, exIf, exAsg, exExpr, exPass, exSto, evAnd, evOr, evNot, evIf, tvB, tvNot, tvAnd, tvOr, evIsi, evVar, evC, evBin, evUn, evCall, evCons, evNil, rdD, rdAll, tyD, isiAny, isi1, tyNames, toB, evChain, eLe, eGe, eLt, eGt, eEq, eNe, eEqB, eNeB, retS, out0, stoS, frz1, frzs, lstAt, SV.d, OB.d, this]
      have h5 : i + 1 - 1 = i := by omega
      generalize ns.getD i.toNat 0 = c at h4
      by_cases h6 : (1000000000000000000 : Int) ≤ c
      · refine ⟨c % m, i + 1, (s * 48271 + c + 11) % 2147483647, c / m, ?_, Int.emod_nonneg _ (by omega), Int.emod_lt_of_pos _ hm, by omega⟩
        simp [runB, exRet, exRetN, exSeq, exIf, exAsg, exExpr, exPass, exSto, evAnd, evOr, evNot, evIf, tvB, tvNot, tvAnd, tvOr, evIsi, evVar, evC, evBin, evUn, evCall, evCons, evNil, rdD, rdAll, tyD, isiAny, isi1, tyNames, toB, evChain, eLe, eGe, eLt, eGt, eEq, eNe, eEqB, eNeB, retS, out0, stoS, frz1, frzs, lstAt, SV.d, OB.d, c__law_taken, m__law_taken, gIx, ix0, ix1, ix2, ix3, h1, gInt, gMulA_int, gI2, cPos_ok hm, cDiv_ok hm hm3, cPos_ok (show (0:Int) < 2147483647 by decide), cDiv_ok (show (0:Int) < 7 by decide) (by decide), cMul_r (show (48271:Int).natAbs ≤ 18446744073709551615 by decide), cPow_10, n1, n2, n3, s1, s2, s3, gLen, gAdd, h2, h4, h5, h6]
      · refine ⟨c % m, i + 1, (s * 48271 + c + 11) % 2147483647, b, ?_, Int.emod_nonneg _ (by omega), Int.emod_lt_of_pos _ hm, by omega⟩
        simp [runB, exRet, exRetN, exSeq, exIf, exAsg, exExpr, exPass, exSto, evAnd, evOr, evNot, evIf, tvB, tvNot, tvAnd, tvOr, evIsi, evVar, evC, evBin, evUn, evCall, evCons, evNil, rdD, rdAll, tyD, isiAny, isi1, tyNames, toB, evChain, eLe, eGe, eLt, eGt, eEq, eNe, eEqB, eNeB, retS, out0, stoS, frz1, frzs, lstAt, SV.d, OB.d, c__law_taken, m__law_taken, gIx, ix0, ix1, ix2, ix3, h1, gInt, gMulA_int, gI2, cPos_ok hm, cDiv_ok hm hm3, cPos_ok (show (0:Int) < 2147483647 by decide), cDiv_ok (show (0:Int) < 7 by decide) (by decide), cMul_r (show (48271:Int).natAbs ≤ 18446744073709551615 by decide), cPow_10, n1, n2, n3, s1, s2, s3, gLen, gAdd, h2, h4, h5, h6]
theorem cr_taken (m : Int) : CR c__law_taken (fun w => .own (row w)) [.val (eI m)] (vV eI) (takenW m) := fun w Q q => by
  obtain ⟨r, i', s', b', e, h1, h2, h3⟩ := e_taken (ns := w.ns) (i := w.i) (s := w.s) (b := w.b) w.hi q.1.1 q.1.2
  exact ⟨r, ⟨w.ns, i', s', b', h3⟩, q.2 r h1 h2, e⟩
end Lw


namespace Lw
open PySem Pv Tv
def t_l_single  : PT (List (List Int)) := fun Q => takenW 7 fun r17 => retW ((1 + r17) : Int) fun many1 => rangeW many1 fun r15 => mapW r15 (fun (block2 : Int) Q => takenW (many1 - block2) fun r16 => Q ((block2 + 1) + r16)) fun goals3 => retW (([] : (List (List Int))) : (List (List Int))) fun found4 => rangeW many1 fun r13 => forW (fun (block6 : Int) (s5 : (List (List Int))) Q => rangeW block6 fun r11 => compW r11 (fun (one7 : Int) Q => ixW goals3 one7 fun r12 => Q (decide (r12 = block6))) (fun (one7 : Int) Q => Q one7) fun l10 => appW s5 l10 fun found8 => Q found8) r13 found4 fun (v9 : (List (List Int))) => Q v9
theorem tw_l_single  : CR c__law_single (fun w => .own (row w)) [] (vV (eT (eT eI))) t_l_single := by
  have h : WN true m__law_single (fun (w : RW) => [some (.own (row w)), none, none, none, none, none]) (vV (eT (eT eI))) (fun _ w => .own (row w)) _ := (nSeq (sAsg (K := (fun (many1 : Int) (w : RW) => [some (.own (row w)), some (.val (eI many1)), none, none, none, none])) (wBin (wInt 1) (wCallI (rs := fun (A : Unit × Int × Unit) => [Rv.sv (.val (eI A.2.1))]) (row := row) (wCons (wPlc0 0) (wCons (wInt 7) wNil)) (fun (A : Unit × Int × Unit) => cr_taken A.2.1)) (fun A B => opAdd A B))) (fun (many1 : Int) => (nSeq (sAsg (K := (fun (goals3 : (List Int)) (w : RW) => [some (.own (row w)), some (.val (eI many1)), some (.own (.lst (List.map eI goals3))), none, none, none])) (wMap (R0 := (fun (w : RW) => [some (.own (row w)), some (.val (eI many1)), none, none, none, none])) (Rb := (fun (block2 : Int) (w : RW) => [some (.own (row w)), some (.val (eI many1)), none, none, some (.val (eI block2)), none])) (Rc := (fun (block2 : Int) (w : RW) => [some (.own (row w)), some (.val (eI many1)), none, none, some (.val (eI block2)), none])) (e' := eI) (v := fun block2 A => A) (wRng1 (v := fun (A : Int × Unit) => A.1) (wCons (wVar 1 eI many1) wNil)) (fun block2 => (wBin (wBin (wVar 4 eI block2) (wInt 1) (fun A B => opAdd A B)) (wCallI (rs := fun (A : Unit × Int × Unit) => [Rv.sv (.val (eI A.2.1))]) (row := row) (wCons (wPlc0 0) (wCons (wBin (wVar 1 eI many1) (wVar 4 eI block2) (fun A B => opSub A B)) wNil)) (fun (A : Unit × Int × Unit) => cr_taken A.2.1)) (fun A B => opAdd A B))))) (fun (goals3 : (List Int)) => (nSeq (sAsg (K := (fun (found4 : (List (List Int))) (w : RW) => [some (.own (row w)), some (.val (eI many1)), some (.own (.lst (List.map eI goals3))), some (.own (.lst (List.map (eT eI) found4))), none, none])) (wLst (e := (eT eI)) (f := (fun (A : Unit) => ([] : (List (List Int))))) wNil)) (fun (found4 : (List (List Int))) => (nSeq (sForW (R1 := (fun (w : RW) => [some (.own (row w)), some (.val (eI many1)), some (.own (.lst (List.map eI goals3))), some (.own (.lst (List.map (eT eI) found4))), none, none])) (K0 := (fun (s5 : (List (List Int))) (w : RW) => [some (.own (row w)), some (.val (eI many1)), some (.own (.lst (List.map eI goals3))), some (.own (.lst (List.map (eT eI) s5))), none, none])) (Kb := (fun (block6 : Int) (s5 : (List (List Int))) (w : RW) => [some (.own (row w)), some (.val (eI many1)), some (.own (.lst (List.map eI goals3))), some (.own (.lst (List.map (eT eI) s5))), some (.val (eI block6)), none])) found4 (wRng1 (v := fun (A : Int × Unit) => A.1) (wCons (wVar 1 eI many1) wNil)) (fun (block6 : Int) (s5 : (List (List Int))) => (sKillK (sReK (ks := [4]) (K' := (fun (s5 : (List (List Int))) (w : RW) => [some (.own (row w)), some (.val (eI many1)), some (.own (.lst (List.map eI goals3))), some (.own (.lst (List.map (eT eI) s5))), none, none])) (fun (found8 : List (List Int)) => found8) (sMut (e := (eT eI)) (l := s5) (R2 := (fun (w : RW) => [some (.own (row w)), some (.val (eI many1)), some (.own (.lst (List.map eI goals3))), some (.own (.lst (List.map (eT eI) s5))), some (.val (eI block6)), none])) (K := (fun (found8 : List (List Int)) (w : RW) => [some (.own (row w)), some (.val (eI many1)), some (.own (.lst (List.map eI goals3))), some (.own (.lst (List.map (eT eI) found8))), some (.val (eI block6)), none])) (wCons (wCall (wCons (wComp (R0 := (fun (w : RW) => [some (.own (row w)), some (.val (eI many1)), some (.own (.lst (List.map eI goals3))), some (.own (.lst (List.map (eT eI) s5))), some (.val (eI block6)), none])) (Rb := (fun (one7 : Int) (w : RW) => [some (.own (row w)), some (.val (eI many1)), some (.own (.lst (List.map eI goals3))), some (.own (.lst (List.map (eT eI) s5))), some (.val (eI block6)), some (.val (eI one7))])) (Rc := (fun (one7 : Int) (w : RW) => [some (.own (row w)), some (.val (eI many1)), some (.own (.lst (List.map eI goals3))), some (.own (.lst (List.map (eT eI) s5))), some (.val (eI block6)), some (.val (eI one7))])) (e' := eI) (v := fun one7 A => A) (wRng1 (v := fun (A : Int × Unit) => A.1) (wCons (wVar 4 eI block6) wNil)) (fun one7 => (wTb (wBin (wBin (wPlc 2 (.lst (List.map eI goals3))) (wVar 5 eI one7) (fun A B => (opIxL (e := eI)) goals3 B)) (wVar 4 eI block6) (fun A B => (opEq (e := eI)) A B)))) (fun one7 => (wVar 5 eI one7))) wNil) (fun (A : (List Int) × Unit) => (opTupL (e := eI)) A.1)) wNil) (fun (A : (List Int) × Unit) Q q => f_app (e := (eT eI)) A.1 Q q)))))) (fun (v9 : (List (List Int))) => (nF (fRet (v := fun A => A) (wCall (wCons (wPlc 3 (.lst (List.map (eT eI) v9))) wNil) (fun (A : Unit × Unit) => (opTupL (e := (eT eI))) v9))))))))))))
  try dsimp only [retW, ifW, andW, orW] at h
  unfold t_l_single
  try dsimp only [retW, ifW, andW, orW]
  exact crOf (nl := 6) (row := row) (fun (w : RW) => [some (.own (row w)), none, none, none, none, none]) h
def t_l_covers (most18 : Int) : PT (List (List Int)) := fun Q => takenW 7 fun r47 => takenW most18 fun r48 => retW ((([] : (List (List Int))) : (List (List Int))), (r47 : Int), ((1 + r48) : Int), ()) fun (A19 : (List (List Int)) × Int × Int × Unit) => rangeW A19.2.2.1 fun r46 => forW (fun (block21 : Int) (s20 : (List (List Int))) Q => rangeW block21 fun r44 => compW r44 (fun (one22 : Int) Q => takenW 3 fun r45 => Q (decide (r45 = 0))) (fun (one22 : Int) Q => Q one22) fun some23 => ifW (decide (A19.2.1 = 0)) (fun Q => retW (([] : (List Int)) : (List Int)) fun some24 => Q some24) (fun Q => Q some23) fun (v25 : (List Int)) => ifW (decide (A19.2.1 = 1)) (fun Q => rgW block21 fun r42 => retW ((cutL r42 (some (-1)) none) : (List Int)) fun some26 => Q some26) (fun Q => Q v25) fun (v27 : (List Int)) => ifW (decide (A19.2.1 = 2)) (fun Q => rangeW block21 fun r38 => compW r38 (fun (one28 : Int) Q => mulW 2 one28 fun r40 => andW (fun Q => Q (decide (r40 < A19.2.2.1))) (fun Q => mulW 2 block21 fun r41 => Q (decide (A19.2.2.1 ≤ r41))) fun b39 => Q b39) (fun (one28 : Int) Q => Q one28) fun some29 => Q some29) (fun Q => Q v27) fun (v30 : (List Int)) => ifW (decide (A19.2.1 = 3)) (fun Q => compW v30 (fun (one31 : Int) Q => Q (decide ((block21 - one31) < 3))) (fun (one31 : Int) Q => Q one31) fun some32 => Q some32) (fun Q => Q v30) fun (v33 : (List Int)) => appW s20 v33 fun found34 => Q found34) r46 A19.1 fun (v35 : (List (List Int))) => Q v35
theorem tw_l_covers (most18 : Int) : CR c__law_covers (fun w => .own (row w)) [.val (eI most18)] (vV (eT (eT eI))) (t_l_covers most18) := by
  have h : WN true m__law_covers (fun (w : RW) => [some (.own (row w)), some (.val (eI most18)), none, none, none, none, none, none]) (vV (eT (eT eI))) (fun _ w => .own (row w)) _ := (nSeq (sParW (K := (fun (A19 : (List (List Int)) × Int × Int × Unit) (w : RW) => [some (.own (row w)), some (.val (eI most18)), some (.own (.lst (List.map (eT eI) A19.1))), some (.val (eI A19.2.1)), some (.val (eI A19.2.2.1)), none, none, none])) (wCons (wLst (e := (eT eI)) (f := (fun (A : Unit) => ([] : (List (List Int))))) wNil) (wCons (wCallI (rs := fun (A : Unit × Int × Unit) => [Rv.sv (.val (eI A.2.1))]) (row := row) (wCons (wPlc0 0) (wCons (wInt 7) wNil)) (fun (A : Unit × Int × Unit) => cr_taken A.2.1)) (wCons (wBin (wInt 1) (wCallI (rs := fun (A : Unit × Int × Unit) => [Rv.sv (.val (eI A.2.1))]) (row := row) (wCons (wPlc0 0) (wCons (wVar 1 eI most18) wNil)) (fun (A : Unit × Int × Unit) => cr_taken A.2.1)) (fun A B => opAdd A B)) wNil)))) (fun (A19 : (List (List Int)) × Int × Int × Unit) => (nSeq (sForW (R1 := (fun (w : RW) => [some (.own (row w)), some (.val (eI most18)), some (.own (.lst (List.map (eT eI) A19.1))), some (.val (eI A19.2.1)), some (.val (eI A19.2.2.1)), none, none, none])) (K0 := (fun (s20 : (List (List Int))) (w : RW) => [some (.own (row w)), some (.val (eI most18)), some (.own (.lst (List.map (eT eI) s20))), some (.val (eI A19.2.1)), some (.val (eI A19.2.2.1)), none, none, none])) (Kb := (fun (block21 : Int) (s20 : (List (List Int))) (w : RW) => [some (.own (row w)), some (.val (eI most18)), some (.own (.lst (List.map (eT eI) s20))), some (.val (eI A19.2.1)), some (.val (eI A19.2.2.1)), some (.val (eI block21)), none, none])) A19.1 (wRng1 (v := fun (A : Int × Unit) => A.1) (wCons (wVar 4 eI A19.2.2.1) wNil)) (fun (block21 : Int) (s20 : (List (List Int))) => (sKillK (sSeqK (sAsg (K := (fun (some23 : (List Int)) (w : RW) => [some (.own (row w)), some (.val (eI most18)), some (.own (.lst (List.map (eT eI) s20))), some (.val (eI A19.2.1)), some (.val (eI A19.2.2.1)), some (.val (eI block21)), some (.own (.lst (List.map eI some23))), none])) (wComp (R0 := (fun (w : RW) => [some (.own (row w)), some (.val (eI most18)), some (.own (.lst (List.map (eT eI) s20))), some (.val (eI A19.2.1)), some (.val (eI A19.2.2.1)), some (.val (eI block21)), none, none])) (Rb := (fun (one22 : Int) (w : RW) => [some (.own (row w)), some (.val (eI most18)), some (.own (.lst (List.map (eT eI) s20))), some (.val (eI A19.2.1)), some (.val (eI A19.2.2.1)), some (.val (eI block21)), none, some (.val (eI one22))])) (Rc := (fun (one22 : Int) (w : RW) => [some (.own (row w)), some (.val (eI most18)), some (.own (.lst (List.map (eT eI) s20))), some (.val (eI A19.2.1)), some (.val (eI A19.2.2.1)), some (.val (eI block21)), none, some (.val (eI one22))])) (e' := eI) (v := fun one22 A => A) (wRng1 (v := fun (A : Int × Unit) => A.1) (wCons (wVar 5 eI block21) wNil)) (fun one22 => (wTb (wBin (wCallI (rs := fun (A : Unit × Int × Unit) => [Rv.sv (.val (eI A.2.1))]) (row := row) (wCons (wPlc0 0) (wCons (wInt 3) wNil)) (fun (A : Unit × Int × Unit) => cr_taken A.2.1)) (wInt 0) (fun A B => (opEq (e := eI)) A B)))) (fun one22 => (wVar 7 eI one22)))) (fun (some23 : (List Int)) => (sSeqK (sIfW (wTb (wBin (wVar 3 eI A19.2.1) (wInt 0) (fun A B => (opEq (e := eI)) A B))) (sRe (K' := (fun (v25 : (List Int)) (w : RW) => [some (.own (row w)), some (.val (eI most18)), some (.own (.lst (List.map (eT eI) s20))), some (.val (eI A19.2.1)), some (.val (eI A19.2.2.1)), some (.val (eI block21)), some (.own (.lst (List.map eI v25))), none])) (fun (some24 : (List Int)) => some24) (sAsg (K := (fun (some24 : (List Int)) (w : RW) => [some (.own (row w)), some (.val (eI most18)), some (.own (.lst (List.map (eT eI) s20))), some (.val (eI A19.2.1)), some (.val (eI A19.2.2.1)), some (.val (eI block21)), some (.own (.lst (List.map eI some24))), none])) (wLst (e := eI) (f := (fun (A : Unit) => ([] : (List Int)))) wNil))) (sRe (K' := (fun (v25 : (List Int)) (w : RW) => [some (.own (row w)), some (.val (eI most18)), some (.own (.lst (List.map (eT eI) s20))), some (.val (eI A19.2.1)), some (.val (eI A19.2.2.1)), some (.val (eI block21)), some (.own (.lst (List.map eI v25))), none])) (fun (_ : Unit) => some23) sPassW)) (fun (v25 : (List Int)) => (sSeqK (sIfW (wTb (wBin (wVar 3 eI A19.2.1) (wInt 1) (fun A B => (opEq (e := eI)) A B))) (sRe (K' := (fun (v27 : (List Int)) (w : RW) => [some (.own (row w)), some (.val (eI most18)), some (.own (.lst (List.map (eT eI) s20))), some (.val (eI A19.2.1)), some (.val (eI A19.2.2.1)), some (.val (eI block21)), some (.own (.lst (List.map eI v27))), none])) (fun (some26 : (List Int)) => some26) (sAsg (K := (fun (some26 : (List Int)) (w : RW) => [some (.own (row w)), some (.val (eI most18)), some (.own (.lst (List.map (eT eI) s20))), some (.val (eI A19.2.1)), some (.val (eI A19.2.2.1)), some (.val (eI block21)), some (.own (.lst (List.map eI some26))), none])) (wSl (wUn (wVar 5 eI block21) (fun A => opLRg A)) (fun A => opSlL (e := eI) (some (-1)) none A)))) (sRe (K' := (fun (v27 : (List Int)) (w : RW) => [some (.own (row w)), some (.val (eI most18)), some (.own (.lst (List.map (eT eI) s20))), some (.val (eI A19.2.1)), some (.val (eI A19.2.2.1)), some (.val (eI block21)), some (.own (.lst (List.map eI v27))), none])) (fun (_ : Unit) => v25) sPassW)) (fun (v27 : (List Int)) => (sSeqK (sIfW (wTb (wBin (wVar 3 eI A19.2.1) (wInt 2) (fun A B => (opEq (e := eI)) A B))) (sRe (K' := (fun (v30 : (List Int)) (w : RW) => [some (.own (row w)), some (.val (eI most18)), some (.own (.lst (List.map (eT eI) s20))), some (.val (eI A19.2.1)), some (.val (eI A19.2.2.1)), some (.val (eI block21)), some (.own (.lst (List.map eI v30))), none])) (fun (some29 : (List Int)) => some29) (sAsg (K := (fun (some29 : (List Int)) (w : RW) => [some (.own (row w)), some (.val (eI most18)), some (.own (.lst (List.map (eT eI) s20))), some (.val (eI A19.2.1)), some (.val (eI A19.2.2.1)), some (.val (eI block21)), some (.own (.lst (List.map eI some29))), none])) (wComp (R0 := (fun (w : RW) => [some (.own (row w)), some (.val (eI most18)), some (.own (.lst (List.map (eT eI) s20))), some (.val (eI A19.2.1)), some (.val (eI A19.2.2.1)), some (.val (eI block21)), some (.own (.lst (List.map eI v27))), none])) (Rb := (fun (one28 : Int) (w : RW) => [some (.own (row w)), some (.val (eI most18)), some (.own (.lst (List.map (eT eI) s20))), some (.val (eI A19.2.1)), some (.val (eI A19.2.2.1)), some (.val (eI block21)), some (.own (.lst (List.map eI v27))), some (.val (eI one28))])) (Rc := (fun (one28 : Int) (w : RW) => [some (.own (row w)), some (.val (eI most18)), some (.own (.lst (List.map (eT eI) s20))), some (.val (eI A19.2.1)), some (.val (eI A19.2.2.1)), some (.val (eI block21)), some (.own (.lst (List.map eI v27))), some (.val (eI one28))])) (e' := eI) (v := fun one28 A => A) (wRng1 (v := fun (A : Int × Unit) => A.1) (wCons (wVar 5 eI block21) wNil)) (fun one28 => (wTb (wChain (wBin (wInt 2) (wVar 7 eI one28) (fun A B => opMulA A B)) (wVar 4 eI A19.2.2.1) (wBin (wInt 2) (wVar 5 eI block21) (fun A B => opMulA A B)) (fun A B => opLtI A B) (fun A B => opLeI A B)))) (fun one28 => (wVar 7 eI one28))))) (sRe (K' := (fun (v30 : (List Int)) (w : RW) => [some (.own (row w)), some (.val (eI most18)), some (.own (.lst (List.map (eT eI) s20))), some (.val (eI A19.2.1)), some (.val (eI A19.2.2.1)), some (.val (eI block21)), some (.own (.lst (List.map eI v30))), none])) (fun (_ : Unit) => v27) sPassW)) (fun (v30 : (List Int)) => (sSeqK (sIfW (wTb (wBin (wVar 3 eI A19.2.1) (wInt 3) (fun A B => (opEq (e := eI)) A B))) (sRe (K' := (fun (v33 : (List Int)) (w : RW) => [some (.own (row w)), some (.val (eI most18)), some (.own (.lst (List.map (eT eI) s20))), some (.val (eI A19.2.1)), some (.val (eI A19.2.2.1)), some (.val (eI block21)), some (.own (.lst (List.map eI v33))), none])) (fun (some32 : (List Int)) => some32) (sAsg (K := (fun (some32 : (List Int)) (w : RW) => [some (.own (row w)), some (.val (eI most18)), some (.own (.lst (List.map (eT eI) s20))), some (.val (eI A19.2.1)), some (.val (eI A19.2.2.1)), some (.val (eI block21)), some (.own (.lst (List.map eI some32))), none])) (wComp (R0 := (fun (w : RW) => [some (.own (row w)), some (.val (eI most18)), some (.own (.lst (List.map (eT eI) s20))), some (.val (eI A19.2.1)), some (.val (eI A19.2.2.1)), some (.val (eI block21)), some (.val ((eL eI) v30)), none])) (Rb := (fun (one31 : Int) (w : RW) => [some (.own (row w)), some (.val (eI most18)), some (.own (.lst (List.map (eT eI) s20))), some (.val (eI A19.2.1)), some (.val (eI A19.2.2.1)), some (.val (eI block21)), some (.val ((eL eI) v30)), some (.val (eI one31))])) (Rc := (fun (one31 : Int) (w : RW) => [some (.own (row w)), some (.val (eI most18)), some (.own (.lst (List.map (eT eI) s20))), some (.val (eI A19.2.1)), some (.val (eI A19.2.2.1)), some (.val (eI block21)), some (.val ((eL eI) v30)), some (.val (eI one31))])) (e' := eI) (v := fun one31 A => A) (wSeq (e := eI) (l := fun A => v30) (R2 := (fun (w : RW) => [some (.own (row w)), some (.val (eI most18)), some (.own (.lst (List.map (eT eI) s20))), some (.val (eI A19.2.1)), some (.val (eI A19.2.2.1)), some (.val (eI block21)), some (.val ((eL eI) v30)), none])) (wPlc 6 (.lst (List.map eI v30)))) (fun one31 => (wTb (wBin (wBin (wVar 5 eI block21) (wVar 7 eI one31) (fun A B => opSub A B)) (wInt 3) (fun A B => opLtI A B)))) (fun one31 => (wVar 7 eI one31))))) (sRe (K' := (fun (v33 : (List Int)) (w : RW) => [some (.own (row w)), some (.val (eI most18)), some (.own (.lst (List.map (eT eI) s20))), some (.val (eI A19.2.1)), some (.val (eI A19.2.2.1)), some (.val (eI block21)), some (.own (.lst (List.map eI v33))), none])) (fun (_ : Unit) => v30) sPassW)) (fun (v33 : (List Int)) => (sReK (ks := [5, 6]) (K' := (fun (s20 : (List (List Int))) (w : RW) => [some (.own (row w)), some (.val (eI most18)), some (.own (.lst (List.map (eT eI) s20))), some (.val (eI A19.2.1)), some (.val (eI A19.2.2.1)), none, none, none])) (fun (found34 : List (List Int)) => found34) (sMut (e := (eT eI)) (l := s20) (R2 := (fun (w : RW) => [some (.own (row w)), some (.val (eI most18)), some (.own (.lst (List.map (eT eI) s20))), some (.val (eI A19.2.1)), some (.val (eI A19.2.2.1)), some (.val (eI block21)), some (.own (.lst (List.map eI v33))), none])) (K := (fun (found34 : List (List Int)) (w : RW) => [some (.own (row w)), some (.val (eI most18)), some (.own (.lst (List.map (eT eI) found34))), some (.val (eI A19.2.1)), some (.val (eI A19.2.2.1)), some (.val (eI block21)), some (.own (.lst (List.map eI v33))), none])) (wCons (wCall (wCons (wPlc 6 (.lst (List.map eI v33))) wNil) (fun (A : Unit × Unit) => (opTupL (e := eI)) v33)) wNil) (fun (A : (List Int) × Unit) Q q => f_app (e := (eT eI)) A.1 Q q)))))))))))))))) (fun (v35 : (List (List Int))) => (nF (fRet (v := fun A => A) (wCall (wCons (wPlc 2 (.lst (List.map (eT eI) v35))) wNil) (fun (A : Unit × Unit) => (opTupL (e := (eT eI))) v35))))))))
  try dsimp only [retW, ifW, andW, orW] at h
  unfold t_l_covers
  try dsimp only [retW, ifW, andW, orW]
  exact crOf (nl := 8) (row := row) (fun (w : RW) => [some (.own (row w)), some (.val (eI most18)), none, none, none, none, none, none]) h
def t_l_lots (many52 : Int) : PT (List (List Int)) := fun Q => retW ([([] : (List Int))] : (List (List Int))) fun found53 => rangeW many52 fun r67 => forW (fun (block55 : Int) (s54 : (List (List Int))) Q => mapW s54 (fun (lot56 : (List Int)) Q => catW lot56 [block55] fun r65 => Q r65) fun l64 => catW s54 l64 fun found57 => Q found57) r67 found53 fun (v58 : (List (List Int))) => mapW v58 (fun (lot59 : (List Int)) Q => Q ((lot59.length : Int), lot59)) fun l62 => sortW (eP eI (eT eI)) (ltP ltI (ltLex ltI)) l62 fun r63 => mapW r63 (fun (p60 : (Int × (List Int))) Q => Q p60.2) fun l61 => Q l61
theorem tw_l_lots (many52 : Int) : CW c__law_lots [.val (eI many52)] (vL (eT eI)) (t_l_lots many52) := by
  have h : WN false m__law_lots (fun (w : Unit) => [some (.val (eI many52)), none, none, none, none]) (vL (eT eI)) (fun _ _ => .val .none) _ := (nSeq (sAsg (K := (fun (found53 : (List (List Int))) (w : Unit) => [some (.val (eI many52)), some (.own (.lst (List.map (eT eI) found53))), none, none, none])) (wLst (e := (eT eI)) (f := (fun (A : (List Int) × Unit) => [A.1])) (wCons (wTup (e := (eT eI)) (f := (fun (A : Unit) => ([] : (List Int)))) wNil (fun _ => rfl)) wNil))) (fun (found53 : (List (List Int))) => (nSeq (sForW (R1 := (fun (w : Unit) => [some (.val (eI many52)), some (.own (.lst (List.map (eT eI) found53))), none, none, none])) (K0 := (fun (s54 : (List (List Int))) (w : Unit) => [some (.val (eI many52)), some (.own (.lst (List.map (eT eI) s54))), none, none, none])) (Kb := (fun (block55 : Int) (s54 : (List (List Int))) (w : Unit) => [some (.val (eI many52)), some (.own (.lst (List.map (eT eI) s54))), some (.val (eI block55)), none, none])) found53 (wRng1 (v := fun (A : Int × Unit) => A.1) (wCons (wVar 0 eI many52) wNil)) (fun (block55 : Int) (s54 : (List (List Int))) => (sKillK (sReK (ks := [2]) (K' := (fun (s54 : (List (List Int))) (w : Unit) => [some (.val (eI many52)), some (.own (.lst (List.map (eT eI) s54))), none, none, none])) (fun (found57 : (List (List Int))) => found57) (sAsg (K := (fun (found57 : (List (List Int))) (w : Unit) => [some (.val (eI many52)), some (.own (.lst (List.map (eT eI) found57))), some (.val (eI block55)), none, none])) (wBin (wPlc 1 (.lst (List.map (eT eI) s54))) (wMap (R0 := (fun (w : Unit) => [some (.val (eI many52)), some (.val ((eL (eT eI)) s54)), some (.val (eI block55)), none, none])) (Rb := (fun (lot56 : (List Int)) (w : Unit) => [some (.val (eI many52)), some (.val ((eL (eT eI)) s54)), some (.val (eI block55)), some (.val ((eT eI) lot56)), none])) (Rc := (fun (lot56 : (List Int)) (w : Unit) => [some (.val (eI many52)), some (.val ((eL (eT eI)) s54)), some (.val (eI block55)), some (.val ((eT eI) lot56)), none])) (e' := (eT eI)) (v := fun lot56 A => A) (wSeq (e := (eT eI)) (l := fun A => s54) (R2 := (fun (w : Unit) => [some (.val (eI many52)), some (.val ((eL (eT eI)) s54)), some (.val (eI block55)), none, none])) (wPlc 1 (.lst (List.map (eT eI) s54)))) (fun lot56 => (wBin (wVar 3 (eT eI) lot56) (wTup (e := (eT eI)) (f := (fun (A : Int × Unit) => [A.1])) (wCons (wVar 2 eI block55) wNil) (fun _ => rfl)) (fun A B => (opCatT (e := eI)) A B)))) (fun A B => (opCatL (e := (eT eI))) s54 B))))))) (fun (v58 : (List (List Int))) => (nF (fRet (v := fun A => A) (wMap (R0 := (fun (w : Unit) => [some (.val (eI many52)), some (.val ((eL (eT eI)) v58)), none, none, none])) (Rb := (fun (p60 : (Int × (List Int))) (w : Unit) => [some (.val (eI many52)), some (.val ((eL (eT eI)) v58)), none, some (.val ((eT eI) p60.2)), some (.val (eI p60.1))])) (Rc := (fun (p60 : (Int × (List Int))) (w : Unit) => [some (.val (eI many52)), some (.val ((eL (eT eI)) v58)), none, some (.val ((eT eI) p60.2)), some (.val (eI p60.1))])) (e' := (eT eI)) (v := fun p60 A => A) (wSeq (e := (eP eI (eT eI))) (l := fun A => A) (wCall (wCons (wMap (R0 := (fun (w : Unit) => [some (.val (eI many52)), some (.val ((eL (eT eI)) v58)), none, none, none])) (Rb := (fun (lot59 : (List Int)) (w : Unit) => [some (.val (eI many52)), some (.val ((eL (eT eI)) v58)), none, some (.val ((eT eI) lot59)), none])) (Rc := (fun (lot59 : (List Int)) (w : Unit) => [some (.val (eI many52)), some (.val ((eL (eT eI)) v58)), none, some (.val ((eT eI) lot59)), none])) (e' := (eP eI (eT eI))) (v := fun lot59 A => A) (wSeq (e := (eT eI)) (l := fun A => v58) (R2 := (fun (w : Unit) => [some (.val (eI many52)), some (.val ((eL (eT eI)) v58)), none, none, none])) (wPlc 1 (.lst (List.map (eT eI) v58)))) (fun lot59 => (wTup (e := (eP eI (eT eI))) (f := (fun (A : Int × (List Int) × Unit) => (A.1, A.2.1))) (wCons (wCall (wCons (wVar 3 (eT eI) lot59) wNil) (fun (A : (List Int) × Unit) => (opLenT (e := eI)) A.1)) (wCons (wVar 3 (eT eI) lot59) wNil)) (fun _ => rfl)))) wNil) (fun (A : (List (Int × (List Int))) × Unit) => (opSorted (e := (eP eI (eT eI)))) A.1))) (fun p60 => (wVar 3 (eT eI) p60.2)))))))))
  try dsimp only [retW, ifW, andW, orW] at h
  unfold t_l_lots
  try dsimp only [retW, ifW, andW, orW]
  exact cwOf (nl := 5) (fun (w : Unit) => [some (.val (eI many52)), none, none, none, none]) h
def t_l_is_pit (covers_here69 : (List (List Int))) (lot70 : (List Int)) : PT Bool := fun Q => forR (fun (block72 : Int) (s71 : Unit) Q => ixW covers_here69 block72 fun r75 => compW r75 (fun (one73 : Int) Q => Q (!decide (one73 ∈ lot70))) (fun (one73 : Int) Q => Q one73) fun l74 => if (!decide (l74 = ([] : (List Int)))) = true then Q (.ret false) else Q (.go ())) lot70 () fun r => thenW (fun (v76 : Unit) Q => Q true) r Q
theorem tw_l_is_pit (covers_here69 : (List (List Int))) (lot70 : (List Int)) : CW c__law_is_pit [.val ((eT (eT eI)) covers_here69), .val ((eT eI) lot70)] (vV eB) (t_l_is_pit covers_here69 lot70) := by
  have h : WN false m__law_is_pit (fun (w : Unit) => [some (.val ((eT (eT eI)) covers_here69)), some (.val ((eT eI) lot70)), none, none]) (vV eB) (fun _ _ => .val .none) _ := (nForR (R1 := (fun (w : Unit) => [some (.val ((eT (eT eI)) covers_here69)), some (.val ((eT eI) lot70)), none, none])) (K0 := (fun (s71 : Unit) (w : Unit) => [some (.val ((eT (eT eI)) covers_here69)), some (.val ((eT eI) lot70)), none, none])) (Kb := (fun (block72 : Int) (s71 : Unit) (w : Unit) => [some (.val ((eT (eT eI)) covers_here69)), some (.val ((eT eI) lot70)), some (.val (eI block72)), none])) () (wSeq (e := eI) (l := fun A => A) (wVar 1 (eT eI) lot70)) (fun (block72 : Int) (s71 : Unit) => (lKill (ks := [2]) (lIf (wTb (wBin (wComp (R0 := (fun (w : Unit) => [some (.val ((eT (eT eI)) covers_here69)), some (.val ((eT eI) lot70)), some (.val (eI block72)), none])) (Rb := (fun (one73 : Int) (w : Unit) => [some (.val ((eT (eT eI)) covers_here69)), some (.val ((eT eI) lot70)), some (.val (eI block72)), some (.val (eI one73))])) (Rc := (fun (one73 : Int) (w : Unit) => [some (.val ((eT (eT eI)) covers_here69)), some (.val ((eT eI) lot70)), some (.val (eI block72)), some (.val (eI one73))])) (e' := eI) (v := fun one73 A => A) (wSeq (e := eI) (l := fun A => A) (wBin (wVar 0 (eT (eT eI)) covers_here69) (wVar 2 eI block72) (fun A B => (opIxT (e := (eT eI))) A B))) (fun one73 => (wTb (wBin (wVar 3 eI one73) (wVar 1 (eT eI) lot70) (fun A B => (opNotInT (e := eI)) A B)))) (fun one73 => (wVar 3 eI one73))) (wLst (e := eI) (f := (fun (A : Unit) => ([] : (List Int)))) wNil) (fun A B => (opNe (e := (eL eI))) A B))) (lF (fRet (v := fun A => A) (wBl false))) (lS (f := fun (_ : Unit) => ()) sPassW)))) (fun (v76 : Unit) => (nF (fRet (v := fun A => A) (wBl true)))))
  try dsimp only [retW, ifW, andW, orW] at h
  unfold t_l_is_pit
  try dsimp only [retW, ifW, andW, orW]
  exact cwOf (nl := 4) (fun (w : Unit) => [some (.val ((eT (eT eI)) covers_here69)), some (.val ((eT eI) lot70)), none, none]) h
def t_l_pits (covers_here51 : (List (List Int))) : PT (List (List Int)) := fun Q => t_l_lots (covers_here51.length : Int) fun r78 => compW r78 (fun (lot68 : (List Int)) Q => t_l_is_pit covers_here51 lot68 fun r79 => Q r79) (fun (lot68 : (List Int)) Q => Q lot68) fun l77 => Q l77
theorem tw_l_pits (covers_here51 : (List (List Int))) : CW c__law_pits [.val ((eT (eT eI)) covers_here51)] (vL (eT eI)) (t_l_pits covers_here51) := by
  have h : WN false m__law_pits (fun (w : Unit) => [some (.val ((eT (eT eI)) covers_here51)), none]) (vL (eT eI)) (fun _ _ => .val .none) _ := (nF (fRet (v := fun A => A) (wComp (R0 := (fun (w : Unit) => [some (.val ((eT (eT eI)) covers_here51)), none])) (Rb := (fun (lot68 : (List Int)) (w : Unit) => [some (.val ((eT (eT eI)) covers_here51)), some (.val ((eT eI) lot68))])) (Rc := (fun (lot68 : (List Int)) (w : Unit) => [some (.val ((eT (eT eI)) covers_here51)), some (.val ((eT eI) lot68))])) (e' := (eT eI)) (v := fun lot68 A => A) (wSeq (e := (eT eI)) (l := fun A => A) (wCallV (wCons (wCall (wCons (wVar 0 (eT (eT eI)) covers_here51) wNil) (fun (A : (List (List Int)) × Unit) => (opLenT (e := (eT eI))) A.1)) wNil) (fun (A : Int × Unit) => tw_l_lots A.1))) (fun lot68 => (wTb (wCallV (wCons (wVar 0 (eT (eT eI)) covers_here51) (wCons (wVar 1 (eT eI) lot68) wNil)) (fun (A : (List (List Int)) × (List Int) × Unit) => tw_l_is_pit A.1 A.2.1)))) (fun lot68 => (wVar 1 (eT eI) lot68)))))
  try dsimp only [retW, ifW, andW, orW] at h
  unfold t_l_pits
  try dsimp only [retW, ifW, andW, orW]
  exact cwOf (nl := 2) (fun (w : Unit) => [some (.val ((eT (eT eI)) covers_here51)), none]) h
def t_l_a_pit (covers_here50 : (List (List Int))) : PT (List Int) := fun Q => t_l_pits covers_here50 fun pits_there80 => takenW 3 fun r82 => ifW (decide (0 < r82)) (fun Q => ixW pits_there80 (-1) fun r83 => Q r83) (fun Q => takenW (pits_there80.length : Int) fun r84 => ixW pits_there80 r84 fun r85 => Q r85) fun r81 => Q r81
theorem tw_l_a_pit (covers_here50 : (List (List Int))) : CR c__law_a_pit (fun w => .own (row w)) [.val ((eT (eT eI)) covers_here50)] (vV (eT eI)) (t_l_a_pit covers_here50) := by
  have h : WN true m__law_a_pit (fun (w : RW) => [some (.own (row w)), some (.val ((eT (eT eI)) covers_here50)), none]) (vV (eT eI)) (fun _ w => .own (row w)) _ := (nSeq (sAsg (K := (fun (pits_there80 : (List (List Int))) (w : RW) => [some (.own (row w)), some (.val ((eT (eT eI)) covers_here50)), some (.own (.lst (List.map (eT eI) pits_there80)))])) (wCallV (wCons (wVar 1 (eT (eT eI)) covers_here50) wNil) (fun (A : (List (List Int)) × Unit) => tw_l_pits A.1))) (fun (pits_there80 : (List (List Int))) => (nF (fRet (v := fun A => A) (wIf (wTb (wBin (wCallI (rs := fun (A : Unit × Int × Unit) => [Rv.sv (.val (eI A.2.1))]) (row := row) (wCons (wPlc0 0) (wCons (wInt 3) wNil)) (fun (A : Unit × Int × Unit) => cr_taken A.2.1)) (wInt 0) (fun A B => opGtI A B))) (wBin (wPlc 2 (.lst (List.map (eT eI) pits_there80))) (wUn (wInt 1) (fun A => opNeg A)) (fun A B => (opIxL (e := (eT eI))) pits_there80 B)) (wBin (wPlc 2 (.lst (List.map (eT eI) pits_there80))) (wCallI (rs := fun (A : Unit × Int × Unit) => [Rv.sv (.val (eI A.2.1))]) (row := row) (wCons (wPlc0 0) (wCons (wCall (wCons (wPlc 2 (.lst (List.map (eT eI) pits_there80))) wNil) (fun (A : Unit × Unit) => (opLenL (e := (eT eI))) pits_there80)) wNil)) (fun (A : Unit × Int × Unit) => cr_taken A.2.1)) (fun A B => (opIxL (e := (eT eI))) pits_there80 B)))))))
  try dsimp only [retW, ifW, andW, orW] at h
  unfold t_l_a_pit
  try dsimp only [retW, ifW, andW, orW]
  exact crOf (nl := 3) (row := row) (fun (w : RW) => [some (.own (row w)), some (.val ((eT (eT eI)) covers_here50)), none]) h
def t_is_from (value93 : Int) (low94 : Int) (high95 : Int) : PT Bool := fun Q => Q (decide (low94 ≤ value93) && decide (value93 ≤ high95))
theorem tw_is_from (value93 : Int) (low94 : Int) (high95 : Int) : CW c_is_from [.val (eI value93), .val (eI low94), .val (eI high95)] (vV eB) (t_is_from value93 low94 high95) := by
  have h : WN false m_is_from (fun (w : Unit) => [some (.val (eI value93)), some (.val (eI low94)), some (.val (eI high95))]) (vV eB) (fun _ _ => .val .none) _ := (nF (fRet (v := fun A => A) (wAndT (wIsi (b := true) (d1 := fun A => eI A) (wVar 0 eI value93)) (wAndT (wNot (wIsi (b := false) (d1 := fun A => eI A) (wVar 0 eI value93))) (wChain2 (wVar 1 eI low94) (wVar 0 eI value93) (wVar 2 eI high95) (fun A B => opLeI A B) (fun A B => opLeI A B))))))
  try dsimp only [retW, ifW, andW, orW] at h
  unfold t_is_from
  try dsimp only [retW, ifW, andW, orW]
  exact cwOf (nl := 3) (fun (w : Unit) => [some (.val (eI value93)), some (.val (eI low94)), some (.val (eI high95))]) h
def t_rises (value96 : (List Int)) : PT Bool := fun Q => range2W 1 (value96.length : Int) fun r99 => mapW r99 (fun (at97 : Int) Q => ixW value96 (at97 - 1) fun r100 => ixW value96 at97 fun r101 => Q (decide (r100 < r101))) fun l98 => Q ((l98).all id)
theorem tw_rises (value96 : (List Int)) : CW c_rises [.val ((eT eI) value96)] (vV eB) (t_rises value96) := by
  have h : WN false m_rises (fun (w : Unit) => [some (.val ((eT eI) value96)), none]) (vV eB) (fun _ _ => .val .none) _ := (nF (fRet (v := fun A => A) (wCall (wCons (wMap (R0 := (fun (w : Unit) => [some (.val ((eT eI) value96)), none])) (Rb := (fun (at97 : Int) (w : Unit) => [some (.val ((eT eI) value96)), some (.val (eI at97))])) (Rc := (fun (at97 : Int) (w : Unit) => [some (.val ((eT eI) value96)), some (.val (eI at97))])) (e' := eB) (v := fun at97 A => A) (wRng2 (v := fun (A : Int × Int × Unit) => A.1) (u := fun (A : Int × Int × Unit) => A.2.1) (wCons (wInt 1) (wCons (wCall (wCons (wVar 0 (eT eI) value96) wNil) (fun (A : (List Int) × Unit) => (opLenT (e := eI)) A.1)) wNil))) (fun at97 => (wBin (wBin (wVar 0 (eT eI) value96) (wBin (wVar 1 eI at97) (wInt 1) (fun A B => opSub A B)) (fun A B => (opIxT (e := eI)) A B)) (wBin (wVar 0 (eT eI) value96) (wVar 1 eI at97) (fun A B => (opIxT (e := eI)) A B)) (fun A B => opLtI A B)))) wNil) (fun (A : (List Bool) × Unit) => opAll A.1))))
  try dsimp only [retW, ifW, andW, orW] at h
  unfold t_rises
  try dsimp only [retW, ifW, andW, orW]
  exact cwOf (nl := 2) (fun (w : Unit) => [some (.val ((eT eI) value96)), none]) h
def t_is_cover (value90 : (List Int)) (block91 : Int) : PT Bool := fun Q => andW (fun Q => mapW value90 (fun (one92 : Int) Q => t_is_from one92 0 (block91 - 1) fun r104 => Q r104) fun l103 => Q ((l103).all id)) (fun Q => t_rises value90 fun r105 => Q r105) fun b102 => Q b102
theorem tw_is_cover (value90 : (List Int)) (block91 : Int) : CW c_is_cover [.val ((eT eI) value90), .val (eI block91)] (vV eB) (t_is_cover value90 block91) := by
  have h : WN false m_is_cover (fun (w : Unit) => [some (.val ((eT eI) value90)), some (.val (eI block91)), none]) (vV eB) (fun _ _ => .val .none) _ := (nF (fRet (v := fun A => A) (wAndT (wIsi (b := true) (d1 := fun A => (eT eI) A) (wVar 0 (eT eI) value90)) (wAnd (wCall (wCons (wMap (R0 := (fun (w : Unit) => [some (.val ((eT eI) value90)), some (.val (eI block91)), none])) (Rb := (fun (one92 : Int) (w : Unit) => [some (.val ((eT eI) value90)), some (.val (eI block91)), some (.val (eI one92))])) (Rc := (fun (one92 : Int) (w : Unit) => [some (.val ((eT eI) value90)), some (.val (eI block91)), some (.val (eI one92))])) (e' := eB) (v := fun one92 A => A) (wSeq (e := eI) (l := fun A => A) (wVar 0 (eT eI) value90)) (fun one92 => (wCallV (wCons (wVar 2 eI one92) (wCons (wInt 0) (wCons (wBin (wVar 1 eI block91) (wInt 1) (fun A B => opSub A B)) wNil))) (fun (A : Int × Int × Int × Unit) => tw_is_from A.1 A.2.1 A.2.2.1)))) wNil) (fun (A : (List Bool) × Unit) => opAll A.1)) (wCallV (wCons (wVar 0 (eT eI) value90) wNil) (fun (A : (List Int) × Unit) => tw_rises A.1))))))
  try dsimp only [retW, ifW, andW, orW] at h
  unfold t_is_cover
  try dsimp only [retW, ifW, andW, orW]
  exact cwOf (nl := 3) (fun (w : Unit) => [some (.val ((eT eI) value90)), some (.val (eI block91)), none]) h
def eC_Ground (A : (List (List Int))) : D := objD 0 [(eT (eT eI)) A]
instance : NN eC_Ground := ⟨fun _ h => nomatch h⟩
theorem opF_Ground_table (A : (List (List Int))) : Op1 (fldD (fnsOf cs) "table") (eC_Ground A) (vV (eT (eT eI))) (fun Q => Q A) := fun Q q => ⟨_, q, rfl⟩
theorem opP_Ground_covers (A : (List (List Int))) : Op1 (propD (fnsOf cs) 0 "table") (eC_Ground A) (vV (eT (eT eI))) (fun Q => Q A) := fun Q q => ⟨_, q, rfl⟩
def t_Ground___init__ (covers87 : (List (List Int))) : PT (List (List Int)) := fun Q => (!(decide (1 ≤ (covers87.length : Int)) && decide ((covers87.length : Int) ≤ 10))) = false ∧ (forW (fun (p89 : (Int × (List Int))) (s88 : Unit) Q => t_is_cover p89.2 p89.1 fun r108 => (!r108) = false ∧ (Q ())) (enumL covers87) () fun (v106 : Unit) => retW (covers87 : (List (List Int))) fun table107 => Q table107)
theorem tw_Ground___init__ (covers87 : (List (List Int))) : CIn c_Ground___init__ 0 [.val ((eT (eT eI)) covers87)] (fun (A : (List (List Int))) => [(eT (eT eI)) A]) (t_Ground___init__ covers87) := by
  have h : WN true m_Ground___init__ (fun (w : Unit) => [some (.own (.ins 0 [])), some (.val ((eT (eT eI)) covers87)), none, none]) (fun _ => .val .none) (fun a _ => .own (.ins 0 ((fun (A : (List (List Int))) => [(eT (eT eI)) A]) a))) _ := (nSeq (sIfBad (wTOrF (wTNot (wTb (wIsi (b := true) (d1 := fun A => (eT (eT eI)) A) (wVar 1 (eT (eT eI)) covers87)))) (wTNot (wTb (wChain2 (wInt 1) (wCall (wCons (wVar 1 (eT (eT eI)) covers87) wNil) (fun (A : (List (List Int)) × Unit) => (opLenT (e := (eT eI))) A.1)) (wInt 10) (fun A B => opLeI A B) (fun A B => opLeI A B))))) sPassW) (fun (_ : Unit) => (nSeq (sForW (R1 := (fun (w : Unit) => [some (.own (.ins 0 [])), some (.val ((eT (eT eI)) covers87)), none, none])) (K0 := (fun (s88 : Unit) (w : Unit) => [some (.own (.ins 0 [])), some (.val ((eT (eT eI)) covers87)), none, none])) (Kb := (fun (p89 : (Int × (List Int))) (s88 : Unit) (w : Unit) => [some (.own (.ins 0 [])), some (.val ((eT (eT eI)) covers87)), some (.val (eI p89.1)), some (.val ((eT eI) p89.2))])) () (wEnum (e := (eT eI)) (l := fun A => A) (wVar 1 (eT (eT eI)) covers87)) (fun (p89 : (Int × (List Int))) (s88 : Unit) => (sKillK (sReK (ks := [2, 3]) (K' := (fun (s88 : Unit) (w : Unit) => [some (.own (.ins 0 [])), some (.val ((eT (eT eI)) covers87)), none, none])) (fun (_ : Unit) => ()) (sIfBad (wTNot (wTb (wCallV (wCons (wVar 3 (eT eI) p89.2) (wCons (wVar 2 eI p89.1) wNil)) (fun (A : (List Int) × Int × Unit) => tw_is_cover A.1 A.2.1)))) sPassW))))) (fun (v106 : Unit) => (nS (v := fun (table107 : (List (List Int))) => table107) (sFldW (K := (fun (table107 : (List (List Int))) (w : Unit) => [some (.own (.ins 0 [(eT (eT eI)) table107])), some (.val ((eT (eT eI)) covers87)), none, none])) (wVar 1 (eT (eT eI)) covers87)))))))
  try dsimp only [retW, ifW, andW, orW] at h
  unfold t_Ground___init__
  try dsimp only [retW, ifW, andW, orW]
  exact ciOf (nl := 4) (fun (w : Unit) => [some (.own (.ins 0 [])), some (.val ((eT (eT eI)) covers87)), none, none]) h
def t_l_next (covers_here114 : (List (List Int))) (pit115 : (List Int)) (dug116 : (List Int)) : PT (List Int) := fun Q => retW (([] : (List Int)) : (List Int)) fun found117 => forW (fun (block119 : Int) (s118 : (List Int)) Q => andW (fun Q => Q (!decide (block119 ∈ dug116))) (fun Q => ixW covers_here114 block119 fun r126 => compW r126 (fun (other120 : Int) Q => Q (!decide (other120 ∈ dug116))) (fun (other120 : Int) Q => Q other120) fun l125 => Q (decide (l125 = ([] : (List Int))))) fun b124 => ifW b124 (fun Q => appW s118 block119 fun found121 => Q found121) (fun Q => Q s118) fun (v122 : (List Int)) => Q v122) pit115 found117 fun (v123 : (List Int)) => Q v123
theorem tw_l_next (covers_here114 : (List (List Int))) (pit115 : (List Int)) (dug116 : (List Int)) : CW c__law_next [.val ((eT (eT eI)) covers_here114), .val ((eT eI) pit115), .val ((eL eI) dug116)] (vL eI) (t_l_next covers_here114 pit115 dug116) := by
  have h : WN false m__law_next (fun (w : Unit) => [some (.val ((eT (eT eI)) covers_here114)), some (.val ((eT eI) pit115)), some (.val ((eL eI) dug116)), none, none, none]) (vL eI) (fun _ _ => .val .none) _ := (nSeq (sAsg (K := (fun (found117 : (List Int)) (w : Unit) => [some (.val ((eT (eT eI)) covers_here114)), some (.val ((eT eI) pit115)), some (.val ((eL eI) dug116)), some (.own (.lst (List.map eI found117))), none, none])) (wLst (e := eI) (f := (fun (A : Unit) => ([] : (List Int)))) wNil)) (fun (found117 : (List Int)) => (nSeq (sForW (R1 := (fun (w : Unit) => [some (.val ((eT (eT eI)) covers_here114)), some (.val ((eT eI) pit115)), some (.val ((eL eI) dug116)), some (.own (.lst (List.map eI found117))), none, none])) (K0 := (fun (s118 : (List Int)) (w : Unit) => [some (.val ((eT (eT eI)) covers_here114)), some (.val ((eT eI) pit115)), some (.val ((eL eI) dug116)), some (.own (.lst (List.map eI s118))), none, none])) (Kb := (fun (block119 : Int) (s118 : (List Int)) (w : Unit) => [some (.val ((eT (eT eI)) covers_here114)), some (.val ((eT eI) pit115)), some (.val ((eL eI) dug116)), some (.own (.lst (List.map eI s118))), some (.val (eI block119)), none])) found117 (wSeq (e := eI) (l := fun A => A) (wVar 1 (eT eI) pit115)) (fun (block119 : Int) (s118 : (List Int)) => (sKillK (sReK (ks := [4]) (K' := (fun (s118 : (List Int)) (w : Unit) => [some (.val ((eT (eT eI)) covers_here114)), some (.val ((eT eI) pit115)), some (.val ((eL eI) dug116)), some (.own (.lst (List.map eI s118))), none, none])) (fun (v122 : (List Int)) => v122) (sIfW (wTAnd (wTb (wBin (wVar 4 eI block119) (wVar 2 (eL eI) dug116) (fun A B => (opNotInL (e := eI)) A B))) (wTb (wBin (wComp (R0 := (fun (w : Unit) => [some (.val ((eT (eT eI)) covers_here114)), some (.val ((eT eI) pit115)), some (.val ((eL eI) dug116)), some (.own (.lst (List.map eI s118))), some (.val (eI block119)), none])) (Rb := (fun (other120 : Int) (w : Unit) => [some (.val ((eT (eT eI)) covers_here114)), some (.val ((eT eI) pit115)), some (.val ((eL eI) dug116)), some (.own (.lst (List.map eI s118))), some (.val (eI block119)), some (.val (eI other120))])) (Rc := (fun (other120 : Int) (w : Unit) => [some (.val ((eT (eT eI)) covers_here114)), some (.val ((eT eI) pit115)), some (.val ((eL eI) dug116)), some (.own (.lst (List.map eI s118))), some (.val (eI block119)), some (.val (eI other120))])) (e' := eI) (v := fun other120 A => A) (wSeq (e := eI) (l := fun A => A) (wBin (wVar 0 (eT (eT eI)) covers_here114) (wVar 4 eI block119) (fun A B => (opIxT (e := (eT eI))) A B))) (fun other120 => (wTb (wBin (wVar 5 eI other120) (wVar 2 (eL eI) dug116) (fun A B => (opNotInL (e := eI)) A B)))) (fun other120 => (wVar 5 eI other120))) (wLst (e := eI) (f := (fun (A : Unit) => ([] : (List Int)))) wNil) (fun A B => (opEq (e := (eL eI))) A B)))) (sRe (K' := (fun (v122 : (List Int)) (w : Unit) => [some (.val ((eT (eT eI)) covers_here114)), some (.val ((eT eI) pit115)), some (.val ((eL eI) dug116)), some (.own (.lst (List.map eI v122))), some (.val (eI block119)), none])) (fun (found121 : List Int) => found121) (sMut (e := eI) (l := s118) (R2 := (fun (w : Unit) => [some (.val ((eT (eT eI)) covers_here114)), some (.val ((eT eI) pit115)), some (.val ((eL eI) dug116)), some (.own (.lst (List.map eI s118))), some (.val (eI block119)), none])) (K := (fun (found121 : List Int) (w : Unit) => [some (.val ((eT (eT eI)) covers_here114)), some (.val ((eT eI) pit115)), some (.val ((eL eI) dug116)), some (.own (.lst (List.map eI found121))), some (.val (eI block119)), none])) (wCons (wVar 4 eI block119) wNil) (fun (A : Int × Unit) Q q => f_app (e := eI) A.1 Q q))) (sRe (K' := (fun (v122 : (List Int)) (w : Unit) => [some (.val ((eT (eT eI)) covers_here114)), some (.val ((eT eI) pit115)), some (.val ((eL eI) dug116)), some (.own (.lst (List.map eI v122))), some (.val (eI block119)), none])) (fun (_ : Unit) => s118) sPassW)))))) (fun (v123 : (List Int)) => (nF (fRet (v := fun _ => v123) (wPlc 3 (.lst (List.map eI v123)))))))))
  try dsimp only [retW, ifW, andW, orW] at h
  unfold t_l_next
  try dsimp only [retW, ifW, andW, orW]
  exact cwOf (nl := 6) (fun (w : Unit) => [some (.val ((eT (eT eI)) covers_here114)), some (.val ((eT eI) pit115)), some (.val ((eL eI) dug116)), none, none, none]) h
def t_l_height : Nat → (List (List Int)) → (List Int) → Int → PT Int
  | 0, _, _, _ => fun _ => False
  | t + 1, covers_here129, pit130, block131 => fun Q => compW pit130 (fun (other132 : Int) Q => ixW covers_here129 other132 fun r140 => Q (decide (block131 ∈ r140))) (fun (other132 : Int) Q => Q other132) fun later133 => ifW (!decide (later133 = ([] : (List Int)))) (fun Q => mapW later133 (fun (other134 : Int) Q => t_l_height t covers_here129 pit130 other134 fun r137 => Q r137) fun l136 => maxW ltI l136 fun r138 => Q (1 + r138)) (fun Q => Q 1) fun r135 => Q r135
theorem tw_l_height : ∀ (t : Nat) (covers_here129 : (List (List Int))) (pit130 : (List Int)) (block131 : Int), CW (c__law_height t) [.val ((eT (eT eI)) covers_here129), .val ((eT eI) pit130), .val (eI block131)] (vV eI) (t_l_height t covers_here129 pit130 block131)
  | 0, _, _, _ => fun _ q => q.elim
  | t + 1, covers_here129, pit130, block131 => by
    have h : WN false (m__law_height (c__law_height t)) (fun (w : Unit) => [some (.val ((eT (eT eI)) covers_here129)), some (.val ((eT eI) pit130)), some (.val (eI block131)), none, none]) (vV eI) (fun _ _ => .val .none) _ := (nSeq (sAsg (K := (fun (later133 : (List Int)) (w : Unit) => [some (.val ((eT (eT eI)) covers_here129)), some (.val ((eT eI) pit130)), some (.val (eI block131)), some (.own (.lst (List.map eI later133))), none])) (wComp (R0 := (fun (w : Unit) => [some (.val ((eT (eT eI)) covers_here129)), some (.val ((eT eI) pit130)), some (.val (eI block131)), none, none])) (Rb := (fun (other132 : Int) (w : Unit) => [some (.val ((eT (eT eI)) covers_here129)), some (.val ((eT eI) pit130)), some (.val (eI block131)), none, some (.val (eI other132))])) (Rc := (fun (other132 : Int) (w : Unit) => [some (.val ((eT (eT eI)) covers_here129)), some (.val ((eT eI) pit130)), some (.val (eI block131)), none, some (.val (eI other132))])) (e' := eI) (v := fun other132 A => A) (wSeq (e := eI) (l := fun A => A) (wVar 1 (eT eI) pit130)) (fun other132 => (wTb (wBin (wVar 2 eI block131) (wBin (wVar 0 (eT (eT eI)) covers_here129) (wVar 4 eI other132) (fun A B => (opIxT (e := (eT eI))) A B)) (fun A B => (opInT (e := eI)) A B)))) (fun other132 => (wVar 4 eI other132)))) (fun (later133 : (List Int)) => (nF (fRet (v := fun A => A) (wIf (wTb (wBin (wPlc 3 (.lst (List.map eI later133))) (wLst (e := eI) (f := (fun (A : Unit) => ([] : (List Int)))) wNil) (fun A B => (opNe (e := (eL eI))) later133 B))) (wBin (wInt 1) (wCall (wCons (wCompH (l := later133) (e := eI) (Rk := (fun (w : Unit) => [some (.val ((eT (eT eI)) covers_here129)), some (.val ((eT eI) pit130)), some (.val (eI block131)), none, none])) (wMap (R0 := (fun (w : Unit) => [some (.val ((eT (eT eI)) covers_here129)), some (.val ((eT eI) pit130)), some (.val (eI block131)), none, none])) (Rb := (fun (other134 : Int) (w : Unit) => [some (.val ((eT (eT eI)) covers_here129)), some (.val ((eT eI) pit130)), some (.val (eI block131)), none, some (.val (eI other134))])) (Rc := (fun (other134 : Int) (w : Unit) => [some (.val ((eT (eT eI)) covers_here129)), some (.val ((eT eI) pit130)), some (.val (eI block131)), none, some (.val (eI other134))])) (e' := eI) (v := fun other134 A => A) (wCst eI later133) (fun other134 => (wCallV (wCons (wVar 0 (eT (eT eI)) covers_here129) (wCons (wVar 1 (eT eI) pit130) (wCons (wVar 4 eI other134) wNil))) (fun (A : (List (List Int)) × (List Int) × Int × Unit) => tw_l_height t A.1 A.2.1 A.2.2.1))))) wNil) (fun (A : (List Int) × Unit) => (opMax (e := eI)) A.1)) (fun A B => opAdd A B)) (wInt 1))))))
    try dsimp only [retW, ifW, andW, orW] at h
    simp only [t_l_height]
    try dsimp only [retW, ifW, andW, orW]
    exact cwOf (nl := 5) (fun (w : Unit) => [some (.val ((eT (eT eI)) covers_here129)), some (.val ((eT eI) pit130)), some (.val (eI block131)), none, none]) h
def t_need_ground (ground155 : (List (List Int))) : PT Unit := fun Q => Q ()
theorem tw_need_ground (ground155 : (List (List Int))) : CW c_need_ground [.val (eC_Ground ground155)] (vV eU) (t_need_ground ground155) := by
  have h : WN false m_need_ground (fun (w : Unit) => [some (.val (eC_Ground ground155))]) (vV eU) (fun _ _ => .val .none) _ := (nS (v := fun _ => ()) (sIfFalse (wTNot (wTb (wIsi (b := true) (d1 := fun A => eC_Ground A) (wVar 0 eC_Ground ground155)))) sPassW))
  try dsimp only [retW, ifW, andW, orW] at h
  unfold t_need_ground
  try dsimp only [retW, ifW, andW, orW]
  exact cwOf (nl := 1) (fun (w : Unit) => [some (.val (eC_Ground ground155))]) h
def t_Ground___len__ (self161 : (List (List Int))) : PT Int := fun Q => Q (self161.length : Int)
theorem tw_Ground___len__ (self161 : (List (List Int))) : CW c_Ground___len__ [.val (eC_Ground self161)] (vV eI) (t_Ground___len__ self161) := by
  have h : WN false m_Ground___len__ (fun (w : Unit) => [some (.val (eC_Ground self161))]) (vV eI) (fun _ _ => .val .none) _ := (nF (fRet (v := fun A => A) (wCall (wCons (wUn (wVar 0 eC_Ground self161) (fun A => opF_Ground_table A)) wNil) (fun (A : (List (List Int)) × Unit) => (opLenT (e := (eT eI))) A.1))))
  try dsimp only [retW, ifW, andW, orW] at h
  unfold t_Ground___len__
  try dsimp only [retW, ifW, andW, orW]
  exact cwOf (nl := 1) (fun (w : Unit) => [some (.val (eC_Ground self161))]) h
def t_is_block (ground159 : (List (List Int))) (value160 : Int) : PT Bool := fun Q => t_Ground___len__ ground159 fun n163 => lenOk n163 = true ∧ (t_is_from value160 0 (n163 - 1) fun r162 => Q r162)
theorem tw_is_block (ground159 : (List (List Int))) (value160 : Int) : CW c_is_block [.val (eC_Ground ground159), .val (eI value160)] (vV eB) (t_is_block ground159 value160) := by
  have h : WN false m_is_block (fun (w : Unit) => [some (.val (eC_Ground ground159)), some (.val (eI value160))]) (vV eB) (fun _ _ => .val .none) _ := (nF (fRet (v := fun A => A) (wCallV (wCons (wVar 1 eI value160) (wCons (wInt 0) (wCons (wBin (wLenO (wVar 0 eC_Ground ground159) (fun A => tw_Ground___len__ A)) (wInt 1) (fun A B => opSub A B)) wNil))) (fun (A : Int × Int × Int × Unit) => tw_is_from A.1 A.2.1 A.2.2.1))))
  try dsimp only [retW, ifW, andW, orW] at h
  unfold t_is_block
  try dsimp only [retW, ifW, andW, orW]
  exact cwOf (nl := 2) (fun (w : Unit) => [some (.val (eC_Ground ground159)), some (.val (eI value160))]) h
def t_is_lot (ground156 : (List (List Int))) (value157 : (List Int)) : PT Bool := fun Q => andW (fun Q => mapW value157 (fun (one158 : Int) Q => t_is_block ground156 one158 fun r166 => Q r166) fun l165 => Q ((l165).all id)) (fun Q => t_rises value157 fun r167 => Q r167) fun b164 => Q b164
theorem tw_is_lot (ground156 : (List (List Int))) (value157 : (List Int)) : CW c_is_lot [.val (eC_Ground ground156), .val ((eT eI) value157)] (vV eB) (t_is_lot ground156 value157) := by
  have h : WN false m_is_lot (fun (w : Unit) => [some (.val (eC_Ground ground156)), some (.val ((eT eI) value157)), none]) (vV eB) (fun _ _ => .val .none) _ := (nF (fRet (v := fun A => A) (wAndT (wIsi (b := true) (d1 := fun A => (eT eI) A) (wVar 1 (eT eI) value157)) (wAnd (wCall (wCons (wMap (R0 := (fun (w : Unit) => [some (.val (eC_Ground ground156)), some (.val ((eT eI) value157)), none])) (Rb := (fun (one158 : Int) (w : Unit) => [some (.val (eC_Ground ground156)), some (.val ((eT eI) value157)), some (.val (eI one158))])) (Rc := (fun (one158 : Int) (w : Unit) => [some (.val (eC_Ground ground156)), some (.val ((eT eI) value157)), some (.val (eI one158))])) (e' := eB) (v := fun one158 A => A) (wSeq (e := eI) (l := fun A => A) (wVar 1 (eT eI) value157)) (fun one158 => (wCallV (wCons (wVar 0 eC_Ground ground156) (wCons (wVar 2 eI one158) wNil)) (fun (A : (List (List Int)) × Int × Unit) => tw_is_block A.1 A.2.1)))) wNil) (fun (A : (List Bool) × Unit) => opAll A.1)) (wCallV (wCons (wVar 1 (eT eI) value157) wNil) (fun (A : (List Int) × Unit) => tw_rises A.1))))))
  try dsimp only [retW, ifW, andW, orW] at h
  unfold t_is_lot
  try dsimp only [retW, ifW, andW, orW]
  exact cwOf (nl := 3) (fun (w : Unit) => [some (.val (eC_Ground ground156)), some (.val ((eT eI) value157)), none]) h
def t_need_lot (ground153 : (List (List Int))) (lot154 : (List Int)) : PT Unit := fun Q => t_need_ground ground153 fun r169 => t_is_lot ground153 lot154 fun r168 => if (!r168) = true then False else Q ()
theorem tw_need_lot (ground153 : (List (List Int))) (lot154 : (List Int)) : CW c_need_lot [.val (eC_Ground ground153), .val ((eT eI) lot154)] (vV eU) (t_need_lot ground153 lot154) := by
  have h : WN false m_need_lot (fun (w : Unit) => [some (.val (eC_Ground ground153)), some (.val ((eT eI) lot154))]) (vV eU) (fun _ _ => .val .none) _ := (nSeq (sExprW (wCallV (wCons (wVar 0 eC_Ground ground153) wNil) (fun (A : (List (List Int)) × Unit) => tw_need_ground A.1))) (fun _ => (nIf (wTNot (wTb (wCallV (wCons (wVar 0 eC_Ground ground153) (wCons (wVar 1 (eT eI) lot154) wNil)) (fun (A : (List (List Int)) × (List Int) × Unit) => tw_is_lot A.1 A.2.1)))) (nF fBad) (nS (v := fun _ => ()) sPassW))))
  try dsimp only [retW, ifW, andW, orW] at h
  unfold t_need_lot
  try dsimp only [retW, ifW, andW, orW]
  exact cwOf (nl := 2) (fun (w : Unit) => [some (.val (eC_Ground ground153)), some (.val ((eT eI) lot154))]) h
def t_is_full (ground170 : (List (List Int))) (lot171 : (List Int)) : PT Bool := fun Q => comp2W lot171 (fun (block172 : Int) Q => Q true) (fun (block172 : Int) Q => ixW ground170 block172 fun r175 => Q r175) (fun (block172 : Int) (one173 : Int) Q => Q true) (fun (block172 : Int) (one173 : Int) Q => Q (decide (one173 ∈ lot171))) fun l174 => Q ((l174).all id)
theorem tw_is_full (ground170 : (List (List Int))) (lot171 : (List Int)) : CW c_is_full [.val (eC_Ground ground170), .val ((eT eI) lot171)] (vV eB) (t_is_full ground170 lot171) := by
  have h : WN false m_is_full (fun (w : Unit) => [some (.val (eC_Ground ground170)), some (.val ((eT eI) lot171)), none, none]) (vV eB) (fun _ _ => .val .none) _ := (nF (fRet (v := fun A => A) (wCall (wCons (wComp2 (R0 := (fun (w : Unit) => [some (.val (eC_Ground ground170)), some (.val ((eT eI) lot171)), none, none])) (Rb := (fun (block172 : Int) (w : Unit) => [some (.val (eC_Ground ground170)), some (.val ((eT eI) lot171)), some (.val (eI block172)), none])) (Rb0 := (fun (block172 : Int) (w : Unit) => [some (.val (eC_Ground ground170)), some (.val ((eT eI) lot171)), some (.val (eI block172)), none])) (Rc := (fun (block172 : Int) (one173 : Int) (w : Unit) => [some (.val (eC_Ground ground170)), some (.val ((eT eI) lot171)), some (.val (eI block172)), some (.val (eI one173))])) (Rd := (fun (block172 : Int) (one173 : Int) (w : Unit) => [some (.val (eC_Ground ground170)), some (.val ((eT eI) lot171)), some (.val (eI block172)), some (.val (eI one173))])) (e' := eB) (v := fun block172 one173 A => A) (wSeq (e := eI) (l := fun A => A) (wVar 1 (eT eI) lot171)) (fun block172 => wYes) (fun block172 => (wSeq (e := eI) (l := fun A => A) (wBin (wUn (wVar 0 eC_Ground ground170) (fun A => opF_Ground_table A)) (wVar 2 eI block172) (fun A B => (opIxT (e := (eT eI))) A B)))) (fun block172 one173 => wYes) (fun block172 one173 => (wBin (wVar 3 eI one173) (wVar 1 (eT eI) lot171) (fun A B => (opInT (e := eI)) A B)))) wNil) (fun (A : (List Bool) × Unit) => opAll A.1))))
  try dsimp only [retW, ifW, andW, orW] at h
  unfold t_is_full
  try dsimp only [retW, ifW, andW, orW]
  exact cwOf (nl := 4) (fun (w : Unit) => [some (.val (eC_Ground ground170)), some (.val ((eT eI) lot171)), none, none]) h
def t_need_pit (ground151 : (List (List Int))) (pit152 : (List Int)) : PT Unit := fun Q => t_need_lot ground151 pit152 fun r177 => t_is_full ground151 pit152 fun r176 => if (!r176) = true then False else Q ()
theorem tw_need_pit (ground151 : (List (List Int))) (pit152 : (List Int)) : CW c_need_pit [.val (eC_Ground ground151), .val ((eT eI) pit152)] (vV eU) (t_need_pit ground151 pit152) := by
  have h : WN false m_need_pit (fun (w : Unit) => [some (.val (eC_Ground ground151)), some (.val ((eT eI) pit152))]) (vV eU) (fun _ _ => .val .none) _ := (nSeq (sExprW (wCallV (wCons (wVar 0 eC_Ground ground151) (wCons (wVar 1 (eT eI) pit152) wNil)) (fun (A : (List (List Int)) × (List Int) × Unit) => tw_need_lot A.1 A.2.1))) (fun _ => (nIf (wTNot (wTb (wCallV (wCons (wVar 0 eC_Ground ground151) (wCons (wVar 1 (eT eI) pit152) wNil)) (fun (A : (List (List Int)) × (List Int) × Unit) => tw_is_full A.1 A.2.1)))) (nF fBad) (nS (v := fun _ => ()) sPassW))))
  try dsimp only [retW, ifW, andW, orW] at h
  unfold t_need_pit
  try dsimp only [retW, ifW, andW, orW]
  exact cwOf (nl := 2) (fun (w : Unit) => [some (.val (eC_Ground ground151)), some (.val ((eT eI) pit152))]) h
def t_need_machines (value178 : Int) : PT Unit := fun Q => t_is_from value178 1 4 fun r179 => if (!r179) = true then False else Q ()
theorem tw_need_machines (value178 : Int) : CW c_need_machines [.val (eI value178)] (vV eU) (t_need_machines value178) := by
  have h : WN false m_need_machines (fun (w : Unit) => [some (.val (eI value178))]) (vV eU) (fun _ _ => .val .none) _ := (nIf (wTNot (wTb (wCallV (wCons (wVar 0 eI value178) (wCons (wInt 1) (wCons (wInt 4) wNil))) (fun (A : Int × Int × Int × Unit) => tw_is_from A.1 A.2.1 A.2.2.1)))) (nF fBad) (nS (v := fun _ => ()) sPassW))
  try dsimp only [retW, ifW, andW, orW] at h
  unfold t_need_machines
  try dsimp only [retW, ifW, andW, orW]
  exact cwOf (nl := 1) (fun (w : Unit) => [some (.val (eI value178))]) h
def t_heights_in (ground180 : (List (List Int))) (pit181 : (List Int)) : PT (List (Int × Int)) := fun Q => retW (([] : (List (Int × Int))) : (List (Int × Int))) fun found182 => forW (fun (block184 : Int) (s183 : (List (Int × Int))) Q => compW pit181 (fun (other185 : Int) Q => ixW ground180 other185 fun r192 => Q (decide (block184 ∈ r192))) (fun (other185 : Int) Q => ∃ v193, getM s183 other185 = some v193 ∧ (Q v193)) fun behind186 => ifW (!decide (behind186 = ([] : (List Int)))) (fun Q => maxW ltI behind186 fun r190 => Q (1 + r190)) (fun Q => Q 1) fun r189 => s183.length < 1000000 ∧ (retW (putM s183 block184 r189) fun (found187 : (List (Int × Int))) => Q found187)) (pit181).reverse found182 fun (v188 : (List (Int × Int))) => Q v188
theorem tw_heights_in (ground180 : (List (List Int))) (pit181 : (List Int)) : CW c_heights_in [.val (eC_Ground ground180), .val ((eT eI) pit181)] (vD false (fun i : Int => [i]) eI) (t_heights_in ground180 pit181) := by
  have h : WN false m_heights_in (fun (w : Unit) => [some (.val (eC_Ground ground180)), some (.val ((eT eI) pit181)), none, none, none, none]) (vD false (fun i : Int => [i]) eI) (fun _ _ => .val .none) _ := (nSeq (sAsg (K := (fun (found182 : (List (Int × Int))) (w : Unit) => [some (.val (eC_Ground ground180)), some (.val ((eT eI) pit181)), some (.own (dctO false (fun i : Int => [i]) eI found182)), none, none, none])) (wDNew (t := false) (kf := (fun i : Int => [i])) (e := eI))) (fun (found182 : (List (Int × Int))) => (nSeq (sForW (R1 := (fun (w : Unit) => [some (.val (eC_Ground ground180)), some (.val ((eT eI) pit181)), some (.own (dctO false (fun i : Int => [i]) eI found182)), none, none, none])) (K0 := (fun (s183 : (List (Int × Int))) (w : Unit) => [some (.val (eC_Ground ground180)), some (.val ((eT eI) pit181)), some (.own (dctO false (fun i : Int => [i]) eI s183)), none, none, none])) (Kb := (fun (block184 : Int) (s183 : (List (Int × Int))) (w : Unit) => [some (.val (eC_Ground ground180)), some (.val ((eT eI) pit181)), some (.own (dctO false (fun i : Int => [i]) eI s183)), some (.val (eI block184)), none, none])) found182 (wSeq (e := eI) (l := fun A => A) (wRevT (e := eI) (l := fun A => A) (wVar 1 (eT eI) pit181))) (fun (block184 : Int) (s183 : (List (Int × Int))) => (sKillK (sSeqK (sAsg (K := (fun (behind186 : (List Int)) (w : Unit) => [some (.val (eC_Ground ground180)), some (.val ((eT eI) pit181)), some (.own (dctO false (fun i : Int => [i]) eI s183)), some (.val (eI block184)), some (.own (.lst (List.map eI behind186))), none])) (wComp (R0 := (fun (w : Unit) => [some (.val (eC_Ground ground180)), some (.val ((eT eI) pit181)), some (.own (dctO false (fun i : Int => [i]) eI s183)), some (.val (eI block184)), none, none])) (Rb := (fun (other185 : Int) (w : Unit) => [some (.val (eC_Ground ground180)), some (.val ((eT eI) pit181)), some (.own (dctO false (fun i : Int => [i]) eI s183)), some (.val (eI block184)), none, some (.val (eI other185))])) (Rc := (fun (other185 : Int) (w : Unit) => [some (.val (eC_Ground ground180)), some (.val ((eT eI) pit181)), some (.own (dctO false (fun i : Int => [i]) eI s183)), some (.val (eI block184)), none, some (.val (eI other185))])) (e' := eI) (v := fun other185 A => A) (wSeq (e := eI) (l := fun A => A) (wVar 1 (eT eI) pit181)) (fun other185 => (wTb (wBin (wVar 3 eI block184) (wBin (wUn (wVar 0 eC_Ground ground180) (fun A => opP_Ground_covers A)) (wVar 5 eI other185) (fun A B => (opIxT (e := (eT eI))) A B)) (fun A B => (opInT (e := eI)) A B)))) (fun other185 => (wBin (wPlc 2 (dctO false (fun i : Int => [i]) eI s183)) (wVar 5 eI other185) (fun A B => (opDGet (e := eI) kyI) s183 B))))) (fun (behind186 : (List Int)) => (sReK (ks := [3, 4]) (K' := (fun (s183 : (List (Int × Int))) (w : Unit) => [some (.val (eC_Ground ground180)), some (.val ((eT eI) pit181)), some (.own (dctO false (fun i : Int => [i]) eI s183)), none, none, none])) (fun (found187 : (List (Int × Int))) => found187) (sDPutW (e := eI) (m := s183) (v := fun A => A) (kx := fun A => A) (K := (fun (found187 : (List (Int × Int))) (w : Unit) => [some (.val (eC_Ground ground180)), some (.val ((eT eI) pit181)), some (.own (dctO false (fun i : Int => [i]) eI found187)), some (.val (eI block184)), some (.own (.lst (List.map eI behind186))), none])) kyI (wIf (wTru (e := eI) (l := fun A => behind186) (wPlc 4 (.lst (List.map eI behind186)))) (wBin (wInt 1) (wCall (wCons (wPlc 4 (.lst (List.map eI behind186))) wNil) (fun (A : Unit × Unit) => (opMax (e := eI)) behind186)) (fun A B => opAdd A B)) (wInt 1)) (wVar 3 eI block184)))))))) (fun (v188 : (List (Int × Int))) => (nF (fRet (v := fun _ => v188) (wPlc 2 (dctO false (fun i : Int => [i]) eI v188))))))))
  try dsimp only [retW, ifW, andW, orW] at h
  unfold t_heights_in
  try dsimp only [retW, ifW, andW, orW]
  exact cwOf (nl := 6) (fun (w : Unit) => [some (.val (eC_Ground ground180)), some (.val ((eT eI) pit181)), none, none, none, none]) h
def t_next_in (ground196 : (List (List Int))) (pit197 : (List Int)) (dug198 : (List Int)) : PT (List Int) := fun Q => compW pit197 (fun (block199 : Int) Q => Q (!decide (block199 ∈ dug198))) (fun (block199 : Int) Q => Q block199) fun some200 => compW some200 (fun (block201 : Int) Q => ixW ground196 block201 fun r205 => mapW r205 (fun (other202 : Int) Q => Q (decide (other202 ∈ dug198))) fun l204 => Q ((l204).all id)) (fun (block201 : Int) Q => Q block201) fun l203 => Q l203
theorem tw_next_in (ground196 : (List (List Int))) (pit197 : (List Int)) (dug198 : (List Int)) : CW c_next_in [.val (eC_Ground ground196), .val ((eT eI) pit197), .val ((eT eI) dug198)] (vL eI) (t_next_in ground196 pit197 dug198) := by
  have h : WN false m_next_in (fun (w : Unit) => [some (.val (eC_Ground ground196)), some (.val ((eT eI) pit197)), some (.val ((eT eI) dug198)), none, none, none]) (vL eI) (fun _ _ => .val .none) _ := (nSeq (sAsg (K := (fun (some200 : (List Int)) (w : Unit) => [some (.val (eC_Ground ground196)), some (.val ((eT eI) pit197)), some (.val ((eT eI) dug198)), some (.own (.lst (List.map eI some200))), none, none])) (wComp (R0 := (fun (w : Unit) => [some (.val (eC_Ground ground196)), some (.val ((eT eI) pit197)), some (.val ((eT eI) dug198)), none, none, none])) (Rb := (fun (block199 : Int) (w : Unit) => [some (.val (eC_Ground ground196)), some (.val ((eT eI) pit197)), some (.val ((eT eI) dug198)), none, some (.val (eI block199)), none])) (Rc := (fun (block199 : Int) (w : Unit) => [some (.val (eC_Ground ground196)), some (.val ((eT eI) pit197)), some (.val ((eT eI) dug198)), none, some (.val (eI block199)), none])) (e' := eI) (v := fun block199 A => A) (wSeq (e := eI) (l := fun A => A) (wVar 1 (eT eI) pit197)) (fun block199 => (wTb (wBin (wVar 4 eI block199) (wVar 2 (eT eI) dug198) (fun A B => (opNotInT (e := eI)) A B)))) (fun block199 => (wVar 4 eI block199)))) (fun (some200 : (List Int)) => (nF (fRet (v := fun A => A) (wComp (R0 := (fun (w : Unit) => [some (.val (eC_Ground ground196)), some (.val ((eT eI) pit197)), some (.val ((eT eI) dug198)), some (.val ((eL eI) some200)), none, none])) (Rb := (fun (block201 : Int) (w : Unit) => [some (.val (eC_Ground ground196)), some (.val ((eT eI) pit197)), some (.val ((eT eI) dug198)), some (.val ((eL eI) some200)), some (.val (eI block201)), none])) (Rc := (fun (block201 : Int) (w : Unit) => [some (.val (eC_Ground ground196)), some (.val ((eT eI) pit197)), some (.val ((eT eI) dug198)), some (.val ((eL eI) some200)), some (.val (eI block201)), none])) (e' := eI) (v := fun block201 A => A) (wSeq (e := eI) (l := fun A => some200) (R2 := (fun (w : Unit) => [some (.val (eC_Ground ground196)), some (.val ((eT eI) pit197)), some (.val ((eT eI) dug198)), some (.val ((eL eI) some200)), none, none])) (wPlc 3 (.lst (List.map eI some200)))) (fun block201 => (wTb (wCall (wCons (wMap (R0 := (fun (w : Unit) => [some (.val (eC_Ground ground196)), some (.val ((eT eI) pit197)), some (.val ((eT eI) dug198)), some (.val ((eL eI) some200)), some (.val (eI block201)), none])) (Rb := (fun (other202 : Int) (w : Unit) => [some (.val (eC_Ground ground196)), some (.val ((eT eI) pit197)), some (.val ((eT eI) dug198)), some (.val ((eL eI) some200)), some (.val (eI block201)), some (.val (eI other202))])) (Rc := (fun (other202 : Int) (w : Unit) => [some (.val (eC_Ground ground196)), some (.val ((eT eI) pit197)), some (.val ((eT eI) dug198)), some (.val ((eL eI) some200)), some (.val (eI block201)), some (.val (eI other202))])) (e' := eB) (v := fun other202 A => A) (wSeq (e := eI) (l := fun A => A) (wBin (wUn (wVar 0 eC_Ground ground196) (fun A => opP_Ground_covers A)) (wVar 4 eI block201) (fun A B => (opIxT (e := (eT eI))) A B))) (fun other202 => (wBin (wVar 5 eI other202) (wVar 2 (eT eI) dug198) (fun A B => (opInT (e := eI)) A B)))) wNil) (fun (A : (List Bool) × Unit) => opAll A.1)))) (fun block201 => (wVar 4 eI block201)))))))
  try dsimp only [retW, ifW, andW, orW] at h
  unfold t_next_in
  try dsimp only [retW, ifW, andW, orW]
  exact cwOf (nl := 6) (fun (w : Unit) => [some (.val (eC_Ground ground196)), some (.val ((eT eI) pit197)), some (.val ((eT eI) dug198)), none, none, none]) h
def t_highest_first (ground148 : (List (List Int))) (pit149 : (List Int)) (machines150 : Int) : PT (List (List Int)) := fun Q => t_need_pit ground148 pit149 fun r224 => t_need_machines machines150 fun r223 => t_heights_in ground148 pit149 fun r222 => retW ((r222 : (List (Int × Int))), (([] : (List Int)) : (List Int)), (([] : (List (List Int))) : (List (List Int))), ()) fun (A194 : (List (Int × Int)) × (List Int) × (List (List Int)) × Unit) => whileR (β := Empty) (fun (s195 : ((List Int) × (List (List Int)))) Q => Q (decide ((s195.1.length : Int) < (pit149.length : Int)))) (fun (s195 : ((List Int) × (List (List Int)))) Q => t_next_in ground148 pit149 s195.1 fun r218 => mapW r218 (fun (block207 : Int) Q => ∃ v219, getM A194.1 block207 = some v219 ∧ (Q ((-v219), block207))) fun l217 => sortW (eP eI eI) (ltP ltI ltI) l217 fun r220 => retW ((cutL r220 none (some machines150)) : (List (Int × Int))) fun some208 => mapW some208 (fun (p209 : (Int × Int)) Q => Q p209.2) fun l215 => sortW eI ltI l215 fun r216 => appW s195.2 r216 fun found210 => ixW found210 (-1) fun r212 => sizW (s195.1 ++ (r212 ++ [])) fun r213 => sortW eI ltI r213 fun dug211 => Q (.go (dug211, found210))) fuW (A194.2.1, A194.2.2.1) fun r => inlW (fun v221 => Q v221.2) r
theorem tw_highest_first (ground148 : (List (List Int))) (pit149 : (List Int)) (machines150 : Int) : CW c_highest_first [.val (eC_Ground ground148), .val ((eT eI) pit149), .val (eI machines150)] (vV (eT (eT eI))) (t_highest_first ground148 pit149 machines150) := by
  have h : WN false m_highest_first (fun (w : Unit) => [some (.val (eC_Ground ground148)), some (.val ((eT eI) pit149)), some (.val (eI machines150)), none, none, none, none, none, none]) (vV (eT (eT eI))) (fun _ _ => .val .none) _ := (nSeq (sExprW (wCallV (wCons (wVar 0 eC_Ground ground148) (wCons (wVar 1 (eT eI) pit149) wNil)) (fun (A : (List (List Int)) × (List Int) × Unit) => tw_need_pit A.1 A.2.1))) (fun _ => (nSeq (sExprW (wCallV (wCons (wVar 2 eI machines150) wNil) (fun (A : Int × Unit) => tw_need_machines A.1))) (fun _ => (nSeq (sParW (K := (fun (A194 : (List (Int × Int)) × (List Int) × (List (List Int)) × Unit) (w : Unit) => [some (.val (eC_Ground ground148)), some (.val ((eT eI) pit149)), some (.val (eI machines150)), some (.own (dctO false (fun i : Int => [i]) eI A194.1)), some (.val ((eT eI) A194.2.1)), some (.own (.lst (List.map (eT eI) A194.2.2.1))), none, none, none])) (wCons (wCallV (wCons (wVar 0 eC_Ground ground148) (wCons (wVar 1 (eT eI) pit149) wNil)) (fun (A : (List (List Int)) × (List Int) × Unit) => tw_heights_in A.1 A.2.1)) (wCons (wTup (e := (eT eI)) (f := (fun (A : Unit) => ([] : (List Int)))) wNil (fun _ => rfl)) (wCons (wLst (e := (eT eI)) (f := (fun (A : Unit) => ([] : (List (List Int))))) wNil) wNil)))) (fun (A194 : (List (Int × Int)) × (List Int) × (List (List Int)) × Unit) => (nSeq (sWhileW (R1 := (fun (w : Unit) => [some (.val (eC_Ground ground148)), some (.val ((eT eI) pit149)), some (.val (eI machines150)), some (.own (dctO false (fun i : Int => [i]) eI A194.1)), some (.val ((eT eI) A194.2.1)), some (.own (.lst (List.map (eT eI) A194.2.2.1))), none, none, none])) (K0 := (fun (s195 : ((List Int) × (List (List Int)))) (w : Unit) => [some (.val (eC_Ground ground148)), some (.val ((eT eI) pit149)), some (.val (eI machines150)), some (.own (dctO false (fun i : Int => [i]) eI A194.1)), some (.val ((eT eI) s195.1)), some (.own (.lst (List.map (eT eI) s195.2))), none, none, none])) (A194.2.1, A194.2.2.1) (fun (s195 : ((List Int) × (List (List Int)))) => (wTb (wBin (wCall (wCons (wVar 4 (eT eI) s195.1) wNil) (fun (A : (List Int) × Unit) => (opLenT (e := eI)) A.1)) (wCall (wCons (wVar 1 (eT eI) pit149) wNil) (fun (A : (List Int) × Unit) => (opLenT (e := eI)) A.1)) (fun A B => opLtI A B)))) (fun (s195 : ((List Int) × (List (List Int)))) => (lKill (ks := [6]) (lSeq (sAsg (K := (fun (some208 : (List (Int × Int))) (w : Unit) => [some (.val (eC_Ground ground148)), some (.val ((eT eI) pit149)), some (.val (eI machines150)), some (.own (dctO false (fun i : Int => [i]) eI A194.1)), some (.val ((eT eI) s195.1)), some (.own (.lst (List.map (eT eI) s195.2))), some (.own (.lst (List.map (eP eI eI) some208))), none, none])) (wSl (wCall (wCons (wMap (R0 := (fun (w : Unit) => [some (.val (eC_Ground ground148)), some (.val ((eT eI) pit149)), some (.val (eI machines150)), some (.own (dctO false (fun i : Int => [i]) eI A194.1)), some (.val ((eT eI) s195.1)), some (.own (.lst (List.map (eT eI) s195.2))), none, none, none])) (Rb := (fun (block207 : Int) (w : Unit) => [some (.val (eC_Ground ground148)), some (.val ((eT eI) pit149)), some (.val (eI machines150)), some (.own (dctO false (fun i : Int => [i]) eI A194.1)), some (.val ((eT eI) s195.1)), some (.own (.lst (List.map (eT eI) s195.2))), none, some (.val (eI block207)), none])) (Rc := (fun (block207 : Int) (w : Unit) => [some (.val (eC_Ground ground148)), some (.val ((eT eI) pit149)), some (.val (eI machines150)), some (.own (dctO false (fun i : Int => [i]) eI A194.1)), some (.val ((eT eI) s195.1)), some (.own (.lst (List.map (eT eI) s195.2))), none, some (.val (eI block207)), none])) (e' := (eP eI eI)) (v := fun block207 A => A) (wSeq (e := eI) (l := fun A => A) (wCallV (wCons (wVar 0 eC_Ground ground148) (wCons (wVar 1 (eT eI) pit149) (wCons (wVar 4 (eT eI) s195.1) wNil))) (fun (A : (List (List Int)) × (List Int) × (List Int) × Unit) => tw_next_in A.1 A.2.1 A.2.2.1))) (fun block207 => (wTup (e := (eP eI eI)) (f := (fun (A : Int × Int × Unit) => (A.1, A.2.1))) (wCons (wUn (wBin (wPlc 3 (dctO false (fun i : Int => [i]) eI A194.1)) (wVar 7 eI block207) (fun A B => (opDGet (e := eI) kyI) A194.1 B)) (fun A => opNeg A)) (wCons (wVar 7 eI block207) wNil)) (fun _ => rfl)))) wNil) (fun (A : (List (Int × Int)) × Unit) => (opSorted (e := (eP eI eI))) A.1)) (fun A => opSlL (e := (eP eI eI)) none (some machines150) A))) (fun (some208 : (List (Int × Int))) => (lSeq (sMut (e := (eT eI)) (l := s195.2) (R2 := (fun (w : Unit) => [some (.val (eC_Ground ground148)), some (.val ((eT eI) pit149)), some (.val (eI machines150)), some (.own (dctO false (fun i : Int => [i]) eI A194.1)), some (.val ((eT eI) s195.1)), some (.own (.lst (List.map (eT eI) s195.2))), some (.val ((eL (eP eI eI)) some208)), none, none])) (K := (fun (found210 : List (List Int)) (w : Unit) => [some (.val (eC_Ground ground148)), some (.val ((eT eI) pit149)), some (.val (eI machines150)), some (.own (dctO false (fun i : Int => [i]) eI A194.1)), some (.val ((eT eI) s195.1)), some (.own (.lst (List.map (eT eI) found210))), some (.val ((eL (eP eI eI)) some208)), none, none])) (wCons (wCall (wCons (wCall (wCons (wMap (R0 := (fun (w : Unit) => [some (.val (eC_Ground ground148)), some (.val ((eT eI) pit149)), some (.val (eI machines150)), some (.own (dctO false (fun i : Int => [i]) eI A194.1)), some (.val ((eT eI) s195.1)), some (.own (.lst (List.map (eT eI) s195.2))), some (.val ((eL (eP eI eI)) some208)), none, none])) (Rb := (fun (p209 : (Int × Int)) (w : Unit) => [some (.val (eC_Ground ground148)), some (.val ((eT eI) pit149)), some (.val (eI machines150)), some (.own (dctO false (fun i : Int => [i]) eI A194.1)), some (.val ((eT eI) s195.1)), some (.own (.lst (List.map (eT eI) s195.2))), some (.val ((eL (eP eI eI)) some208)), some (.val (eI p209.2)), some (.val (eI p209.1))])) (Rc := (fun (p209 : (Int × Int)) (w : Unit) => [some (.val (eC_Ground ground148)), some (.val ((eT eI) pit149)), some (.val (eI machines150)), some (.own (dctO false (fun i : Int => [i]) eI A194.1)), some (.val ((eT eI) s195.1)), some (.own (.lst (List.map (eT eI) s195.2))), some (.val ((eL (eP eI eI)) some208)), some (.val (eI p209.2)), some (.val (eI p209.1))])) (e' := eI) (v := fun p209 A => A) (wSeq (e := (eP eI eI)) (l := fun A => some208) (R2 := (fun (w : Unit) => [some (.val (eC_Ground ground148)), some (.val ((eT eI) pit149)), some (.val (eI machines150)), some (.own (dctO false (fun i : Int => [i]) eI A194.1)), some (.val ((eT eI) s195.1)), some (.own (.lst (List.map (eT eI) s195.2))), some (.val ((eL (eP eI eI)) some208)), none, none])) (wPlc 6 (.lst (List.map (eP eI eI) some208)))) (fun p209 => (wVar 7 eI p209.2))) wNil) (fun (A : (List Int) × Unit) => (opSorted (e := eI)) A.1)) wNil) (fun (A : (List Int) × Unit) => (opTupL (e := eI)) A.1)) wNil) (fun (A : (List Int) × Unit) Q q => f_app (e := (eT eI)) A.1 Q q)) (fun (found210 : List (List Int)) => (lS (f := fun (dug211 : (List Int)) => (dug211, found210)) (sAsg (K := (fun (dug211 : (List Int)) (w : Unit) => [some (.val (eC_Ground ground148)), some (.val ((eT eI) pit149)), some (.val (eI machines150)), some (.own (dctO false (fun i : Int => [i]) eI A194.1)), some (.val ((eT eI) dug211)), some (.own (.lst (List.map (eT eI) found210))), some (.val ((eL (eP eI eI)) some208)), none, none])) (wCall (wCons (wCall (wCons (wLstL (alStar (e := eI) (d1 := fun A => A) (wVar 4 (eT eI) s195.1) (alStar (e := eI) (d1 := fun A => A) (wBin (wPlc 5 (.lst (List.map (eT eI) found210))) (wUn (wInt 1) (fun A => opNeg A)) (fun A B => (opIxL (e := (eT eI))) found210 B)) alNil))) wNil) (fun (A : (List Int) × Unit) => (opSorted (e := eI)) A.1)) wNil) (fun (A : (List Int) × Unit) => (opTupL (e := eI)) A.1))))))))))) (fun (v221 : ((List Int) × (List (List Int)))) => (nF (fRet (v := fun A => A) (wCall (wCons (wPlc 5 (.lst (List.map (eT eI) v221.2))) wNil) (fun (A : Unit × Unit) => (opTupL (e := (eT eI))) v221.2))))))))))))
  try dsimp only [retW, ifW, andW, orW] at h
  unfold t_highest_first
  try dsimp only [retW, ifW, andW, orW]
  exact cwOf (nl := 9) (fun (w : Unit) => [some (.val (eC_Ground ground148)), some (.val ((eT eI) pit149)), some (.val (eI machines150)), none, none, none, none, none, none]) h
def t_picked (blocks233 : (List Int)) (many234 : Int) : PT (List (List Int)) := fun Q => retW ([([] : (List Int))] : (List (List Int))) fun found235 => forW (fun (block237 : Int) (s236 : (List (List Int))) Q => compW s236 (fun (some238 : (List Int)) Q => Q (decide ((some238.length : Int) < many234))) (fun (some238 : (List Int)) Q => sizW (some238 ++ [block237]) fun r242 => Q r242) fun l241 => catW s236 l241 fun found239 => Q found239) blocks233 found235 fun (v240 : (List (List Int))) => Q (cutL v240 (some 1) none)
theorem tw_picked (blocks233 : (List Int)) (many234 : Int) : CW c_picked [.own (.lst (List.map eI blocks233)), .val (eI many234)] (vL (eT eI)) (t_picked blocks233 many234) := by
  have h : WN false m_picked (fun (w : Unit) => [some (.own (.lst (List.map eI blocks233))), some (.val (eI many234)), none, none, none]) (vL (eT eI)) (fun _ _ => .val .none) _ := (nSeq (sAsg (K := (fun (found235 : (List (List Int))) (w : Unit) => [some (.own (.lst (List.map eI blocks233))), some (.val (eI many234)), some (.own (.lst (List.map (eT eI) found235))), none, none])) (wLst (e := (eT eI)) (f := (fun (A : (List Int) × Unit) => [A.1])) (wCons (wTup (e := (eT eI)) (f := (fun (A : Unit) => ([] : (List Int)))) wNil (fun _ => rfl)) wNil))) (fun (found235 : (List (List Int))) => (nSeq (sForW (R1 := (fun (w : Unit) => [some (.own (.lst (List.map eI blocks233))), some (.val (eI many234)), some (.own (.lst (List.map (eT eI) found235))), none, none])) (K0 := (fun (s236 : (List (List Int))) (w : Unit) => [some (.val ((eL eI) blocks233)), some (.val (eI many234)), some (.own (.lst (List.map (eT eI) s236))), none, none])) (Kb := (fun (block237 : Int) (s236 : (List (List Int))) (w : Unit) => [some (.val ((eL eI) blocks233)), some (.val (eI many234)), some (.own (.lst (List.map (eT eI) s236))), some (.val (eI block237)), none])) found235 (wSeq (e := eI) (l := fun A => blocks233) (R2 := (fun (w : Unit) => [some (.val ((eL eI) blocks233)), some (.val (eI many234)), some (.own (.lst (List.map (eT eI) found235))), none, none])) (wPlc 0 (.lst (List.map eI blocks233)))) (fun (block237 : Int) (s236 : (List (List Int))) => (sKillK (sReK (ks := [3]) (K' := (fun (s236 : (List (List Int))) (w : Unit) => [some (.val ((eL eI) blocks233)), some (.val (eI many234)), some (.own (.lst (List.map (eT eI) s236))), none, none])) (fun (found239 : (List (List Int))) => found239) (sAsg (K := (fun (found239 : (List (List Int))) (w : Unit) => [some (.val ((eL eI) blocks233)), some (.val (eI many234)), some (.own (.lst (List.map (eT eI) found239))), some (.val (eI block237)), none])) (wBin (wPlc 2 (.lst (List.map (eT eI) s236))) (wComp (R0 := (fun (w : Unit) => [some (.val ((eL eI) blocks233)), some (.val (eI many234)), some (.val ((eL (eT eI)) s236)), some (.val (eI block237)), none])) (Rb := (fun (some238 : (List Int)) (w : Unit) => [some (.val ((eL eI) blocks233)), some (.val (eI many234)), some (.val ((eL (eT eI)) s236)), some (.val (eI block237)), some (.val ((eT eI) some238))])) (Rc := (fun (some238 : (List Int)) (w : Unit) => [some (.val ((eL eI) blocks233)), some (.val (eI many234)), some (.val ((eL (eT eI)) s236)), some (.val (eI block237)), some (.val ((eT eI) some238))])) (e' := (eT eI)) (v := fun some238 A => A) (wSeq (e := (eT eI)) (l := fun A => s236) (R2 := (fun (w : Unit) => [some (.val ((eL eI) blocks233)), some (.val (eI many234)), some (.val ((eL (eT eI)) s236)), some (.val (eI block237)), none])) (wPlc 2 (.lst (List.map (eT eI) s236)))) (fun some238 => (wTb (wBin (wCall (wCons (wVar 4 (eT eI) some238) wNil) (fun (A : (List Int) × Unit) => (opLenT (e := eI)) A.1)) (wVar 1 eI many234) (fun A B => opLtI A B)))) (fun some238 => (wTupL (alStar (e := eI) (d1 := fun A => A) (wVar 4 (eT eI) some238) (alCons (e := eI) (wVar 3 eI block237) alNil))))) (fun A B => (opCatL (e := (eT eI))) s236 B))))))) (fun (v240 : (List (List Int))) => (nF (fRet (v := fun A => A) (wSl (wPlc 2 (.lst (List.map (eT eI) v240))) (fun A => opSlL (e := (eT eI)) (some 1) none v240))))))))
  try dsimp only [retW, ifW, andW, orW] at h
  unfold t_picked
  try dsimp only [retW, ifW, andW, orW]
  exact cwOf (nl := 5) (fun (w : Unit) => [some (.own (.lst (List.map eI blocks233))), some (.val (eI many234)), none, none, none]) h
def t_later_of (ground229 : (List (List Int))) (pit230 : (List Int)) (machines231 : Int) (dug232 : (List Int)) : PT (List ((List Int) × (List Int))) := fun Q => t_next_in ground229 pit230 dug232 fun r250 => t_picked r250 machines231 fun some244 => mapW some244 (fun (lot245 : (List Int)) Q => sizW (dug232 ++ (lot245 ++ [])) fun r247 => sortW eI ltI r247 fun r248 => Q (r248, lot245)) fun l246 => Q l246
theorem tw_later_of (ground229 : (List (List Int))) (pit230 : (List Int)) (machines231 : Int) (dug232 : (List Int)) : CW c_later_of [.val (eC_Ground ground229), .val ((eT eI) pit230), .val (eI machines231), .val ((eT eI) dug232)] (vL (eP (eT eI) (eT eI))) (t_later_of ground229 pit230 machines231 dug232) := by
  have h : WN false m_later_of (fun (w : Unit) => [some (.val (eC_Ground ground229)), some (.val ((eT eI) pit230)), some (.val (eI machines231)), some (.val ((eT eI) dug232)), none, none]) (vL (eP (eT eI) (eT eI))) (fun _ _ => .val .none) _ := (nSeq (sAsg (K := (fun (some244 : (List (List Int))) (w : Unit) => [some (.val (eC_Ground ground229)), some (.val ((eT eI) pit230)), some (.val (eI machines231)), some (.val ((eT eI) dug232)), some (.own (.lst (List.map (eT eI) some244))), none])) (wCallV (wCons (wCallV (wCons (wVar 0 eC_Ground ground229) (wCons (wVar 1 (eT eI) pit230) (wCons (wVar 3 (eT eI) dug232) wNil))) (fun (A : (List (List Int)) × (List Int) × (List Int) × Unit) => tw_next_in A.1 A.2.1 A.2.2.1)) (wCons (wVar 2 eI machines231) wNil)) (fun (A : (List Int) × Int × Unit) => tw_picked A.1 A.2.1))) (fun (some244 : (List (List Int))) => (nF (fRet (v := fun A => A) (wMap (R0 := (fun (w : Unit) => [some (.val (eC_Ground ground229)), some (.val ((eT eI) pit230)), some (.val (eI machines231)), some (.val ((eT eI) dug232)), some (.val ((eL (eT eI)) some244)), none])) (Rb := (fun (lot245 : (List Int)) (w : Unit) => [some (.val (eC_Ground ground229)), some (.val ((eT eI) pit230)), some (.val (eI machines231)), some (.val ((eT eI) dug232)), some (.val ((eL (eT eI)) some244)), some (.val ((eT eI) lot245))])) (Rc := (fun (lot245 : (List Int)) (w : Unit) => [some (.val (eC_Ground ground229)), some (.val ((eT eI) pit230)), some (.val (eI machines231)), some (.val ((eT eI) dug232)), some (.val ((eL (eT eI)) some244)), some (.val ((eT eI) lot245))])) (e' := (eP (eT eI) (eT eI))) (v := fun lot245 A => A) (wSeq (e := (eT eI)) (l := fun A => some244) (R2 := (fun (w : Unit) => [some (.val (eC_Ground ground229)), some (.val ((eT eI) pit230)), some (.val (eI machines231)), some (.val ((eT eI) dug232)), some (.val ((eL (eT eI)) some244)), none])) (wPlc 4 (.lst (List.map (eT eI) some244)))) (fun lot245 => (wTup (e := (eP (eT eI) (eT eI))) (f := (fun (A : (List Int) × (List Int) × Unit) => (A.1, A.2.1))) (wCons (wCall (wCons (wCall (wCons (wLstL (alStar (e := eI) (d1 := fun A => A) (wVar 3 (eT eI) dug232) (alStar (e := eI) (d1 := fun A => A) (wVar 5 (eT eI) lot245) alNil))) wNil) (fun (A : (List Int) × Unit) => (opSorted (e := eI)) A.1)) wNil) (fun (A : (List Int) × Unit) => (opTupL (e := eI)) A.1)) (wCons (wVar 5 (eT eI) lot245) wNil)) (fun _ => rfl))))))))
  try dsimp only [retW, ifW, andW, orW] at h
  unfold t_later_of
  try dsimp only [retW, ifW, andW, orW]
  exact cwOf (nl := 6) (fun (w : Unit) => [some (.val (eC_Ground ground229)), some (.val ((eT eI) pit230)), some (.val (eI machines231)), some (.val ((eT eI) dug232)), none, none]) h
-- filled: see rest_rounds

/-! rest_rounds: what is known of the rest is right, and closed -/
section
open Ma
theorem mnext_ok {c : Cv} {p D : Lt} {Q : Lt → Prop} (hv : Vcv c) (h2 : c.length ≤ 10) (hp : Pit c p) (q : Q (exts c p D)) : t_next_in c p D Q := by
  unfold t_next_in
  have lp := asc_len hp.lot
  refine compW_f (fun b => !decide (b ∈ D)) (by omega) (fun _ _ Q q => q) (fun _ _ Q q => q) ?_
  have fl : (p.filter fun b => !decide (b ∈ D)).length ≤ p.length := List.length_filter_le _ _
  refine compW_f (fun b => (atC c b).all fun o => decide (o ∈ D)) (by omega) (fun b hb Q q => ?_) (fun _ _ Q q => q) ?_
  · have b0 := hp.lot.2 b (List.mem_filter.mp hb).1
    have al : (atC c b).length ≤ 10 := by
      have : Lot c.length (atC c b) := ⟨hv.asc b0.1, fun x hx => by have := hv.at b0.1 hx; omega⟩
      have := asc_len this
      omega
    exact ixW_ok b0.1 (atC_get b0.1 b0.2) (mapW_ok (fun o => decide (o ∈ D)) (by omega) (fun _ _ Q q => q) (by rw [List.all_map]; exact q))
  · have e : ((p.filter fun b => !decide (b ∈ D)).filter fun b => (atC c b).all fun o => decide (o ∈ D)) = exts c p D := by
      rw [List.filter_filter, exts]
      congr 1; funext b; exact Bool.and_comm _ _
    rw [e]; exact q
theorem cut_tl {α : Type} {l : List α} : cutL l (some 1) none = l.drop 1 := by
  cases l with
  | nil => rfl
  | cons x l =>
    have e : HT.sIx (x :: l).length 0 (some 1) = 1 := by
      simp only [HT.sIx, List.length_cons]
      split <;> omega
    have e2 : HT.sIx (x :: l).length (x :: l).length none = (x :: l).length := rfl
    rw [cutL, e, e2, List.take_of_length_le (by simp)]
theorem pickT_len {k : Int} {l : Lt} (h : l.length ≤ 10) (i : Nat) : (pickA k (l.take i)).length ≤ 1024 :=
  Nat.le_trans (pickA_len _) (Nat.le_trans (Nat.pow_le_pow_right (by decide) (show (l.take i).length ≤ 10 from Nat.le_trans (by rw [List.length_take]; exact Nat.min_le_right _ _) h)) (by decide))
theorem mpicked_ok {l : Lt} {k : Int} {Q : List Lt → Prop} (hk : 0 ≤ k) (h : l.length ≤ 10) (q : Q (picks k l)) : t_picked l k Q := by
  unfold t_picked
  simp only [retW]
  refine forW_inv (fun i s => s = pickA k (l.take i)) 0 rfl (fun i b s hi e Q q => ?_) (fun s e => ?_)
  · simp only [Nat.zero_add] at e q
    have sl := pickT_len (k := k) h i
    rw [← e] at sl
    have tk : (l.take (i + 1)) = l.take i ++ [b] := by rw [List.take_succ, hi]; rfl
    refine compW_ok (fun s => decide ((s.length : Int) < k)) (fun s => s ++ [b]) (by omega) (fun _ _ Q q => q) (fun x hx _ Q q => sizW_ok ?_ q) (catW_ok ?_ (q _ ?_))
    · rw [e] at hx
      have := ((mem_pickA hk _ x).mp hx).1.length_le
      rw [List.length_take] at this
      rw [List.length_append, List.length_singleton]
      omega
    · exact Nat.le_trans (Nat.add_le_add_left (by rw [List.length_map]; exact List.length_filter_le _ _) _) (show s.length + s.length ≤ 16777216 by omega)
    · rw [tk, pickA_snoc, pk1, e]
  · simp only [Nat.zero_add, List.take_length] at e
    have e1 : cutL (pickA k l) (some 1) none = picks k l := cut_tl
    rw [e, e1]; exact q
theorem sort_joinL {c : Cv} {p D L : Lt} (h : SubP c p D) (hp : Pit c p) (hL : L.Sublist (exts c p D)) : sortB ltI (D ++ (L ++ [])) = join D L := by
  have he : ∀ x ∈ L, x ∉ D := fun x hx => (exts_mem.mp (hL.mem hx)).2.1
  have nL : L.Nodup := List.nodup_iff_pairwise_ne.mpr ((hp.lot.1.sublist (hL.trans exts_sub)).imp fun h => by omega)
  have nd : (D ++ L).Nodup := by
    rw [List.nodup_append]
    exact ⟨List.nodup_iff_pairwise_ne.mpr (h.1.lot.1.imp fun h => by omega), nL, fun x hx y hy e => he y hy (e ▸ hx)⟩
  rw [List.append_nil]
  unfold Ma.join
  refine asc_ext ?_ (ssrt_lt _) fun x => ?_
  · have h1 := sortB_sorted ltI_tot (D ++ L)
    have h2 : (sortB ltI (D ++ L)).Nodup := (sortB_perm (lt := ltI) (D ++ L)).nodup_iff.mpr nd
    rw [List.nodup_iff_pairwise_ne] at h2
    refine (h1.and h2).imp fun {a b} z => ?_
    have := z.1; have := z.2
    simp [ltI] at *
    omega
  · rw [ssrt_mem, (sortB_perm (lt := ltI) (D ++ L)).mem_iff]
theorem mlater_ok {c : Cv} {p D : Lt} {k : Int} {Q : List (Lt × Lt) → Prop} (hv : Vcv c) (h2 : c.length ≤ 10) (hp : Pit c p) (hk : 0 ≤ k) (hD : SubP c p D) (q : Q ((picks k (exts c p D)).map fun L => (join D L, L))) : t_later_of c p k D Q := by
  unfold t_later_of
  have lp := asc_len hp.lot
  have le : (exts c p D).length ≤ 10 := by
    have := exts_sub (c := c) (p := p) (D := D) |>.length_le
    omega
  have dl := sub_full hp hD
  refine mnext_ok hv h2 hp (mpicked_ok hk le (mapW_ok (fun L => (join D L, L)) ?_ (fun L hL Q q => ?_) q))
  · exact Nat.le_trans (picks_len _) (Nat.le_trans (Nat.pow_le_pow_right (by decide) le) (by decide))
  · obtain ⟨n1, sb, _⟩ := (mem_picks hk).mp hL
    have := sb.length_le
    refine sizW_ok (by simp; omega) ⟨srtOk_ints _, ?_⟩
    rw [sort_joinL hD hp sb]; exact q
structure Rst (c : Cv) (p : Lt) (k : Int) (m : List (Lt × (Int × Lt))) : Prop where
  ok : ∀ D v, getM m D = some v → v = fewD c p k D
  nd : (keysM m).Nodup
  sub : ∀ D ∈ keysM m, SubP c p D
  cl : ∀ D ∈ keysM m, ∀ L ∈ picks k (exts c p D), join D L ∈ keysM m
variable {c : Cv} {p : Lt} {k : Int}
theorem Rst.nil : Rst c p k [] := ⟨fun D v h => by simp [getM] at h, by simp [keysM], by simp [keysM], by simp [keysM]⟩
theorem Rst.len {m : List (Lt × (Int × Lt))} (h : Rst c p k m) (h2 : c.length ≤ 10) : m.length ≤ 1024 := by
  have := nd_pits h2 h.nd fun D hD => (h.sub D hD).1
  rwa [keys_len] at this
theorem Rst.get {m : List (Lt × (Int × Lt))} (h : Rst c p k m) {D : Lt} (hD : D ∈ keysM m) : getM m D = some (fewD c p k D) := by
  obtain ⟨v, e⟩ := hasM_of.mpr hD
  rw [e, ← h.ok D v e]
theorem putM_nd {β : Type} {m : List (List Int × β)} {k : List Int} {v : β} (h : (keysM m).Nodup) : (keysM (putM m k v)).Nodup := by
  unfold putM
  split
  · have : keysM (m.map fun q => if q.1 = k then (q.1, v) else q) = keysM m := by
      unfold keysM
      rw [List.map_map]
      refine List.map_congr_left fun q _ => ?_
      show (if q.1 = k then (q.1, v) else q).1 = q.1
      split <;> rfl
    rw [this]; exact h
  · rename_i e
    have nk : k ∉ keysM m := fun z => e (by rw [← hasM_get]; exact Option.isSome_iff_exists.mpr (hasM_of.mpr z))
    unfold keysM at h nk ⊢
    rw [List.map_append, List.nodup_append]
    exact ⟨h, by simp, fun a ha b hb e => nk (by simp at hb; rw [← hb, ← e]; exact ha)⟩
theorem Rst.put {m : List (Lt × (Int × Lt))} (h : Rst c p k m) {D : Lt} (hD : SubP c p D) (hc : ∀ L ∈ picks k (exts c p D), join D L ∈ keysM m) : Rst c p k (putM m D (fewD c p k D)) := by
  refine ⟨fun k' v' z => ?_, putM_nd h.nd, fun k' z => ?_, fun k' z L hL => ?_⟩
  · rw [getM_put] at z
    split at z
    · rename_i e2
      cases z
      rw [e2]
    · exact h.ok k' v' z
  · rcases (mem_keys_put m D k' _).mp z with rfl | z
    · exact hD
    · exact h.sub k' z
  · refine (mem_keys_put m D _ _).mpr (.inr ?_)
    rcases (mem_keys_put m D k' _).mp z with rfl | z
    · exact hc L hL
    · exact h.cl k' z L hL
abbrev eR : Int × Lt → D := eP eI (eT eI)
abbrev restO (m : List (Lt × (Int × Lt))) : OB := dctO true (fun k : List Int => k) eR m
abbrev rho9 (c : Cv) (p : Lt) (k : Int) (D : Lt) (m : List (Lt × (Int × Lt))) (r x y : Option SV) : Rho := [some (.val (eT eI D)), some (.val (eC_Ground c)), some (.val (eT eI p)), some (.val (eI k)), some (.val nfnD), some (.own (restO m)), r, x, y]
abbrev mElt (self : CM) : EM := evTup (evCons (evBin gAdd (evC (.int 1)) (evCallI 6 self (evRotP (evNfn 4 (evCons (evVar 7) (evVars [1, 2, 3, 4, 5])))))) (evCons (evVar 8) evNil))
theorem elt_ok (self : CM) {D D' L : Lt} {m m' : List (Lt × (Int × Lt))} {n : Int} (hs : self [.own (restO m), .val (eT eI D'), .val (eC_Ground c), .val (eT eI p), .val (eI k), .val nfnD] = some (.val (eI n), .own (restO m'))) :
    mElt self (rho9 c p k D m none (some (.val (eT eI D'))) (some (.val (eT eI L)))) = some (.sv (.val (eP eI (eT eI) (1 + n, L))), rho9 c p k D m' none (some (.val (eT eI D'))) (some (.val (eT eI L)))) := by
  generalize hR : rho9 c p k D m none (some (.val (eT eI D'))) (some (.val (eT eI L))) = R
  have h3 : evRotP (evNfn 4 (evCons (evVar 7) (evVars [1, 2, 3, 4, 5]))) R = some ([.plc 5, .sv (.val (eT eI D')), .sv (.val (eC_Ground c)), .sv (.val (eT eI p)), .sv (.val (eI k)), .sv (.val nfnD)], R) := by
    rw [← hR]; rfl
  have h4 : evCallI 6 self (evRotP (evNfn 4 (evCons (evVar 7) (evVars [1, 2, 3, 4, 5])))) R = some (.sv (.val (eI n)), rho9 c p k D m' none (some (.val (eT eI D'))) (some (.val (eT eI L)))) := by
    have hp' : passB R [.sv (.val (eT eI D')), .sv (.val (eC_Ground c)), .sv (.val (eT eI p)), .sv (.val (eI k)), .sv (.val nfnD)] = some [.val (eT eI D'), .val (eC_Ground c), .val (eT eI p), .val (eI k), .val nfnD] := by rw [← hR]; rfl
    have hf : frAll R [.sv (.val (eT eI D')), .sv (.val (eC_Ground c)), .sv (.val (eT eI p)), .sv (.val (eI k)), .sv (.val nfnD)] = R := by rw [← hR]; rfl
    have hg : R[5]? = some (some (.own (restO m))) := by rw [← hR]; rfl
    have hset : R.set 5 (some (.own (restO m'))) = rho9 c p k D m' none (some (.val (eT eI D'))) (some (.val (eT eI L))) := by rw [← hR]; rfl
    simp only [evCallI, h3, Option.bind_some, hg, hp', hf, hs]
    rw [if_neg (by simp [plcs])]
    simp only [List.length_cons, List.length_nil, if_true, Option.bind_some, hs, ite_self]
    rw [hset]
  have h8 : evVar 8 (rho9 c p k D m' none (some (.val (eT eI D'))) (some (.val (eT eI L)))) = some (.sv (.val (eT eI L)), rho9 c p k D m' none (some (.val (eT eI D'))) (some (.val (eT eI L)))) := rfl
  have h5 : evBin gAdd (evC (.int 1)) (evCallI 6 self (evRotP (evNfn 4 (evCons (evVar 7) (evVars [1, 2, 3, 4, 5]))))) R = some (.sv (.val (eI (1 + n))), rho9 c p k D m' none (some (.val (eT eI D'))) (some (.val (eT eI L)))) := by
    simp only [evBin, evC, Option.bind_some, h4]
    rfl
  simp only [mElt, evTup, evCons, evNil, h5, h8, Option.bind_some]
  rfl
theorem comp_ok (self : CM) {D : Lt} (hp : Pit c p) (hk : 0 ≤ k) (hD : SubP c p D)
    (ih : ∀ L ∈ picks k (exts c p D), ∀ m, Rst c p k m → ∃ m', Rst c p k m' ∧ (∀ x ∈ keysM m, x ∈ keysM m') ∧ join D L ∈ keysM m' ∧ self [.own (restO m), .val (eT eI (join D L)), .val (eC_Ground c), .val (eT eI p), .val (eI k), .val nfnD] = some (.val (eI (fewD c p k (join D L)).1), .own (restO m'))) :
    ∀ (l : List Lt) (m : List (Lt × (Int × Lt))), (∀ L ∈ l, L ∈ picks k (exts c p D)) → Rst c p k m → ∃ m', Rst c p k m' ∧ (∀ x ∈ keysM m, x ∈ keysM m') ∧ (∀ L ∈ l, join D L ∈ keysM m') ∧
      goComp (tgTup 2 (tgCons (tgName [] 7) (tgCons (tgName [] 8) tgNil))) tvYes (mElt self) [7, 8] ((l.map fun L => (join D L, L)).map (eP (eT eI) (eT eI))) (rho9 c p k D m none none none) = some ((l.map fun L => (1 + (fewD c p k (join D L)).1, L)).map eR, rho9 c p k D m' none none none)
  | [], m, _, hm => ⟨m, hm, fun _ h => h, by simp, rfl⟩
  | L :: l, m, hl, hm => by
    obtain ⟨m1, r1, s1, j1, e1⟩ := ih L (hl L (by simp)) m hm
    obtain ⟨m2, r2, s2, j2, e2⟩ := comp_ok self hp hk hD ih l m1 (fun x hx => hl x (by simp [hx])) r1
    refine ⟨m2, r2, fun x hx => s2 x (s1 x hx), fun x hx => ?_, ?_⟩
    · rcases List.mem_cons.mp hx with rfl | hx
      · exact s2 _ j1
      · exact j2 x hx
    · have tg : tgTup 2 (tgCons (tgName [] 7) (tgCons (tgName [] 8) tgNil)) (eP (eT eI) (eT eI) (join D L, L)) (rho9 c p k D m none none none) = some (rho9 c p k D m none (some (.val (eT eI (join D L)))) (some (.val (eT eI L)))) := rfl
      have e3 := elt_ok self (D := D) (L := L) e1
      have fz : frz1 (rho9 c p k D m1 none (some (.val (eT eI (join D L)))) (some (.val (eT eI L)))) (.sv (.val (eR (1 + (fewD c p k (join D L)).1, L)))) = some (eR (1 + (fewD c p k (join D L)).1, L), rho9 c p k D m1 none (some (.val (eT eI (join D L)))) (some (.val (eT eI L)))) := rfl
      have kl : kill [7, 8] (rho9 c p k D m1 none (some (.val (eT eI (join D L)))) (some (.val (eT eI L)))) = rho9 c p k D m1 none none none := rfl
      simp only [List.map_cons, goComp, tg, Option.bind_some, tvYes, if_true, e3, fz, kl, e2]
theorem filled_ok (hv : Vcv c) (h2 : c.length ≤ 10) (hp : Pit c p) (hk : 1 ≤ k) : ∀ (t : Nat) (D : Lt), SubP c p D → p.length < D.length + t → ∀ m, Rst c p k m → ∃ m', Rst c p k m' ∧ (∀ x ∈ keysM m, x ∈ keysM m') ∧ D ∈ keysM m' ∧
    c_filled t [.own (restO m), .val (eT eI D), .val (eC_Ground c), .val (eT eI p), .val (eI k), .val nfnD] = some (.val (eI (fewD c p k D).1), .own (restO m'))
  | 0, D, hD, ht, _, _ => by have := sub_full hp hD; omega
  | t + 1, D, hD, ht, m, hm => by
    have lp := asc_len hp.lot
    have k0 : 0 ≤ k := by omega
    have ih : ∀ L ∈ picks k (exts c p D), ∀ m, Rst c p k m → ∃ m', Rst c p k m' ∧ (∀ x ∈ keysM m, x ∈ keysM m') ∧ join D L ∈ keysM m' ∧ c_filled t [.own (restO m), .val (eT eI (join D L)), .val (eC_Ground c), .val (eT eI p), .val (eI k), .val nfnD] = some (.val (eI (fewD c p k (join D L)).1), .own (restO m')) := fun L hL m hm => by
      obtain ⟨h3, e3, l1, _, _⟩ := pick_st k0 hp hD hL
      exact filled_ok hv h2 hp hk t _ h3 (by omega) m hm
    have hA : ∃ m1, Rst c p k m1 ∧ (∀ x ∈ keysM m, x ∈ keysM m1) ∧ D ∈ keysM m1 ∧ exIf (tvB (evBin gDNot (evVar 0) (evVar 5))) (exKill [6] (exSeq (exAsg [5] 6 (evComp (ivSeq (evCallL 4 c_later_of (evCons (evVar 1) (evCons (evVar 2) (evCons (evVar 3) (evCons (evVar 0) evNil)))))) (tgTup 2 (tgCons (tgName [] 7) (tgCons (tgName [] 8) tgNil))) tvYes (mElt (c_filled t)) [7, 8]))
        (exDPut 5 (evVar 0) (evIf (tvT (evVar 6)) (evCall (gMM PySem.W.minD) (evCons (evVar 6) evNil)) (evTup (evCons (evC (.int 0)) (evCons (evTup evNil) evNil))))))) (exKill [6] exPass) (rho9 c p k D m none none none) = some (.nx, rho9 c p k D m1 none none none) := by
      have hT := (wTb (wBin (wVar 0 (eT eI) D) (wPlc 5 (restO m)) (fun A B => (opDNot (e := eR) kyT) A m)) : W (tvB (evBin gDNot (evVar 0) (evVar 5))) (fun _ : Unit => rho9 c p k D m none none none) (fun b : Bool => b) _ (fun _ : Unit => rho9 c p k D m none none none))
      obtain ⟨b, _, rfl, eb⟩ := hT () (fun b => b = !hasM m D) rfl
      cases hh : hasM m D with
      | true =>
        have hk' : D ∈ keysM m := hasM_of.mp (Option.isSome_iff_exists.mp ((hasM_get m D).trans hh))
        refine ⟨m, hm, fun _ h => h, hk', ?_⟩
        rw [hh] at eb
        simp only [exIf, eb, Option.bind_some]
        rfl
      | false =>
        rw [hh] at eb
        have hL := (wSeq (e := eP (eT eI) (eT eI)) (l := fun A => A) (wCallV (wCons (wVar 1 eC_Ground c) (wCons (wVar 2 (eT eI) p) (wCons (wVar 3 eI k) (wCons (wVar 0 (eT eI) D) wNil)))) (fun (A : (List (List Int)) × (List Int) × Int × (List Int) × Unit) => tw_later_of A.1 A.2.1 A.2.2.1 A.2.2.2.1)) : WI (ivSeq (evCallL 4 c_later_of (evCons (evVar 1) (evCons (evVar 2) (evCons (evVar 3) (evCons (evVar 0) evNil)))))) (fun _ : Unit => rho9 c p k D m none none none) (eP (eT eI) (eT eI)) _ (fun _ : Unit => rho9 c p k D m none none none))
        obtain ⟨l, _, rfl, el⟩ := hL () (fun l => l = (picks k (exts c p D)).map fun L => (join D L, L)) (mlater_ok hv h2 hp k0 hD rfl)
        obtain ⟨m1, r1, s1, j1, e1⟩ := comp_ok (c_filled t) hp k0 hD ih (picks k (exts c p D)) m (fun _ h => h) hm
        have ec : exAsg [5] 6 (evComp (ivSeq (evCallL 4 c_later_of (evCons (evVar 1) (evCons (evVar 2) (evCons (evVar 3) (evCons (evVar 0) evNil)))))) (tgTup 2 (tgCons (tgName [] 7) (tgCons (tgName [] 8) tgNil))) tvYes (mElt (c_filled t)) [7, 8]) (rho9 c p k D m none none none)
            = some (.nx, rho9 c p k D m1 (some (.own (.lst (((picks k (exts c p D)).map fun L => (1 + (fewD c p k (join D L)).1, L)).map eR)))) none none) := by
          have le : (exts c p D).length ≤ 10 := by
            have := exts_sub (c := c) (p := p) (D := D) |>.length_le
            omega
          have pl : (picks k (exts c p D)).length ≤ sizeLine := by
            rw [size_eq]
            exact Nat.le_trans (picks_len _) (Nat.le_trans (Nat.pow_le_pow_right (by decide) le) (by decide))
          have kl : kill [7, 8] (rho9 c p k D m none none none) = rho9 c p k D m none none none := rfl
          have rs : restore [7, 8] (rho9 c p k D m none none none) (rho9 c p k D m1 none none none) = rho9 c p k D m1 none none none := rfl
          simp only [exAsg, evComp, el, Option.bind_some, List.length_map, if_pos pl, kl, e1, rs]
          rfl
        generalize hrows : ((picks k (exts c p D)).map fun L => (1 + (fewD c p k (join D L)).1, L)) = rows at ec
        have fv : fewD c p k D = fewL rows := by
          by_cases dp : D.length = p.length
          · have := sub_eq hp hD dp
            subst this
            rw [exts_p, picks_nil, List.map_nil] at hrows
            rw [← hrows]
            exact fewR_p _
          · obtain ⟨n, hn⟩ : ∃ n, p.length - D.length = n + 1 := ⟨p.length - D.length - 1, by have := sub_full hp hD; omega⟩
            have e : ((picks k (exts c p D)).map fun L => (1 + (fewR c p k n (join D L)).1, L)) = rows := by
              rw [← hrows]
              refine List.map_congr_left fun L hL => ?_
              obtain ⟨h3, e3, l1, _, _⟩ := pick_st k0 hp hD hL
              rw [fewD_eq k0 hp h3 (by omega)]
            unfold fewD
            rw [hn, fewR, e]
        have hM : evIf (tvT (evVar 6)) (evCall (gMM PySem.W.minD) (evCons (evVar 6) evNil)) (evTup (evCons (evC (.int 0)) (evCons (evTup evNil) evNil))) (rho9 c p k D m1 (some (.own (.lst (rows.map eR)))) none none) = some (.sv (.val (eR (fewD c p k D))), rho9 c p k D m1 (some (.own (.lst (rows.map eR)))) none none) := by
          rw [fv]
          cases rows with
          | nil =>
            have et : tvT (evVar 6) (rho9 c p k D m1 (some (.own (.lst (([] : List (Int × Lt)).map eR)))) none none) = some (false, rho9 c p k D m1 (some (.own (.lst (([] : List (Int × Lt)).map eR)))) none none) := rfl
            have hE := (wTup (e := eR) (f := fun (A : Int × (List Int) × Unit) => (A.1, A.2.1)) (wCons (wInt 0) (wCons (wTup (e := eT eI) (f := fun (_ : Unit) => ([] : List Int)) wNil (fun _ => rfl)) wNil)) (fun _ => rfl) : WE (evTup (evCons (evC (.int 0)) (evCons (evTup evNil) evNil))) (fun _ : Unit => rho9 c p k D m1 (some (.own (.lst (([] : List (Int × Lt)).map eR)))) none none) (fun x => .sv (.val (eR x))) _ (fun _ : Unit => rho9 c p k D m1 (some (.own (.lst (([] : List (Int × Lt)).map eR)))) none none))
            obtain ⟨x, _, qx, ex⟩ := hE () (fun x => x = (0, [])) rfl
            simp only [evIf, et, Option.bind_some, Bool.false_eq_true, if_false, ex]
            rw [qx]; rfl
          | cons r rs =>
            obtain ⟨v, qv, ev⟩ := opMin (e := eR) (lt := ltR) (r :: rs) (by decide) (fun v => v = minB ltR r rs) rfl
            have e6 : evVar 6 (rho9 c p k D m1 (some (.own (.lst ((r :: rs).map eR)))) none none) = some (.plc 6, rho9 c p k D m1 (some (.own (.lst ((r :: rs).map eR)))) none none) := rfl
            have et : tvT (evVar 6) (rho9 c p k D m1 (some (.own (.lst ((r :: rs).map eR)))) none none) = some (true, rho9 c p k D m1 (some (.own (.lst ((r :: rs).map eR)))) none none) := rfl
            have er : rdAll (rho9 c p k D m1 (some (.own (.lst ((r :: rs).map eR)))) none none) [.plc 6] = some [eL eR (r :: rs)] := rfl
            simp only [evIf, et, Option.bind_some, if_true, evCall, evCons, evNil, e6, er, ev]
            rw [qv]; rfl
        have e6 : evVar 0 (rho9 c p k D m1 (some (.own (.lst (rows.map eR)))) none none) = some (.sv (.val (eT eI D)), rho9 c p k D m1 (some (.own (.lst (rows.map eR)))) none none) := rfl
        have hW : WE (evIf (tvT (evVar 6)) (evCall (gMM PySem.W.minD) (evCons (evVar 6) evNil)) (evTup (evCons (evC (.int 0)) (evCons (evTup evNil) evNil)))) (fun _ : Unit => rho9 c p k D m1 (some (.own (.lst (rows.map eR)))) none none) (fun x : Int × List Int => .sv (.val (eR x))) (fun Q => Q (fewD c p k D)) (fun _ : Unit => rho9 c p k D m1 (some (.own (.lst (rows.map eR)))) none none) := fun w Q q => ⟨fewD c p k D, w, q, hM⟩
        have hD1 := (sDPutW (e := eR) (m := m1) (v := fun A => A) (kx := fun A => A) (K := (fun (fd : (List ((List Int) × (Int × List Int)))) (_ : Unit) => rho9 c p k D fd (some (.own (.lst (rows.map eR)))) none none)) kyT hW (wVar 0 (eT eI) D) : WS (exDPut 5 (evVar 0) (evIf (tvT (evVar 6)) (evCall (gMM PySem.W.minD) (evCons (evVar 6) evNil)) (evTup (evCons (evC (.int 0)) (evCons (evTup evNil) evNil))))) (fun _ : Unit => rho9 c p k D m1 (some (.own (.lst (rows.map eR)))) none none) _ _)
        obtain ⟨m3, _, rfl, e3⟩ := hD1 () (fun x => x = putM m1 D (fewD c p k D)) ⟨by have := r1.len h2; omega, rfl⟩
        refine ⟨putM m1 D (fewD c p k D), r1.put hD j1, fun x hx => (mem_keys_put _ _ _ _).mpr (.inr (s1 x hx)), (mem_keys_put _ _ _ _).mpr (.inl rfl), ?_⟩
        simp only [exIf, eb, Option.bind_some]
        show exKill [6] _ _ = _
        simp only [exKill, exSeq, ec, e3, Option.bind_some]
        rfl
    obtain ⟨m1, r1, s1, d1, e1⟩ := hA
    refine ⟨m1, r1, s1, d1, ?_⟩
    have hB := (wBin (wPlc 5 (restO m1)) (wVar 0 (eT eI) D) (fun A B => (opDGet (e := eR) kyT) m1 B) : WE (evBin gDGet (evVar 5) (evVar 0)) (fun _ : Unit => rho9 c p k D m1 none none none) (fun x => .sv (vV eR x)) _ (fun _ : Unit => rho9 c p k D m1 none none none))
    obtain ⟨v, _, rfl, eb⟩ := hB () (fun v => v = fewD c p k D) ⟨_, r1.get d1, rfl⟩
    have eb' : evBin gDGet (evVar 5) (evVar 0) (rho9 c p k D m1 none none none) = some (.sv (.val (eR (fewD c p k D))), rho9 c p k D m1 none none none) := eb
    have e7 : evBin gIx (evBin gDGet (evVar 5) (evVar 0)) (evC (.int 0)) (rho9 c p k D m1 none none none) = some (.sv (.val (eI (fewD c p k D).1)), rho9 c p k D m1 none none none) := by
      show (evBin gDGet (evVar 5) (evVar 0) (rho9 c p k D m1 none none none)).bind _ = _
      rw [eb']; rfl
    have eS : m_filled (c_filled t) (rho9 c p k D m none none none) = some (.ret (.sv (.val (eI (fewD c p k D).1))), rho9 c p k D m1 none none none) := by
      unfold m_filled
      rw [exSeq, e1]
      simp only [Option.bind_some, exRet, e7]
    show runQ 6 9 (m_filled (c_filled t)) _ = _
    unfold runQ runQ' unrot
    show ((m_filled (c_filled t) (rho9 c p k D m none none none)).bind _) = _
    rw [eS]
    rfl
abbrev rho5 (c : Cv) (p : Lt) (k : Int) (m : List (Lt × (Int × Lt))) : Rho := [some (.val (eC_Ground c)), some (.val (eT eI p)), some (.val (eI k)), some (.own (restO m)), some (.val nfnD)]
def t_rest_rounds (c : List (List Int)) (p : List Int) (k : Int) : PT (List (List Int × (Int × List Int))) := fun Q => ((Vcv c ∧ c.length ≤ 10) ∧ Pit c p ∧ 1 ≤ k) ∧ ∀ m, Rst c p k m → [] ∈ keysM m → Q m
theorem tw_rest_rounds (c : List (List Int)) (p : List Int) (k : Int) : CW c_rest_rounds [.val (eC_Ground c), .val (eT eI p), .val (eI k)] (vD true (fun k : List Int => k) eR) (t_rest_rounds c p k) := fun Q ⟨⟨⟨hv, h2⟩, hp, hk⟩, q⟩ => by
  have lp := asc_len hp.lot
  obtain ⟨m, r, _, d, e⟩ := filled_ok hv h2 hp hk 12 [] (nil_sub hp) (by simp; omega) [] Rst.nil
  refine ⟨m, .val .none, q m r d, guardN_ok (fun s hs => ?_) ?_ (noNfs_map (fun a => .tup (.cons (.int _) (.cons (.tup (noNfs_map (fun i => .int i) _)) .nil))) _) .non⟩
  · simp only [List.mem_cons, List.not_mem_nil, or_false] at hs
    rcases hs with rfl | rfl | rfl
    · exact .obj (.cons (.tup (noNfs_map (fun l => .tup (noNfs_map (fun i => .int i) l)) c)) .nil)
    · exact .tup (noNfs_map (fun i => .int i) p)
    · exact .int k
  generalize hv' : fewD c p k [] = v at e
  have h3 : evRotP (evNfn 4 (evCons (evTup evNil) (evVars [0, 1, 2, 4, 3]))) (rho5 c p k []) = some ([.plc 3, .sv (.val (eT eI [])), .sv (.val (eC_Ground c)), .sv (.val (eT eI p)), .sv (.val (eI k)), .sv (.val nfnD)], rho5 c p k []) := rfl
  have h4 : evCallI 6 (c_filled 12) (evRotP (evNfn 4 (evCons (evTup evNil) (evVars [0, 1, 2, 4, 3])))) (rho5 c p k []) = some (.sv (.val (eI v.1)), rho5 c p k m) := by
    have hp' : passB (rho5 c p k []) [.sv (.val (eT eI [])), .sv (.val (eC_Ground c)), .sv (.val (eT eI p)), .sv (.val (eI k)), .sv (.val nfnD)] = some [.val (eT eI []), .val (eC_Ground c), .val (eT eI p), .val (eI k), .val nfnD] := rfl
    have hf : frAll (rho5 c p k []) [.sv (.val (eT eI [])), .sv (.val (eC_Ground c)), .sv (.val (eT eI p)), .sv (.val (eI k)), .sv (.val nfnD)] = rho5 c p k [] := rfl
    have hg : (rho5 c p k [])[3]? = some (some (.own (restO []))) := rfl
    simp only [evCallI, h3, Option.bind_some, hg, hp', hf, e]
    rw [if_neg (by simp [plcs])]
    simp only [List.length_cons, List.length_nil, if_true, Option.bind_some, e, ite_self]
    rfl
  have s1 : exAsg [] 3 (evDNew true) [some (.val (eC_Ground c)), some (.val (eT eI p)), some (.val (eI k)), none, none] = some (.nx, [some (.val (eC_Ground c)), some (.val (eT eI p)), some (.val (eI k)), some (.own (restO [])), none]) := rfl
  have s2 : exNdef [] 4 [some (.val (eC_Ground c)), some (.val (eT eI p)), some (.val (eI k)), some (.own (restO [])), none] = some (.nx, rho5 c p k []) := rfl
  have s3 : exExpr (evCallI 6 (c_filled 12) (evRotP (evNfn 4 (evCons (evTup evNil) (evVars [0, 1, 2, 4, 3]))))) (rho5 c p k []) = some (.nx, rho5 c p k m) := by
    simp only [exExpr, h4, Option.bind_some]
  have s4 : exRet (evVar 3) (rho5 c p k m) = some (.ret (.plc 3), rho5 c p k m) := rfl
  have eS : m_rest_rounds [some (.val (eC_Ground c)), some (.val (eT eI p)), some (.val (eI k)), none, none] = some (.ret (.plc 3), rho5 c p k m) := by
    unfold m_rest_rounds
    simp only [exSeq, s1, s2, s3, s4, Option.bind_some]
  show ((m_rest_rounds [some (.val (eC_Ground c)), some (.val (eT eI p)), some (.val (eI k)), none, none]).bind _) = _
  rw [eS]
  rfl
end

def t_fewest_rounds (ground226 : (List (List Int))) (pit227 : (List Int)) (machines228 : Int) : PT Int := fun Q => t_need_pit ground226 pit227 fun r254 => t_need_machines machines228 fun r253 => t_rest_rounds ground226 pit227 machines228 fun r251 => ∃ v252, getM r251 ([] : (List Int)) = some v252 ∧ (Q v252.1)
theorem tw_fewest_rounds (ground226 : (List (List Int))) (pit227 : (List Int)) (machines228 : Int) : CW c_fewest_rounds [.val (eC_Ground ground226), .val ((eT eI) pit227), .val (eI machines228)] (vV eI) (t_fewest_rounds ground226 pit227 machines228) := by
  have h : WN false m_fewest_rounds (fun (w : Unit) => [some (.val (eC_Ground ground226)), some (.val ((eT eI) pit227)), some (.val (eI machines228))]) (vV eI) (fun _ _ => .val .none) _ := (nSeq (sExprW (wCallV (wCons (wVar 0 eC_Ground ground226) (wCons (wVar 1 (eT eI) pit227) wNil)) (fun (A : (List (List Int)) × (List Int) × Unit) => tw_need_pit A.1 A.2.1))) (fun _ => (nSeq (sExprW (wCallV (wCons (wVar 2 eI machines228) wNil) (fun (A : Int × Unit) => tw_need_machines A.1))) (fun _ => (nF (fRet (v := fun A => A) (wProj 0 (wBin (wCallV (wCons (wVar 0 eC_Ground ground226) (wCons (wVar 1 (eT eI) pit227) (wCons (wVar 2 eI machines228) wNil))) (fun (A : (List (List Int)) × (List Int) × Int × Unit) => tw_rest_rounds A.1 A.2.1 A.2.2.1)) (wTup (e := (eT eI)) (f := (fun (A : Unit) => ([] : (List Int)))) wNil (fun _ => rfl)) (fun A B => (opDGet (e := (eP eI (eT eI))) kyT) A B)) (fun A => opFst (e := eI) (f := (eT eI)) A))))))))
  try dsimp only [retW, ifW, andW, orW] at h
  unfold t_fewest_rounds
  try dsimp only [retW, ifW, andW, orW]
  exact cwOf (nl := 3) (fun (w : Unit) => [some (.val (eC_Ground ground226)), some (.val ((eT eI) pit227)), some (.val (eI machines228))]) h
def t_round_count (ground256 : (List (List Int))) (pit257 : (List Int)) (machines258 : Int) (value259 : (List (List Int))) : PT (Option Int) := fun Q => t_need_pit ground256 pit257 fun r273 => t_need_machines machines258 fun r272 => retW (([] : (List Int)) : (List Int)) fun dug260 => forR (fun (lot262 : (List Int)) (s261 : (List Int)) Q => orW (fun Q => t_is_lot ground256 lot262 fun r270 => Q (!r270)) (fun Q => Q (!(decide (1 ≤ (lot262.length : Int)) && decide ((lot262.length : Int) ≤ machines258)))) fun b269 => if b269 = true then Q (.ret none) else mapW lot262 (fun (block263 : Int) Q => t_next_in ground256 pit257 s261 fun r268 => Q (decide (block263 ∈ r268))) fun l267 => if (!((l267).all id)) = true then Q (.ret none) else sizW (s261 ++ (lot262 ++ [])) fun r265 => sortW eI ltI r265 fun dug264 => Q (.go dug264)) value259 dug260 fun r => thenW (fun (v271 : (List Int)) Q => Q (if (decide (v271 = pit257)) = true then (some (value259.length : Int)) else none)) r Q
theorem tw_round_count (ground256 : (List (List Int))) (pit257 : (List Int)) (machines258 : Int) (value259 : (List (List Int))) : CW c_round_count [.val (eC_Ground ground256), .val ((eT eI) pit257), .val (eI machines258), .val ((eT (eT eI)) value259)] (vV (eO eI)) (t_round_count ground256 pit257 machines258 value259) := by
  have h : WN false m_round_count (fun (w : Unit) => [some (.val (eC_Ground ground256)), some (.val ((eT eI) pit257)), some (.val (eI machines258)), some (.val ((eT (eT eI)) value259)), none, none, none]) (vV (eO eI)) (fun _ _ => .val .none) _ := (nSeq (sExprW (wCallV (wCons (wVar 0 eC_Ground ground256) (wCons (wVar 1 (eT eI) pit257) wNil)) (fun (A : (List (List Int)) × (List Int) × Unit) => tw_need_pit A.1 A.2.1))) (fun _ => (nSeq (sExprW (wCallV (wCons (wVar 2 eI machines258) wNil) (fun (A : Int × Unit) => tw_need_machines A.1))) (fun _ => (nIfFalseE (wTNot (wTb (wIsi (b := true) (d1 := fun A => (eT (eT eI)) A) (wVar 3 (eT (eT eI)) value259)))) (nSeq (sAsg (K := (fun (dug260 : (List Int)) (w : Unit) => [some (.val (eC_Ground ground256)), some (.val ((eT eI) pit257)), some (.val (eI machines258)), some (.val ((eT (eT eI)) value259)), some (.val ((eT eI) dug260)), none, none])) (wTup (e := (eT eI)) (f := (fun (A : Unit) => ([] : (List Int)))) wNil (fun _ => rfl))) (fun (dug260 : (List Int)) => (nForR (R1 := (fun (w : Unit) => [some (.val (eC_Ground ground256)), some (.val ((eT eI) pit257)), some (.val (eI machines258)), some (.val ((eT (eT eI)) value259)), some (.val ((eT eI) dug260)), none, none])) (K0 := (fun (s261 : (List Int)) (w : Unit) => [some (.val (eC_Ground ground256)), some (.val ((eT eI) pit257)), some (.val (eI machines258)), some (.val ((eT (eT eI)) value259)), some (.val ((eT eI) s261)), none, none])) (Kb := (fun (lot262 : (List Int)) (s261 : (List Int)) (w : Unit) => [some (.val (eC_Ground ground256)), some (.val ((eT eI) pit257)), some (.val (eI machines258)), some (.val ((eT (eT eI)) value259)), some (.val ((eT eI) s261)), some (.val ((eT eI) lot262)), none])) dug260 (wSeq (e := (eT eI)) (l := fun A => A) (wVar 3 (eT (eT eI)) value259)) (fun (lot262 : (List Int)) (s261 : (List Int)) => (lKill (ks := [5]) (lIfEsc (wTOr (wTNot (wTb (wCallV (wCons (wVar 0 eC_Ground ground256) (wCons (wVar 5 (eT eI) lot262) wNil)) (fun (A : (List (List Int)) × (List Int) × Unit) => tw_is_lot A.1 A.2.1)))) (wTNot (wTb (wChain2 (wInt 1) (wCall (wCons (wVar 5 (eT eI) lot262) wNil) (fun (A : (List Int) × Unit) => (opLenT (e := eI)) A.1)) (wVar 2 eI machines258) (fun A B => opLeI A B) (fun A B => opLeI A B))))) (lF (fRet (v := fun A => A) (wNone (e := eI) wNon))) sPassW (fun _ => (lIfEsc (wTNot (wTb (wCall (wCons (wMap (R0 := (fun (w : Unit) => [some (.val (eC_Ground ground256)), some (.val ((eT eI) pit257)), some (.val (eI machines258)), some (.val ((eT (eT eI)) value259)), some (.val ((eT eI) s261)), some (.val ((eT eI) lot262)), none])) (Rb := (fun (block263 : Int) (w : Unit) => [some (.val (eC_Ground ground256)), some (.val ((eT eI) pit257)), some (.val (eI machines258)), some (.val ((eT (eT eI)) value259)), some (.val ((eT eI) s261)), some (.val ((eT eI) lot262)), some (.val (eI block263))])) (Rc := (fun (block263 : Int) (w : Unit) => [some (.val (eC_Ground ground256)), some (.val ((eT eI) pit257)), some (.val (eI machines258)), some (.val ((eT (eT eI)) value259)), some (.val ((eT eI) s261)), some (.val ((eT eI) lot262)), some (.val (eI block263))])) (e' := eB) (v := fun block263 A => A) (wSeq (e := eI) (l := fun A => A) (wVar 5 (eT eI) lot262)) (fun block263 => (wBin (wVar 6 eI block263) (wCallV (wCons (wVar 0 eC_Ground ground256) (wCons (wVar 1 (eT eI) pit257) (wCons (wVar 4 (eT eI) s261) wNil))) (fun (A : (List (List Int)) × (List Int) × (List Int) × Unit) => tw_next_in A.1 A.2.1 A.2.2.1)) (fun A B => (opInL (e := eI)) A B)))) wNil) (fun (A : (List Bool) × Unit) => opAll A.1)))) (lF (fRet (v := fun A => A) (wNone (e := eI) wNon))) sPassW (fun _ => (lS (f := fun (dug264 : (List Int)) => dug264) (sAsg (K := (fun (dug264 : (List Int)) (w : Unit) => [some (.val (eC_Ground ground256)), some (.val ((eT eI) pit257)), some (.val (eI machines258)), some (.val ((eT (eT eI)) value259)), some (.val ((eT eI) dug264)), some (.val ((eT eI) lot262)), none])) (wCall (wCons (wCall (wCons (wLstL (alStar (e := eI) (d1 := fun A => A) (wVar 4 (eT eI) s261) (alStar (e := eI) (d1 := fun A => A) (wVar 5 (eT eI) lot262) alNil))) wNil) (fun (A : (List Int) × Unit) => (opSorted (e := eI)) A.1)) wNil) (fun (A : (List Int) × Unit) => (opTupL (e := eI)) A.1)))))))))) (fun (v271 : (List Int)) => (nF (fRet (v := fun A => A) (wIf2 (wTb (wBin (wVar 4 (eT eI) v271) (wVar 1 (eT eI) pit257) (fun A B => (opEq (e := (eT eI))) A B))) (wSome (wCall (wCons (wVar 3 (eT (eT eI)) value259) wNil) (fun (A : (List (List Int)) × Unit) => (opLenT (e := (eT eI))) A.1))) (wNone (e := eI) wNon)))))))))))))
  try dsimp only [retW, ifW, andW, orW] at h
  unfold t_round_count
  try dsimp only [retW, ifW, andW, orW]
  exact cwOf (nl := 7) (fun (w : Unit) => [some (.val (eC_Ground ground256)), some (.val ((eT eI) pit257)), some (.val (eI machines258)), some (.val ((eT (eT eI)) value259)), none, none, none]) h
def t_law : PT Bool := fun Q => takenW 3 fun r292 => retW ((decide (0 < r292)) : Bool) fun is_single0 => ifW is_single0 (fun Q => t_l_single  fun r290 => Q r290) (fun Q => t_l_covers 7 fun r291 => Q r291) fun covers_here49 => t_l_a_pit covers_here49 fun r286 => t_Ground___init__ covers_here49 fun ground287 => takenW 4 fun r288 => retW ((r286 : (List Int)), (ground287 : (List (List Int))), ((1 + r288) : Int), ()) fun (A109 : (List Int) × (List (List Int)) × Int × Unit) => retW ((([] : (List Int)) : (List Int)), (([] : (List (List Int))) : (List (List Int))), ()) fun (A110 : (List Int) × (List (List Int)) × Unit) => rangeW (A109.1.length : Int) fun r285 => forW (fun (turn112 : Int) (s111 : ((List Int) × (List (List Int)))) Q => retW (([] : (List (Int × Int))) : (List (Int × Int))) fun some113 => t_l_next covers_here49 A109.1 s111.1 fun r284 => forW (fun (block128 : Int) (s127 : (List (Int × Int))) Q => t_l_height 12 covers_here49 A109.1 block128 fun r283 => appW s127 ((0 - r283), block128) fun some141 => Q some141) r284 some113 fun (v142 : (List (Int × Int))) => sortW (eP eI eI) (ltP ltI ltI) v142 fun r281 => mapW (cutL r281 none (some A109.2.2.1)) (fun (p143 : (Int × Int)) Q => Q p143.2) fun l280 => sortW eI ltI l280 fun lot144 => catW s111.1 lot144 fun dug145 => catW s111.2 (if (!decide (lot144 = ([] : (List Int)))) = true then [lot144] else ([] : (List (List Int)))) fun due146 => Q (dug145, due146)) r285 (A110.1, A110.2.1) fun (v147 : ((List Int) × (List (List Int)))) => t_highest_first A109.2.1 A109.1 A109.2.2.1 fun value225 => t_fewest_rounds A109.2.1 A109.1 A109.2.2.1 fun least255 => orW (fun Q => Q (!decide (value225 = v147.2))) (fun Q => t_round_count A109.2.1 A109.1 A109.2.2.1 value225 fun r275 => Q (!decide (r275 = (some (v147.2.length : Int))))) fun b274 => if b274 = true then Q false else if (decide ((v147.2.length : Int) < least255)) = true then Q false else Q ((!is_single0) || (decide (least255 = (v147.2.length : Int))))
theorem tw_law (script : List Int) : CR1 c_law script t_law := by
  have h : WN false m_law (fun (w : RW) => [some (.val (flsD (List.map PyData.int script))), none, none, none, none, none, none, none, none, none, none, none, none, none, none, none]) (vV eB) (fun _ _ => .val .none) _ := (nSeq (sRow (ns := script) (K := (fun (_ : Unit) (w : RW) => [some (.val (flsD (List.map PyData.int script))), some (.own (row w)), none, none, none, none, none, none, none, none, none, none, none, none, none, none]))) (fun (_ : Unit) => (nSeq (sAsg (K := (fun (is_single0 : Bool) (w : RW) => [some (.val (flsD (List.map PyData.int script))), some (.own (row w)), some (.val (eB is_single0)), none, none, none, none, none, none, none, none, none, none, none, none, none])) (wBin (wCallI (rs := fun (A : Unit × Int × Unit) => [Rv.sv (.val (eI A.2.1))]) (row := row) (wCons (wPlc0 1) (wCons (wInt 3) wNil)) (fun (A : Unit × Int × Unit) => cr_taken A.2.1)) (wInt 0) (fun A B => opGtI A B))) (fun (is_single0 : Bool) => (nSeq (sAsg (K := (fun (covers_here49 : (List (List Int))) (w : RW) => [some (.val (flsD (List.map PyData.int script))), some (.own (row w)), some (.val (eB is_single0)), some (.val ((eT (eT eI)) covers_here49)), none, none, none, none, none, none, none, none, none, none, none, none])) (wIf (wTb (wVar 2 eB is_single0)) (wCallI (rs := fun (A : Unit × Unit) => []) (row := row) (wCons (wPlc0 1) wNil) (fun (A : Unit × Unit) => tw_l_single )) (wCallI (rs := fun (A : Unit × Int × Unit) => [Rv.sv (.val (eI A.2.1))]) (row := row) (wCons (wPlc0 1) (wCons (wInt 7) wNil)) (fun (A : Unit × Int × Unit) => tw_l_covers A.2.1)))) (fun (covers_here49 : (List (List Int))) => (nSeq (sParW (K := (fun (A109 : (List Int) × (List (List Int)) × Int × Unit) (w : RW) => [some (.val (flsD (List.map PyData.int script))), some (.own (row w)), some (.val (eB is_single0)), some (.val ((eT (eT eI)) covers_here49)), some (.val ((eT eI) A109.1)), some (.val (eC_Ground A109.2.1)), some (.val (eI A109.2.2.1)), none, none, none, none, none, none, none, none, none])) (wCons (wCallI (rs := fun (A : Unit × (List (List Int)) × Unit) => [Rv.sv (.val ((eT (eT eI)) A.2.1))]) (row := row) (wCons (wPlc0 1) (wCons (wVar 3 (eT (eT eI)) covers_here49) wNil)) (fun (A : Unit × (List (List Int)) × Unit) => tw_l_a_pit A.2.1)) (wCons (wMake (c := 0) (wCons (wVar 3 (eT (eT eI)) covers_here49) wNil) (fun (A : (List (List Int)) × Unit) => tw_Ground___init__ A.1)) (wCons (wBin (wInt 1) (wCallI (rs := fun (A : Unit × Int × Unit) => [Rv.sv (.val (eI A.2.1))]) (row := row) (wCons (wPlc0 1) (wCons (wInt 4) wNil)) (fun (A : Unit × Int × Unit) => cr_taken A.2.1)) (fun A B => opAdd A B)) wNil)))) (fun (A109 : (List Int) × (List (List Int)) × Int × Unit) => (nSeq (sParW (K := (fun (A110 : (List Int) × (List (List Int)) × Unit) (w : RW) => [some (.val (flsD (List.map PyData.int script))), some (.own (row w)), some (.val (eB is_single0)), some (.val ((eT (eT eI)) covers_here49)), some (.val ((eT eI) A109.1)), some (.val (eC_Ground A109.2.1)), some (.val (eI A109.2.2.1)), some (.own (.lst (List.map eI A110.1))), some (.own (.lst (List.map (eT eI) A110.2.1))), none, none, none, none, none, none, none])) (wCons (wLst (e := eI) (f := (fun (A : Unit) => ([] : (List Int)))) wNil) (wCons (wLst (e := (eT eI)) (f := (fun (A : Unit) => ([] : (List (List Int))))) wNil) wNil))) (fun (A110 : (List Int) × (List (List Int)) × Unit) => (nSeq (sForW (R1 := (fun (w : RW) => [some (.val (flsD (List.map PyData.int script))), some (.own (row w)), some (.val (eB is_single0)), some (.val ((eT (eT eI)) covers_here49)), some (.val ((eT eI) A109.1)), some (.val (eC_Ground A109.2.1)), some (.val (eI A109.2.2.1)), some (.own (.lst (List.map eI A110.1))), some (.own (.lst (List.map (eT eI) A110.2.1))), none, none, none, none, none, none, none])) (K0 := (fun (s111 : ((List Int) × (List (List Int)))) (w : RW) => [some (.val (flsD (List.map PyData.int script))), some (.own (row w)), some (.val (eB is_single0)), some (.val ((eT (eT eI)) covers_here49)), some (.val ((eT eI) A109.1)), some (.val (eC_Ground A109.2.1)), some (.val (eI A109.2.2.1)), some (.own (.lst (List.map eI s111.1))), some (.own (.lst (List.map (eT eI) s111.2))), none, none, none, none, none, none, none])) (Kb := (fun (turn112 : Int) (s111 : ((List Int) × (List (List Int)))) (w : RW) => [some (.val (flsD (List.map PyData.int script))), some (.own (row w)), some (.val (eB is_single0)), some (.val ((eT (eT eI)) covers_here49)), some (.val ((eT eI) A109.1)), some (.val (eC_Ground A109.2.1)), some (.val (eI A109.2.2.1)), some (.own (.lst (List.map eI s111.1))), some (.own (.lst (List.map (eT eI) s111.2))), some (.val (eI turn112)), none, none, none, none, none, none])) (A110.1, A110.2.1) (wRng1 (v := fun (A : Int × Unit) => A.1) (wCons (wCall (wCons (wVar 4 (eT eI) A109.1) wNil) (fun (A : (List Int) × Unit) => (opLenT (e := eI)) A.1)) wNil)) (fun (turn112 : Int) (s111 : ((List Int) × (List (List Int)))) => (sKillK (sSeqK (sAsg (K := (fun (some113 : (List (Int × Int))) (w : RW) => [some (.val (flsD (List.map PyData.int script))), some (.own (row w)), some (.val (eB is_single0)), some (.val ((eT (eT eI)) covers_here49)), some (.val ((eT eI) A109.1)), some (.val (eC_Ground A109.2.1)), some (.val (eI A109.2.2.1)), some (.own (.lst (List.map eI s111.1))), some (.own (.lst (List.map (eT eI) s111.2))), some (.val (eI turn112)), some (.own (.lst (List.map (eP eI eI) some113))), none, none, none, none, none])) (wLst (e := (eP eI eI)) (f := (fun (A : Unit) => ([] : (List (Int × Int))))) wNil)) (fun (some113 : (List (Int × Int))) => (sSeqK (sForW (R1 := (fun (w : RW) => [some (.val (flsD (List.map PyData.int script))), some (.own (row w)), some (.val (eB is_single0)), some (.val ((eT (eT eI)) covers_here49)), some (.val ((eT eI) A109.1)), some (.val (eC_Ground A109.2.1)), some (.val (eI A109.2.2.1)), some (.own (.lst (List.map eI s111.1))), some (.own (.lst (List.map (eT eI) s111.2))), some (.val (eI turn112)), some (.own (.lst (List.map (eP eI eI) some113))), none, none, none, none, none])) (K0 := (fun (s127 : (List (Int × Int))) (w : RW) => [some (.val (flsD (List.map PyData.int script))), some (.own (row w)), some (.val (eB is_single0)), some (.val ((eT (eT eI)) covers_here49)), some (.val ((eT eI) A109.1)), some (.val (eC_Ground A109.2.1)), some (.val (eI A109.2.2.1)), some (.own (.lst (List.map eI s111.1))), some (.own (.lst (List.map (eT eI) s111.2))), some (.val (eI turn112)), some (.own (.lst (List.map (eP eI eI) s127))), none, none, none, none, none])) (Kb := (fun (block128 : Int) (s127 : (List (Int × Int))) (w : RW) => [some (.val (flsD (List.map PyData.int script))), some (.own (row w)), some (.val (eB is_single0)), some (.val ((eT (eT eI)) covers_here49)), some (.val ((eT eI) A109.1)), some (.val (eC_Ground A109.2.1)), some (.val (eI A109.2.2.1)), some (.own (.lst (List.map eI s111.1))), some (.own (.lst (List.map (eT eI) s111.2))), some (.val (eI turn112)), some (.own (.lst (List.map (eP eI eI) s127))), some (.val (eI block128)), none, none, none, none])) some113 (wSeq (e := eI) (l := fun A => A) (wCallN (wCons (wVar 3 (eT (eT eI)) covers_here49) (wCons (wVar 4 (eT eI) A109.1) (wCons (wPlc 7 (.lst (List.map eI s111.1))) wNil))) (fun (A : (List (List Int)) × (List Int) × Unit × Unit) => tw_l_next A.1 A.2.1 s111.1) nlL)) (fun (block128 : Int) (s127 : (List (Int × Int))) => (sKillK (sReK (ks := [11]) (K' := (fun (s127 : (List (Int × Int))) (w : RW) => [some (.val (flsD (List.map PyData.int script))), some (.own (row w)), some (.val (eB is_single0)), some (.val ((eT (eT eI)) covers_here49)), some (.val ((eT eI) A109.1)), some (.val (eC_Ground A109.2.1)), some (.val (eI A109.2.2.1)), some (.own (.lst (List.map eI s111.1))), some (.own (.lst (List.map (eT eI) s111.2))), some (.val (eI turn112)), some (.own (.lst (List.map (eP eI eI) s127))), none, none, none, none, none])) (fun (some141 : List (Int × Int)) => some141) (sMut (e := (eP eI eI)) (l := s127) (R2 := (fun (w : RW) => [some (.val (flsD (List.map PyData.int script))), some (.own (row w)), some (.val (eB is_single0)), some (.val ((eT (eT eI)) covers_here49)), some (.val ((eT eI) A109.1)), some (.val (eC_Ground A109.2.1)), some (.val (eI A109.2.2.1)), some (.own (.lst (List.map eI s111.1))), some (.own (.lst (List.map (eT eI) s111.2))), some (.val (eI turn112)), some (.own (.lst (List.map (eP eI eI) s127))), some (.val (eI block128)), none, none, none, none])) (K := (fun (some141 : List (Int × Int)) (w : RW) => [some (.val (flsD (List.map PyData.int script))), some (.own (row w)), some (.val (eB is_single0)), some (.val ((eT (eT eI)) covers_here49)), some (.val ((eT eI) A109.1)), some (.val (eC_Ground A109.2.1)), some (.val (eI A109.2.2.1)), some (.own (.lst (List.map eI s111.1))), some (.own (.lst (List.map (eT eI) s111.2))), some (.val (eI turn112)), some (.own (.lst (List.map (eP eI eI) some141))), some (.val (eI block128)), none, none, none, none])) (wCons (wTup (e := (eP eI eI)) (f := (fun (A : Int × Int × Unit) => (A.1, A.2.1))) (wCons (wBin (wInt 0) (wCallV (wCons (wVar 3 (eT (eT eI)) covers_here49) (wCons (wVar 4 (eT eI) A109.1) (wCons (wVar 11 eI block128) wNil))) (fun (A : (List (List Int)) × (List Int) × Int × Unit) => tw_l_height 12 A.1 A.2.1 A.2.2.1)) (fun A B => opSub A B)) (wCons (wVar 11 eI block128) wNil)) (fun _ => rfl)) wNil) (fun (A : (Int × Int) × Unit) Q q => f_app (e := (eP eI eI)) A.1 Q q)))))) (fun (v142 : (List (Int × Int))) => (sSeqK (sAsg (K := (fun (lot144 : (List Int)) (w : RW) => [some (.val (flsD (List.map PyData.int script))), some (.own (row w)), some (.val (eB is_single0)), some (.val ((eT (eT eI)) covers_here49)), some (.val ((eT eI) A109.1)), some (.val (eC_Ground A109.2.1)), some (.val (eI A109.2.2.1)), some (.own (.lst (List.map eI s111.1))), some (.own (.lst (List.map (eT eI) s111.2))), some (.val (eI turn112)), some (.own (.lst (List.map (eP eI eI) v142))), none, some (.own (.lst (List.map eI lot144))), none, none, none])) (wCall (wCons (wMap (R0 := (fun (w : RW) => [some (.val (flsD (List.map PyData.int script))), some (.own (row w)), some (.val (eB is_single0)), some (.val ((eT (eT eI)) covers_here49)), some (.val ((eT eI) A109.1)), some (.val (eC_Ground A109.2.1)), some (.val (eI A109.2.2.1)), some (.own (.lst (List.map eI s111.1))), some (.own (.lst (List.map (eT eI) s111.2))), some (.val (eI turn112)), some (.own (.lst (List.map (eP eI eI) v142))), none, none, none, none, none])) (Rb := (fun (p143 : (Int × Int)) (w : RW) => [some (.val (flsD (List.map PyData.int script))), some (.own (row w)), some (.val (eB is_single0)), some (.val ((eT (eT eI)) covers_here49)), some (.val ((eT eI) A109.1)), some (.val (eC_Ground A109.2.1)), some (.val (eI A109.2.2.1)), some (.own (.lst (List.map eI s111.1))), some (.own (.lst (List.map (eT eI) s111.2))), some (.val (eI turn112)), some (.own (.lst (List.map (eP eI eI) v142))), some (.val (eI p143.2)), none, none, none, some (.val (eI p143.1))])) (Rc := (fun (p143 : (Int × Int)) (w : RW) => [some (.val (flsD (List.map PyData.int script))), some (.own (row w)), some (.val (eB is_single0)), some (.val ((eT (eT eI)) covers_here49)), some (.val ((eT eI) A109.1)), some (.val (eC_Ground A109.2.1)), some (.val (eI A109.2.2.1)), some (.own (.lst (List.map eI s111.1))), some (.own (.lst (List.map (eT eI) s111.2))), some (.val (eI turn112)), some (.own (.lst (List.map (eP eI eI) v142))), some (.val (eI p143.2)), none, none, none, some (.val (eI p143.1))])) (e' := eI) (v := fun p143 A => A) (wSeq (e := (eP eI eI)) (l := fun A => A) (wSl (wCall (wCons (wPlc 10 (.lst (List.map (eP eI eI) v142))) wNil) (fun (A : Unit × Unit) => (opSorted (e := (eP eI eI))) v142)) (fun A => opSlL (e := (eP eI eI)) none (some A109.2.2.1) A))) (fun p143 => (wVar 11 eI p143.2))) wNil) (fun (A : (List Int) × Unit) => (opSorted (e := eI)) A.1))) (fun (lot144 : (List Int)) => (sSeqK (sAsg (K := (fun (dug145 : (List Int)) (w : RW) => [some (.val (flsD (List.map PyData.int script))), some (.own (row w)), some (.val (eB is_single0)), some (.val ((eT (eT eI)) covers_here49)), some (.val ((eT eI) A109.1)), some (.val (eC_Ground A109.2.1)), some (.val (eI A109.2.2.1)), some (.own (.lst (List.map eI dug145))), some (.own (.lst (List.map (eT eI) s111.2))), some (.val (eI turn112)), some (.own (.lst (List.map (eP eI eI) v142))), none, some (.own (.lst (List.map eI lot144))), none, none, none])) (wBin (wPlc 7 (.lst (List.map eI s111.1))) (wPlc 12 (.lst (List.map eI lot144))) (fun A B => (opCatL (e := eI)) s111.1 lot144))) (fun (dug145 : (List Int)) => (sReK (ks := [9, 10, 11, 12]) (K' := (fun (s111 : ((List Int) × (List (List Int)))) (w : RW) => [some (.val (flsD (List.map PyData.int script))), some (.own (row w)), some (.val (eB is_single0)), some (.val ((eT (eT eI)) covers_here49)), some (.val ((eT eI) A109.1)), some (.val (eC_Ground A109.2.1)), some (.val (eI A109.2.2.1)), some (.own (.lst (List.map eI s111.1))), some (.own (.lst (List.map (eT eI) s111.2))), none, none, none, none, none, none, none])) (fun (due146 : (List (List Int))) => (dug145, due146)) (sAsg (K := (fun (due146 : (List (List Int))) (w : RW) => [some (.val (flsD (List.map PyData.int script))), some (.own (row w)), some (.val (eB is_single0)), some (.val ((eT (eT eI)) covers_here49)), some (.val ((eT eI) A109.1)), some (.val (eC_Ground A109.2.1)), some (.val (eI A109.2.2.1)), some (.own (.lst (List.map eI dug145))), some (.own (.lst (List.map (eT eI) due146))), some (.val (eI turn112)), some (.own (.lst (List.map (eP eI eI) v142))), none, some (.own (.lst (List.map eI lot144))), none, none, none])) (wBin (wPlc 8 (.lst (List.map (eT eI) s111.2))) (wIf2 (wTb (wBin (wPlc 12 (.lst (List.map eI lot144))) (wLst (e := eI) (f := (fun (A : Unit) => ([] : (List Int)))) wNil) (fun A B => (opNe (e := (eL eI))) lot144 B))) (wLst (e := (eT eI)) (f := (fun (A : (List Int) × Unit) => [A.1])) (wCons (wCall (wCons (wPlc 12 (.lst (List.map eI lot144))) wNil) (fun (A : Unit × Unit) => (opTupL (e := eI)) lot144)) wNil)) (wLst (e := (eT eI)) (f := (fun (A : Unit) => ([] : (List (List Int))))) wNil)) (fun A B => (opCatL (e := (eT eI))) s111.2 B))))))))))))))) (fun (v147 : ((List Int) × (List (List Int)))) => (nSeq (sAsg (K := (fun (value225 : (List (List Int))) (w : RW) => [some (.val (flsD (List.map PyData.int script))), some (.own (row w)), some (.val (eB is_single0)), some (.val ((eT (eT eI)) covers_here49)), some (.val ((eT eI) A109.1)), some (.val (eC_Ground A109.2.1)), some (.val (eI A109.2.2.1)), some (.own (.lst (List.map eI v147.1))), some (.own (.lst (List.map (eT eI) v147.2))), none, none, none, none, some (.val ((eT (eT eI)) value225)), none, none])) (wCallV (wCons (wVar 5 eC_Ground A109.2.1) (wCons (wVar 4 (eT eI) A109.1) (wCons (wVar 6 eI A109.2.2.1) wNil))) (fun (A : (List (List Int)) × (List Int) × Int × Unit) => tw_highest_first A.1 A.2.1 A.2.2.1))) (fun (value225 : (List (List Int))) => (nSeq (sAsg (K := (fun (least255 : Int) (w : RW) => [some (.val (flsD (List.map PyData.int script))), some (.own (row w)), some (.val (eB is_single0)), some (.val ((eT (eT eI)) covers_here49)), some (.val ((eT eI) A109.1)), some (.val (eC_Ground A109.2.1)), some (.val (eI A109.2.2.1)), some (.own (.lst (List.map eI v147.1))), some (.own (.lst (List.map (eT eI) v147.2))), none, none, none, none, some (.val ((eT (eT eI)) value225)), some (.val (eI least255)), none])) (wCallV (wCons (wVar 5 eC_Ground A109.2.1) (wCons (wVar 4 (eT eI) A109.1) (wCons (wVar 6 eI A109.2.2.1) wNil))) (fun (A : (List (List Int)) × (List Int) × Int × Unit) => tw_fewest_rounds A.1 A.2.1 A.2.2.1))) (fun (least255 : Int) => (nIfRet (wTOr (wTb (wBin (wVar 13 (eT (eT eI)) value225) (wCall (wCons (wPlc 8 (.lst (List.map (eT eI) v147.2))) wNil) (fun (A : Unit × Unit) => (opTupL (e := (eT eI))) v147.2)) (fun A B => (opNe (e := (eT (eT eI)))) A B))) (wTb (wBin (wCallV (wCons (wVar 5 eC_Ground A109.2.1) (wCons (wVar 4 (eT eI) A109.1) (wCons (wVar 6 eI A109.2.2.1) (wCons (wVar 13 (eT (eT eI)) value225) wNil)))) (fun (A : (List (List Int)) × (List Int) × Int × (List (List Int)) × Unit) => tw_round_count A.1 A.2.1 A.2.2.1 A.2.2.2.1)) (wSome (wCall (wCons (wPlc 8 (.lst (List.map (eT eI) v147.2))) wNil) (fun (A : Unit × Unit) => (opLenL (e := (eT eI))) v147.2))) (fun A B => (opNe (e := (eO eI))) A B)))) (fRet (v := fun A => A) (wBl false)) sPassW (fun _ => (nIfRet (wTb (wBin (wVar 14 eI least255) (wCall (wCons (wPlc 8 (.lst (List.map (eT eI) v147.2))) wNil) (fun (A : Unit × Unit) => (opLenL (e := (eT eI))) v147.2)) (fun A B => opGtI A B))) (fRet (v := fun A => A) (wBl false)) sPassW (fun _ => (nF (fRet (v := fun A => A) (wOr2 (wNot (wVar 2 eB is_single0)) (wBin (wVar 14 eI least255) (wCall (wCons (wPlc 8 (.lst (List.map (eT eI) v147.2))) wNil) (fun (A : Unit × Unit) => (opLenL (e := (eT eI))) v147.2)) (fun A B => (opEq (e := eI)) A B)))))))))))))))))))))))))
  try dsimp only [retW, ifW, andW, orW] at h
  unfold t_law
  try dsimp only [retW, ifW, andW, orW]
  exact crLaw (nl := 16) (fun (w : RW) => [some (.val (flsD (List.map PyData.int script))), none, none, none, none, none, none, none, none, none, none, none, none, none, none, none]) h
end Lw

namespace Lw
open PySem Pv Tv Ma
theorem cut_sub {l : List Int} {a b : Option Int} : (cutL l a b).Sublist l := (List.take_sublist _ _).trans (List.drop_sublist _ _)
def gcS (goals : List Int) (j : Nat) : Lt := (rangeL 0 j).filter fun x => decide (goals.getD x.toNat 0 = (j : Int))
theorem sp_l_single {Q : Cv → Prop} (q : ∀ c, Vcv c → 1 ≤ c.length → c.length ≤ 7 → SingleC c → Q c) : t_l_single Q := by
  unfold t_l_single
  refine takenW_ok (by decide) (by decide) fun r r0 r1 => ?_
  simp only [retW]
  obtain ⟨n, hn⟩ : ∃ n : Nat, 1 + r = n := ⟨(1 + r).toNat, by omega⟩
  rw [hn]
  have n7 : 1 ≤ n ∧ n ≤ 7 := by omega
  refine rangeW_nat (by omega) (mapW_any (fun _ _ => True) (by rw [rangeL_len]; omega) (fun x hx Q q => ?_) fun goals gl _ => ?_)
  · have := mem_rangeL.mp hx
    exact takenW_ok (by omega) (by omega) fun r r0 r1 => q _ trivial
  rw [rangeL_len] at gl
  refine rangeW_nat (by omega) (forW_inv (fun i s => s = (List.range i).map (gcS goals) ∧ Vcv s) 0 ⟨rfl, Vcv.nil⟩ (fun i z s hi e Q q => ?_) (fun s e => ?_))
  · obtain ⟨il, rfl⟩ := rangeL_get' hi
    simp only [Int.zero_add, Nat.zero_add] at *
    obtain ⟨e, hv⟩ := e
    have sl : s.length = i := by rw [e, List.length_map, List.length_range]
    refine rangeW_nat (by omega) (compW_f (fun x => decide (goals.getD x.toNat 0 = (i : Int))) (by rw [rangeL_len]; omega) (fun x hx Q q => ?_) (fun _ _ Q q => q) ?_)
    · have hx := mem_rangeR.mp hx
      have xl : x.toNat < goals.length := by omega
      refine ixW_ok (x := goals.getD x.toNat 0) hx.1 ?_ q
      rw [List.getD_eq_getElem?_getD, List.getElem?_eq_getElem xl]; rfl
    · have lg : Lot i (gcS goals i) := Lot.range.sub List.filter_sublist
      refine appW_ok (by omega) (q _ ⟨?_, hv.snoc (by rw [sl]; exact lg.2) lg.1⟩)
      rw [List.range_succ, List.map_append, e]; rfl
  · simp only [Nat.zero_add] at e
    rw [rangeL_len] at e
    obtain ⟨e, hv⟩ := e
    have sl : s.length = n := by rw [e, List.length_map, List.length_range]
    have at_ : ∀ b o : Int, 0 ≤ o → b ∈ atC s o → goals.getD b.toNat 0 = o := fun b o o0 hb => by
      unfold atC at hb
      rw [e, List.getD_eq_getElem?_getD, List.getElem?_map] at hb
      by_cases z : o.toNat < n
      · rw [List.getElem?_range z] at hb
        have hb : b ∈ gcS goals o.toNat := hb
        have := of_decide_eq_true (List.mem_filter.mp hb).2
        omega
      · rw [List.getElem?_eq_none (by simp; omega)] at hb
        simp at hb
    exact q s hv (by omega) (by omega) fun b o o' h1 h2 o0 o0' => by rw [← at_ b o o0 h1, ← at_ b o' o0' h2]
theorem sp_covers {most : Int} {Q : Cv → Prop} (h0 : 0 < most) (h1 : most ≤ 100) (q : ∀ c, Vcv c → 1 ≤ c.length → (c.length : Int) ≤ most → Q c) : t_l_covers most Q := by
  unfold t_l_covers
  refine takenW_ok (by decide) (by decide) fun way w1 w2 => takenW_ok h0 (by omega) fun r r1 r2 => ?_
  simp only [retW]
  refine rangeW_ok (by omega) (by omega) (forW_inv (fun k c => c.length = k ∧ Vcv c) 0 ⟨rfl, Vcv.nil⟩ ?_ fun c hc => ?_)
  · rintro i x c hx ⟨hl, hv⟩ Q q
    obtain ⟨hi, rfl⟩ := rangeL_get' hx
    simp only [Int.zero_add, Nat.zero_add] at *
    refine rangeW_ok (by omega) (by omega) ?_
    have lot : ∀ m : Lt, m.Sublist (rangeL 0 i) → Lot i m := fun m hm => Lot.range.sub hm
    refine compW_sub (by rw [rangeL_len]; omega) (fun x _ Q q => takenW_ok (by decide) (by decide) fun _ _ _ => q _) (fun _ _ Q q => q) fun m hm => ?_
    have hm : Lot i m := lot m (by simpa using hm)
    refine ifW_inv (Lot i) (fun _ Q q => q _ Lot.nil) (fun _ Q q => q _ hm) fun m hm => ?_
    refine ifW_inv (Lot i) (fun _ Q q => rgW_ok (by omega) (by omega) (q _ (lot _ ?_))) (fun _ Q q => q _ hm) fun m hm => ?_
    · exact cut_sub
    refine ifW_inv (Lot i) (fun _ Q q => rangeW_ok (by omega) (by omega) (compW_f (fun x => decide (2 * x < 1 + r) && decide (1 + r ≤ 2 * i)) (by rw [rangeL_len]; omega) (fun x _ Q q => mulW_l (by decide) (by decide) ?_) (fun _ _ Q q => q) (q _ (lot _ ?_)))) (fun _ Q q => q _ hm) fun m hm => ?_
    · exact andW_ok _ _ (fun Q q => q) (fun _ Q q => mulW_l (by decide) (by decide) q) q
    · exact List.filter_sublist
    refine ifW_inv (Lot i) (fun _ Q q => compW_f (fun x => decide ((i : Int) - x < 3)) (by have := asc_len hm; omega) (fun x _ Q q => q) (fun _ _ Q q => q) (q _ (hm.sub List.filter_sublist))) (fun _ Q q => q _ hm) fun m hm => ?_
    refine appW_ok (by omega) (q _ ⟨by simp [hl], hv.snoc (by rw [hl]; exact hm.2) hm.1⟩)
  · obtain ⟨hl, hv⟩ := hc
    rw [rangeL_len] at hl
    exact q c hv (by omega) (by omega)
theorem sp_l_lots {n : Nat} {Q : List Lt → Prop} (h2 : n ≤ 10) (q : Q (lotsL n)) : t_l_lots (n : Int) Q := by
  unfold t_l_lots
  simp only [retW]
  refine rangeW_nat (by omega) ?_
  refine forW_inv (fun k f => f = rawL k) 0 rfl ?_ ?_
  · rintro i x f hx rfl Q q
    obtain ⟨hi, rfl⟩ := rangeL_get' hx
    simp only [Int.zero_add, Nat.zero_add] at *
    have hlen := rawL_small (n := i) (by omega)
    refine mapW_ok (fun l => l ++ [(i : Int)]) (by omega) (fun l hl Q q => ?_) ?_
    · have := asc_len (mem_rawL.mp hl)
      exact catW_ok (by simp; omega) q
    · exact catW_ok (by simp; omega) (q _ rfl)
  · rintro f rfl
    rw [rangeL_len, Nat.zero_add]
    have hlen := rawL_small h2
    refine mapW_ok szd (by omega) (fun _ _ Q q => q) ⟨srtOk_pair _, ?_⟩
    refine mapW_ok (fun p => p.2) (by rw [(sortB_perm _).length_eq]; simp; omega) (fun _ _ Q q => q) ?_
    rw [sortP_srtS]
    exact q
theorem sp_l_is_pit {c : Cv} {l : Lt} {Q : Bool → Prop} (hv : Vcv c) (h2 : c.length ≤ 10) (hl : Lot c.length l) (q : Q (isPitB c l)) : t_l_is_pit c l Q := by
  refine forR_all (fun b => (atC c b).all fun o => decide (o ∈ l)) false (fun b hb Q q => ?_) ?_
  · have h4 := hl.2 b hb
    have h5 : Lot b.toNat (atC c b) := ⟨hv.asc h4.1, fun x hx => by have := hv.at h4.1 hx; omega⟩
    have := asc_len h5
    refine ixW_ok h4.1 (atC_get h4.1 h4.2) (compW_f (fun o => !decide (o ∈ l)) (by omega) (fun _ _ Q q => q) (fun _ _ Q q => q) ?_)
    have e : (!decide ((atC c b).filter (fun o => !decide (o ∈ l)) = ([] : List Int))) = !((atC c b).all fun o => decide (o ∈ l)) := by
      congr 1
      rw [Bool.eq_iff_iff, decide_eq_true_eq, List.filter_eq_nil_iff, List.all_eq_true]
      simp
    rw [e]
    cases z : (atC c b).all fun o => decide (o ∈ l) with
    | true => rw [z] at q; simpa using q
    | false => rw [z] at q; simpa using q
  · show thenW _ (if isPitB c l = true then _ else _) Q
    cases z : isPitB c l with
    | true => rw [z] at q; exact q
    | false => rw [z] at q; exact q
theorem sp_l_pits {c : Cv} {Q : List Lt → Prop} (hv : Vcv c) (h2 : c.length ≤ 10) (q : Q (pitsL c)) : t_l_pits c Q :=
  sp_l_lots h2 (compW_f (isPitB c) (by have := lotsL_small h2; omega) (fun l hl Q q => sp_l_is_pit hv h2 (mem_lotsL.mp hl) q) (fun _ _ Q q => q) q)
theorem sp_l_a_pit {c : Cv} {Q : Lt → Prop} (hv : Vcv c) (h2 : c.length ≤ 10) (q : ∀ p, Pit c p → Q p) : t_l_a_pit c Q := by
  unfold t_l_a_pit
  have pl := pitsL_len h2
  have pn := List.length_pos_iff.mpr (pitsL_ne c)
  refine sp_l_pits hv h2 (takenW_ok (by decide) (by decide) fun a a0 a1 => ifW_ok (fun _ => ?_) (fun _ => ?_))
  · exact ixW_last (List.getLast?_eq_some_getLast (pitsL_ne c)) (q _ (mem_pitsL.mp (List.getLast_mem _)))
  · refine takenW_ok (by omega) (by omega) fun i i0 i1 => ixW_ok i0 (List.getElem?_eq_getElem (by omega)) (q _ (mem_pitsL.mp (List.getElem_mem _)))
theorem sp_is_from {v a b : Int} {Q : Bool → Prop} (q : Q (decide (a ≤ v) && decide (v ≤ b))) : t_is_from v a b Q := q
theorem sp_rises {l : Lt} {Q : Bool → Prop} (hl : l.length ≤ 1000) (hp : l.Pairwise (· < ·)) (q : Q true) : t_rises l Q := by
  refine range2W_ok (by decide) (by decide) (by omega) (by omega) (mapW_ok (fun _ => true) (by rw [rangeL_len]; omega) (fun x hx Q q => ?_) ?_)
  · have hx := mem_rangeL.mp hx
    have h1 : (x - 1).toNat < l.length := by omega
    have h2 : x.toNat < l.length := by omega
    refine ixW_ok (by omega) (List.getElem?_eq_getElem h1) (ixW_ok (by omega) (List.getElem?_eq_getElem h2) ?_)
    have := List.pairwise_iff_getElem.mp hp _ _ h1 h2 (by omega)
    rw [decide_eq_true this]; exact q
  · have e : ((rangeL 1 ((l.length : Int) - 1).toNat).map fun _ => true).all id = true := by simp
    rw [e]; exact q
theorem sp_is_cover {l : Lt} {b : Int} {Q : Bool → Prop} (hl : l.length ≤ 1000) (h1 : ∀ x ∈ l, 0 ≤ x ∧ x < b) (hp : l.Pairwise (· < ·)) (q : Q true) : t_is_cover l b Q := by
  refine andW_ok true true (fun Q q => mapW_ok (fun _ => true) (by omega) (fun x hx Q q => ?_) ?_) (fun _ Q q => sp_rises hl hp q) q
  · have := h1 x hx
    refine sp_is_from ?_
    rw [decide_eq_true this.1, decide_eq_true (by omega)]; exact q
  · have e : (l.map fun _ => true).all id = true := by simp
    rw [e]; exact q
theorem sp_Ground {c : Cv} {Q : Cv → Prop} (hv : Vcv c) (h1 : 1 ≤ c.length) (h2 : c.length ≤ 10) (q : Q c) : t_Ground___init__ c Q := by
  refine ⟨by simp; omega, forW_unit (fun p hp Q q => ?_) q⟩
  obtain ⟨i, hi⟩ := List.getElem?_of_mem hp
  rw [enumL_get] at hi
  cases e : c[i]? with
  | none => rw [e] at hi; simp at hi
  | some l =>
    rw [e] at hi
    simp at hi
    subst hi
    have hb := hv i l e
    have hlen := (List.getElem?_eq_some_iff.mp e).1
    have : Lot i l := ⟨hb.2, hb.1⟩
    have := asc_len this
    exact sp_is_cover (l := l) (b := i) (by omega) hb.1 hb.2 ⟨rfl, q⟩
theorem sp_l_next {c : Cv} {p dug : Lt} {Q : Lt → Prop} (hv : Vcv c) (h2 : c.length ≤ 10) (hp : Pit c p) (q : Q (exts c p dug)) : t_l_next c p dug Q := by
  unfold t_l_next
  simp only [retW]
  have lp := asc_len hp.lot
  have te : ∀ b, (!decide (b ∈ dug) && (atC c b).all fun o => decide (o ∈ dug)) = (!decide (b ∈ dug) && decide (((atC c b).filter fun o => !decide (o ∈ dug)) = [])) := fun b => by
    congr 1
    rw [Bool.eq_iff_iff]
    simp [List.filter_eq_nil_iff]
  refine forW_inv (fun k s => s = (p.take k).filter fun b => !decide (b ∈ dug) && (atC c b).all fun o => decide (o ∈ dug)) 0 (by simp) (fun i b s hi e Q q => ?_) (fun s e => ?_)
  · simp only [Nat.zero_add] at e q
    have hb := hp.lot.2 b (List.mem_of_getElem? hi)
    have il := (List.getElem?_eq_some_iff.mp hi).1
    have al : (atC c b).length ≤ 10 := by
      have : Lot c.length (atC c b) := ⟨hv.asc hb.1, fun x hx => by have := hv.at hb.1 hx; omega⟩
      have := asc_len this
      omega
    have tk : (p.take (i + 1)) = p.take i ++ [b] := by rw [List.take_succ, hi]; rfl
    refine andW_ok (!decide (b ∈ dug)) (decide (((atC c b).filter fun o => !decide (o ∈ dug)) = [])) (fun Q q => q) (fun _ Q q => ixW_ok hb.1 (atC_get hb.1 hb.2) (compW_f (fun o => !decide (o ∈ dug)) (by omega) (fun _ _ Q q => q) (fun _ _ Q q => q) q)) ?_
    rw [← te b]
    have sl : s.length ≤ p.length := by rw [e]; exact Nat.le_trans (List.length_filter_le _ _) (by rw [List.length_take]; exact Nat.min_le_right _ _)
    refine ifW_ok (fun z => appW_ok (by omega) (q _ ?_)) (fun z => q _ ?_)
    · rw [tk, List.filter_append, e]
      simp only [List.filter_cons, z, if_true, List.filter_nil]
    · rw [tk, List.filter_append, e]
      simp only [List.filter_cons, z, Bool.false_eq_true, if_false, List.filter_nil, List.append_nil]
  · simp only [Nat.zero_add, List.take_length] at e
    rw [e]; exact q
theorem sp_l_height {c : Cv} {p : Lt} (hv : Vcv c) (h2 : c.length ≤ 10) (hp : Pit c p) : ∀ (t : Nat) (b : Int) (Q : Int → Prop), 0 ≤ b → b < c.length → (c.length : Int) ≤ t + b → Q (hg c p b) → t_l_height t c p b Q
  | 0, b, Q, b0, b1, ht, _ => by omega
  | t + 1, b, Q, b0, b1, ht, q => by
    have lp := asc_len hp.lot
    refine compW_f (fun o => decide (b ∈ atC c o)) (by omega) (fun o ho Q q => ?_) (fun _ _ Q q => q) ?_
    · have := hp.lot.2 o ho
      exact ixW_ok this.1 (atC_get this.1 this.2) q
    · have e : (p.filter fun o => decide (b ∈ atC c o)) = upsH c p b := rfl
      rw [e]
      rw [hg_eq hv h2 hp b0] at q
      have ul : (upsH c p b).length ≤ p.length := List.length_filter_le _ _
      refine ifW_ok (fun w => ?_) (fun w => ?_)
      · have ne : upsH c p b ≠ [] := by simpa using w
        rw [if_neg ne] at q
        refine mapW_ok (hg c p) (by omega) (fun o ho Q q => ?_) (maxW_ok (fun z => ne (List.map_eq_nil_iff.mp z)) q)
        have := ups_gt hv hp ho
        exact sp_l_height hv h2 hp t o Q (by omega) (by omega) (by omega) q
      · have ne : upsH c p b = [] := by simpa using w
        rw [if_pos ne] at q
        exact q
theorem sp_len {c : Cv} {Q : Int → Prop} (h2 : c.length ≤ 10) (q : Q (c.length : Int)) : t_Ground___len__ c fun n => lenOk n = true ∧ Q n := ⟨lenOk_nat _ (by omega), q⟩
theorem sp_is_block {c : Cv} {x : Int} {Q : Bool → Prop} (h2 : c.length ≤ 10) (q : Q (decide (0 ≤ x) && decide (x ≤ c.length - 1))) : t_is_block c x Q := sp_len h2 q
theorem sp_is_lot {c : Cv} {l : Lt} {Q : Bool → Prop} (h2 : c.length ≤ 10) (hl : Lot c.length l) (q : Q true) : t_is_lot c l Q := by
  have hlen := asc_len hl
  refine andW_ok true true (fun Q q => mapW_ok (fun _ => true) (by omega) (fun x hx Q q => ?_) ?_) (fun _ Q q => sp_rises (by omega) hl.1 q) q
  · have := hl.2 x hx
    refine sp_is_block h2 ?_
    rw [decide_eq_true this.1, decide_eq_true (by omega)]; exact q
  · have e : (l.map fun _ => true).all id = true := by simp
    rw [e]; exact q
theorem sp_need_lot {c : Cv} {l : Lt} {Q : Unit → Prop} (h2 : c.length ≤ 10) (hl : Lot c.length l) (q : Q ()) : t_need_lot c l Q := sp_is_lot h2 hl (by simpa using q)
theorem sp_is_full {c : Cv} {l : Lt} {Q : Bool → Prop} (hv : Vcv c) (h2 : c.length ≤ 10) (hl : Lot c.length l) (q : Q (isPitB c l)) : t_is_full c l Q := by
  refine comp2W_all (fun b => atC c b) (fun _ o => decide (o ∈ l)) (fun b hb Q q => ?_) (fun b hb o ho Q q => q) ?_ ?_
  · have := hl.2 b hb
    exact ixW_ok this.1 (atC_get this.1 this.2) q
  · have h3 : ∀ b ∈ l, (atC c b).length ≤ 10 := fun b hb => by
      have h4 := hl.2 b hb
      have h5 : Lot b.toNat (atC c b) := ⟨hv.asc h4.1, fun x hx => by have := hv.at h4.1 hx; omega⟩
      have := asc_len h5
      omega
    have h6 := asc_len hl
    have : ∀ m : Lt, (∀ b ∈ m, (atC c b).length ≤ 10) → (m.flatMap fun x => (atC c x).map fun o => decide (o ∈ l)).length ≤ 10 * m.length := by
      intro m
      induction m with
      | nil => intro _; simp
      | cons x xs ih =>
        intro hm
        have h7 := hm x (by simp)
        have h8 := ih fun b hb => hm b (by simp [hb])
        simp at h8 ⊢
        omega
    have := this l h3
    omega
  · have e : ((l.flatMap fun x => (atC c x).map fun o => decide (o ∈ l)).all id) = isPitB c l := by
      simp only [isPitB, List.all_flatMap, List.all_map]; rfl
    rw [e]; exact q
theorem sp_need_pit {c : Cv} {p : Lt} {Q : Unit → Prop} (hv : Vcv c) (h2 : c.length ≤ 10) (hp : Pit c p) (q : Q ()) : t_need_pit c p Q := sp_need_lot h2 hp.lot (sp_is_full hv h2 hp.lot (by rw [isPitB_iff.mpr hp.full]; simpa using q))
theorem sp_need_machines {k : Int} {Q : Unit → Prop} (h1 : 1 ≤ k) (h2 : k ≤ 4) (q : Q ()) : t_need_machines k Q := by
  unfold t_need_machines
  refine sp_is_from ?_
  rw [if_neg (by simp; omega)]; exact q
theorem sp_heights_in {c : Cv} {p : Lt} {Q : List (Int × Int) → Prop} (hv : Vcv c) (h2 : c.length ≤ 10) (hp : Pit c p) (q : ∀ m, (∀ b ∈ p, getM m b = some (hg c p b)) → Q m) : t_heights_in c p Q := by
  unfold t_heights_in
  simp only [retW]
  have lp := asc_len hp.lot
  refine forW_inv (fun i (s : List (Int × Int)) => (∀ b ∈ p.reverse.take i, getM s b = some (hg c p b)) ∧ s.length ≤ i) 0 ⟨by simp, by simp⟩ (fun i b s hi e Q q => ?_) (fun s e => q s fun b hb => ?_)
  · simp only [Nat.zero_add] at e q
    obtain ⟨e1, e2⟩ := e
    have il := (List.getElem?_eq_some_iff.mp hi).1
    rw [List.length_reverse] at il
    have hb : b ∈ p := List.mem_reverse.mp (List.mem_of_getElem? hi)
    have b0 := hp.lot.2 b hb
    have tk : p.reverse.take (i + 1) = p.reverse.take i ++ [b] := by rw [List.take_succ, hi]; rfl
    have late : ∀ o ∈ upsH c p b, o ∈ p.reverse.take i := fun o ho => by
      have gt := (ups_gt hv hp ho).1
      have om := List.mem_reverse.mpr (ups_mem.mp ho).1
      obtain ⟨j, hj⟩ := List.getElem?_of_mem om
      obtain ⟨jl, ej⟩ := List.getElem?_eq_some_iff.mp hj
      have ji : j < i := Classical.byContradiction fun z => by
        have hr : p.reverse.Pairwise (fun a b => b < a) := List.pairwise_reverse.mpr hp.lot.1
        obtain ⟨il', ei⟩ := List.getElem?_eq_some_iff.mp hi
        rcases Nat.lt_or_eq_of_le (Nat.le_of_not_lt z) with y | y
        · have := List.pairwise_iff_getElem.mp hr i j il' jl y
          rw [ei, ej] at this; omega
        · subst y
          rw [ei] at ej; omega
      exact List.mem_iff_getElem?.mpr ⟨j, by rw [List.getElem?_take_of_lt ji]; exact hj⟩
    refine compW_ok (fun o => decide (b ∈ atC c o)) (hg c p) (by omega) (fun o ho Q q => ?_) (fun o ho hd Q q => ?_) ?_
    · have := hp.lot.2 o ho
      exact ixW_ok this.1 (atC_get this.1 this.2) q
    · exact ⟨_, e1 o (late o (ups_mem.mpr ⟨ho, of_decide_eq_true hd⟩)), q⟩
    · have e : (p.filter fun o => decide (b ∈ atC c o)) = upsH c p b := rfl
      rw [e]
      have fin : s.length < 1000000 ∧ Q (putM s b (hg c p b)) := ⟨by omega, q _ ⟨fun x hx => ?_, by have := put_len3 s b (hg c p b); omega⟩⟩
      · have he := hg_eq hv h2 hp b0.1
        refine ifW_ok (fun w => ?_) (fun w => ?_)
        · have ne : (upsH c p b).map (hg c p) ≠ [] := by simpa using w
          refine maxW_ok ne ?_
          rw [if_neg fun z => ne (by rw [z]; rfl)] at he
          rw [← he]; exact fin
        · have ne : (upsH c p b).map (hg c p) = [] := by simpa using w
          rw [if_pos (List.map_eq_nil_iff.mp ne)] at he
          rw [← he]; exact fin
      · rw [tk] at hx
        rw [getM_put]
        by_cases z : x = b
        · rw [if_pos z, z]
        · rw [if_neg z]
          refine e1 x ?_
          rcases List.mem_append.mp hx with hx | hx
          · exact hx
          · exact absurd (List.mem_singleton.mp hx) z
  · simp only [Nat.zero_add] at e
    rw [List.take_of_length_le (Nat.le_refl _)] at e
    exact e.1 b (List.mem_reverse.mpr hb)
theorem sp_next_in {c : Cv} {p D : Lt} {Q : Lt → Prop} (hv : Vcv c) (h2 : c.length ≤ 10) (hp : Pit c p) (q : Q (exts c p D)) : t_next_in c p D Q := by
  unfold t_next_in
  have lp := asc_len hp.lot
  refine compW_f (fun b => !decide (b ∈ D)) (by omega) (fun _ _ Q q => q) (fun _ _ Q q => q) ?_
  have fl : (p.filter fun b => !decide (b ∈ D)).length ≤ p.length := List.length_filter_le _ _
  refine compW_f (fun b => (atC c b).all fun o => decide (o ∈ D)) (by omega) (fun b hb Q q => ?_) (fun _ _ Q q => q) ?_
  · have b0 := hp.lot.2 b (List.mem_filter.mp hb).1
    have al : (atC c b).length ≤ 10 := by
      have : Lot c.length (atC c b) := ⟨hv.asc b0.1, fun x hx => by have := hv.at b0.1 hx; omega⟩
      have := asc_len this
      omega
    exact ixW_ok b0.1 (atC_get b0.1 b0.2) (mapW_ok (fun o => decide (o ∈ D)) (by omega) (fun _ _ Q q => q) (by rw [List.all_map]; exact q))
  · have e : ((p.filter fun b => !decide (b ∈ D)).filter fun b => (atC c b).all fun o => decide (o ∈ D)) = exts c p D := by
      rw [List.filter_filter, exts]
      congr 1; funext b; exact Bool.and_comm _ _
    rw [e]; exact q
theorem sp_highest_first {c : Cv} {p : Lt} {k : Int} {Q : List Lt → Prop} (hv : Vcv c) (h2 : c.length ≤ 10) (hp : Pit c p) (hk : 1 ≤ k) (k4 : k ≤ 4) (q : Q (hlR c p k p.length [])) : t_highest_first c p k Q := by
  unfold t_highest_first
  have k0 : 0 ≤ k := by omega
  have lp := asc_len hp.lot
  refine sp_need_pit hv h2 hp (sp_need_machines hk k4 (sp_heights_in hv h2 hp fun m hm => ?_))
  simp only [retW]
  refine whileR_cps (fun n (s : Lt × List Lt) => n = p.length - s.1.length ∧ SubP c p s.1 ∧ s.2 ++ hlR c p k p.length s.1 = hlR c p k p.length [] ∧ s.2.length ≤ s.1.length) (fun s => decide ((s.1.length : Int) < (p.length : Int))) (fun m s _ Q q => q) (fun n s hi w Q q => ?_) (fun n s hi w => ?_) (m := p.length - ([] : Lt).length) ⟨rfl, nil_sub hp, rfl, by simp⟩ (by show p.length - 0 < fuW; unfold fuW; omega)
  · obtain ⟨D, R⟩ := s
    obtain ⟨e0, sb, e1, e2⟩ := hi
    simp only at e0 sb e1 e2
    have w : D.length < p.length := by have := of_decide_eq_true w; simp only at this; omega
    have ne := exts_ne hv hp sb w
    have pk := stH_pick hk hp ne
    obtain ⟨s3, l3, l1, lt, le⟩ := pick_st k0 hp sb pk
    obtain ⟨_, sL, _⟩ := (mem_picks k0).mp pk
    have el := exts_room hp sb
    refine sp_next_in hv h2 hp (mapW_ok (fun b => (-(hg c p b), b)) (show (exts c p D).length ≤ 16777216 by omega) (fun b hb Q q => ⟨_, hm b (exts_mem.mp hb).1, q⟩) ⟨srtOk_pair _, ?_⟩)
    dsimp only
    rw [cut_to k0]
    have tl : ((sortB (ltP ltI ltI) ((exts c p D).map fun b => (-(hg c p b), b))).take k.toNat).length ≤ 16777216 := by rw [List.length_take]; omega
    refine mapW_ok (fun x => x.2) tl (fun _ _ Q q => q) ⟨srtOk_ints _, ?_⟩
    show appW R (stH c p k D) _
    have ln : (stH c p k D).length ≤ 10 := by omega
    refine appW_ok (show R.length < 16777216 by omega) (ixW_last (x := stH c p k D) (by simp) (sizW_ok (by simp only [List.length_append, List.length_nil]; omega) ⟨srtOk_ints _, ?_⟩))
    rw [sort_joinL sb hp sL]
    refine q (p.length - (join D (stH c p k D)).length) _ (by omega) ⟨rfl, s3, ?_, by show (R ++ [stH c p k D]).length ≤ (join D (stH c p k D)).length; rw [List.length_append, List.length_singleton]; omega⟩
    rw [← e1]
    obtain ⟨n, hn⟩ : ∃ n, p.length = n + 1 := ⟨p.length - 1, by omega⟩
    have es : hlR c p k p.length D = stH c p k D :: hlR c p k n (join D (stH c p k D)) := by rw [hn, hlR, if_neg ne]
    rw [es, hlR_same hv hk hp n p.length _ s3 (by omega) (by omega)]
    show (R ++ [stH c p k D]) ++ _ = _
    simp
  · obtain ⟨D, R⟩ := s
    obtain ⟨e0, sb, e1, e2⟩ := hi
    simp only at e0 sb e1 e2
    have w : ¬ (D.length : Int) < (p.length : Int) := of_decide_eq_false w
    have sf := sub_full hp sb
    have z : hlR c p k p.length D = [] := by
      have : exts c p D = [] := (exts_end hv hp sb).mpr (by omega)
      cases hn : p.length with
      | zero => rfl
      | succ n => rw [hlR, if_pos this]
    rw [z, List.append_nil] at e1
    show Q R
    rw [e1]; exact q
theorem sp_fewest_rounds {c : Cv} {p : Lt} {k : Int} {Q : Int → Prop} (hv : Vcv c) (h2 : c.length ≤ 10) (hp : Pit c p) (hk : 1 ≤ k) (k4 : k ≤ 4) (q : Q (fewD c p k []).1) : t_fewest_rounds c p k Q := by
  unfold t_fewest_rounds
  exact sp_need_pit hv h2 hp (sp_need_machines hk k4 ⟨⟨⟨hv, h2⟩, hp, hk⟩, fun m hm hn => ⟨_, hm.get hn, q⟩⟩)
theorem sp_round_count {c : Cv} {p : Lt} {k : Int} {R : List Lt} {Q : Option Int → Prop} (hv : Vcv c) (h2 : c.length ≤ 10) (hp : Pit c p) (hk : 1 ≤ k) (k4 : k ≤ 4) (h : pth c p k [] R) (hw : (endp [] R).length = p.length) (q : Q (some (R.length : Int))) : t_round_count c p k R Q := by
  unfold t_round_count
  have k0 : 0 ≤ k := by omega
  have lp := asc_len hp.lot
  refine sp_need_pit hv h2 hp (sp_need_machines hk k4 ?_)
  simp only [retW]
  refine forR_inv (fun i s => s = endp [] (R.take i)) 0 rfl (fun i L s hi e Q q => ?_) (fun s e => ?_)
  · simp only [Nat.zero_add] at e q
    have tk : (R.take (i + 1)) = R.take i ++ [L] := by rw [List.take_succ, hi]; rfl
    have es : R = R.take i ++ L :: R.drop (i + 1) := by
      obtain ⟨il, ei⟩ := List.getElem?_eq_some_iff.mp hi
      rw [← ei, ← List.drop_eq_getElem_cons il, List.take_append_drop]
    rw [es] at h
    obtain ⟨h1, h2', _⟩ := pth_app.mp h
    rw [← e] at h2'
    have sb := (pth_sub k0 hp (nil_sub hp) h1).1
    rw [← e] at sb
    obtain ⟨n1, sL, lk⟩ := (mem_picks k0).mp h2'
    obtain ⟨s3, l3, l1, lt, le⟩ := pick_st k0 hp sb h2'
    have lot : Lot c.length L := ⟨hp.lot.1.sublist (sL.trans exts_sub), fun x hx => hp.lot.2 x (exts_mem.mp (sL.mem hx)).1⟩
    refine orW_ok false false (fun Q q => sp_is_lot h2 lot q) (fun _ Q q => by rw [decide_eq_true (show 1 ≤ (L.length : Int) by omega), decide_eq_true lk]; exact q) ?_
    rw [if_neg (by decide)]
    have ln := asc_len lot
    refine mapW_ok (fun b => decide (b ∈ exts c p s)) (by omega) (fun b _ Q q => sp_next_in hv h2 hp q) ?_
    have ea : ((L.map fun b => decide (b ∈ exts c p s)).all id) = true := by
      rw [List.all_map, List.all_eq_true]
      intro x hx
      exact decide_eq_true (sL.mem hx)
    rw [ea, if_neg (by decide)]
    refine sizW_ok (by simp only [List.length_append, List.length_nil]; omega) ⟨srtOk_ints _, ?_⟩
    rw [sort_joinL sb hp sL]
    refine q _ ?_
    rw [tk, endp_app, e]; rfl
  · simp only [Nat.zero_add, List.take_length] at e
    subst e
    have sb := (pth_sub k0 hp (nil_sub hp) h).1
    simp only [thenW]
    rw [if_pos (by simp [sub_eq hp sb hw])]
    exact q
theorem join_same {c : Cv} {p D L dug : Lt} (hp : Pit c p) (h : SubP c p D) (hL : L.Sublist (exts c p D)) (e : ∀ x, x ∈ dug ↔ x ∈ D) : ∀ x, x ∈ dug ++ L ↔ x ∈ join D L := fun x => by rw [List.mem_append, mem_join, e x]
theorem law_c {c : Cv} (sg : Bool) (hv : Vcv c) (h1 : 1 ≤ c.length) (h7 : c.length ≤ 7) (hs : sg = true → SingleC c) : (fun Q : Bool → Prop => t_l_a_pit c fun r286 => t_Ground___init__ c fun ground287 => takenW 4 fun r288 => retW ((r286 : (List Int)), (ground287 : (List (List Int))), ((1 + r288) : Int), ()) fun (A109 : (List Int) × (List (List Int)) × Int × Unit) => retW ((([] : (List Int)) : (List Int)), (([] : (List (List Int))) : (List (List Int))), ()) fun (A110 : (List Int) × (List (List Int)) × Unit) => rangeW (A109.1.length : Int) fun r285 => forW (fun (turn112 : Int) (s111 : ((List Int) × (List (List Int)))) Q => retW (([] : (List (Int × Int))) : (List (Int × Int))) fun some113 => t_l_next c A109.1 s111.1 fun r284 => forW (fun (block128 : Int) (s127 : (List (Int × Int))) Q => t_l_height 12 c A109.1 block128 fun r283 => appW s127 ((0 - r283), block128) fun some141 => Q some141) r284 some113 fun (v142 : (List (Int × Int))) => sortW (eP eI eI) (ltP ltI ltI) v142 fun r281 => mapW (cutL r281 none (some A109.2.2.1)) (fun (p143 : (Int × Int)) Q => Q p143.2) fun l280 => sortW eI ltI l280 fun lot144 => catW s111.1 lot144 fun dug145 => catW s111.2 (if (!decide (lot144 = ([] : (List Int)))) = true then [lot144] else ([] : (List (List Int)))) fun due146 => Q (dug145, due146)) r285 (A110.1, A110.2.1) fun (v147 : ((List Int) × (List (List Int)))) => t_highest_first A109.2.1 A109.1 A109.2.2.1 fun value225 => t_fewest_rounds A109.2.1 A109.1 A109.2.2.1 fun least255 => orW (fun Q => Q (!decide (value225 = v147.2))) (fun Q => t_round_count A109.2.1 A109.1 A109.2.2.1 value225 fun r275 => Q (!decide (r275 = (some (v147.2.length : Int))))) fun b274 => if b274 = true then Q false else if (decide ((v147.2.length : Int) < least255)) = true then Q false else Q ((!sg) || (decide (least255 = (v147.2.length : Int))))) fun r => r = true := by
  refine sp_l_a_pit hv (by omega) fun p hp => sp_Ground hv h1 (by omega) (takenW_ok (by decide) (by decide) fun r r0 r1 => ?_)
  simp only [retW]
  have lp := asc_len hp.lot
  generalize hk : 1 + r = k
  have k1 : 1 ≤ k := by omega
  have k4 : k ≤ 4 := by omega
  have k0 : 0 ≤ k := by omega
  refine rangeW_nat (by omega) (forW_inv (fun i (s : Lt × List Lt) => ∃ D, SubP c p D ∧ (∀ x, x ∈ s.1 ↔ x ∈ D) ∧ s.1.length = D.length ∧ s.2.length ≤ i ∧ s.2 ++ hlR c p k (p.length - i) D = hlR c p k p.length []) 0 ⟨[], nil_sub hp, fun x => Iff.rfl, rfl, by simp, by simp⟩ (fun i z s hi e Q q => ?_) (fun s e => ?_))
  · simp only [Nat.zero_add] at e q
    have il := (List.getElem?_eq_some_iff.mp hi).1
    rw [rangeL_len] at il
    obtain ⟨D, sb, mD, lD, dl, eq⟩ := e
    have ex : exts c p s.1 = exts c p D := exts_same mD
    refine sp_l_next hv (by omega) hp ?_
    rw [ex]
    have el := exts_room hp sb
    refine forW_inv (fun j t => t = ((exts c p D).take j).map fun b => (-(hg c p b), b)) 0 rfl (fun j b t hj e Q q => ?_) (fun t e => ?_)
    · simp only [Nat.zero_add] at e q
      have bp := (exts_mem.mp (List.mem_of_getElem? hj)).1
      have b0 := hp.lot.2 b bp
      have jl := (List.getElem?_eq_some_iff.mp hj).1
      refine sp_l_height hv (by omega) hp 12 b _ b0.1 b0.2 (by omega) (appW_ok (by rw [e, List.length_map, List.length_take]; omega) (q _ ?_))
      have tk : ((exts c p D).take (j + 1)) = (exts c p D).take j ++ [b] := by rw [List.take_succ, hj]; rfl
      rw [tk, List.map_append, e, show 0 - hg c p b = -(hg c p b) by omega]; rfl
    · simp only [Nat.zero_add, List.take_length] at e
      subst e
      refine ⟨srtOk_pair _, ?_⟩
      dsimp only
      rw [cut_to k0]
      have tl : ((sortB (ltP ltI ltI) ((exts c p D).map fun b => (-(hg c p b), b))).take k.toNat).length ≤ 16777216 := by rw [List.length_take]; omega
      refine mapW_ok (fun x => x.2) tl (fun _ _ Q q => q) ⟨srtOk_ints _, ?_⟩
      show catW s.1 (stH c p k D) _
      have ln := stH_len (c := c) (p := p) (k := k) k0 D
      have sf := sub_full hp sb
      refine catW_ok (by omega) (catW_ok (by split <;> simp <;> omega) ?_)
      show Q (s.1 ++ stH c p k D, s.2 ++ (if (!decide (stH c p k D = ([] : List Int))) = true then [stH c p k D] else []))
      obtain ⟨n, hn⟩ : ∃ n, p.length - i = n + 1 := ⟨p.length - i - 1, by omega⟩
      have hn2 : p.length - (i + 1) = n := by omega
      by_cases z : exts c p D = []
      · have e0 : stH c p k D = [] := by
          rw [z, List.length_nil, Nat.min_zero] at ln
          exact List.eq_nil_of_length_eq_zero ln
        rw [e0, if_neg (by decide), List.append_nil, List.append_nil]
        refine q _ ⟨D, sb, mD, lD, (by show s.2.length ≤ i + 1; omega), ?_⟩
        show s.2 ++ hlR c p k (p.length - (i + 1)) D = _
        rw [hn2, ← eq, hn, hlR, if_pos z]
        cases n with
        | zero => rfl
        | succ n => rw [hlR, if_pos z]
      · have pk := stH_pick k1 hp z
        obtain ⟨nl, sL, _⟩ := (mem_picks k0).mp pk
        obtain ⟨s3, l3, _⟩ := pick_st k0 hp sb pk
        rw [if_pos (by simp [nl])]
        refine q _ ⟨join D (stH c p k D), s3, join_same hp sb sL mD, (by show (s.1 ++ stH c p k D).length = _; rw [List.length_append]; omega), (by show (s.2 ++ [stH c p k D]).length ≤ i + 1; rw [List.length_append, List.length_singleton]; omega), ?_⟩
        show (s.2 ++ [stH c p k D]) ++ hlR c p k (p.length - (i + 1)) (join D (stH c p k D)) = _
        rw [hn2, ← eq, hn, hlR, if_neg z, List.append_assoc]; rfl
  · simp only [Nat.zero_add] at e
    rw [rangeL_len, Nat.sub_self] at e
    obtain ⟨D, sb, mD, lD, dl, eq⟩ := e
    have eq : s.2 = hlR c p k p.length [] := by
      have : hlR c p k 0 D = [] := rfl
      rw [this, List.append_nil] at eq
      exact eq
    obtain ⟨hp1, hw⟩ := hl_pth hv k1 hp p.length [] (nil_sub hp) (by simp)
    obtain ⟨f1, f2⟩ := hl_few hv (by omega) k1 hp
    refine sp_highest_first hv (by omega) hp k1 k4 (sp_fewest_rounds hv (by omega) hp k1 k4 ?_)
    rw [eq]
    refine orW_ok false false (fun Q q => by simpa using q) (fun _ Q q => sp_round_count hv (by omega) hp k1 k4 hp1 hw (by simpa using q)) ?_
    rw [if_neg (by decide), if_neg (by simp; omega)]
    cases sg with
    | false => rfl
    | true =>
      show (false || decide _) = true
      rw [f2 (hs rfl)]
      simp
theorem law_t : t_law fun r => r = true := by
  unfold t_law
  refine takenW_ok (by decide) (by decide) fun z z0 z1 => ?_
  simp only [retW]
  refine ifW_ok (fun w => ?_) (fun w => ?_)
  · exact sp_l_single fun c hv h1 h7 hs => law_c _ hv h1 h7 fun _ => hs
  · exact sp_covers (by decide) (by decide) fun c hv h1 hm => law_c _ hv h1 (by omega) fun y => by rw [w] at y; cases y
theorem law_true (ns : List Int) (h : ns.length ≤ 63) : ∃ o, c_law [.val (flsD (ns.map .int))] = some (.val (.bool true), o) := by
  obtain ⟨a, o, rfl, e⟩ := tw_law ns _ law_t
  exact ⟨o, e⟩
end Lw

namespace Lw
open PySem PySem.Spec PyProof.Rows L2 Pv
abbrev RO : PySem.W.OpenRow := PySem.W.OpenLaw.row PySem.Challenge.rw_pitlots_k34_whole_longest_chains_first
abbrev hk : PySem.W.Hook := He.hookX 6 fa fn [] [p_rest] (exK cs)
def ob (s : PySem.W.SharedT) : He.AlX := He.obsX 6 fa fn [] [p_rest] (exK cs) (HandSHeadRun.getT s)
theorem ob_eq (s : PySem.W.SharedT) : ob s = hk.obs s.abs := He.obsX_eq (HandSHeadRun.getT_eq s)
def loose : List PySem.Str := [("PitError" : PySem.Str), ("BadGround" : PySem.Str), ("BadLot" : PySem.Str), ("NotPit" : PySem.Str), ("BadCovers" : PySem.Str), ("BadMachines" : PySem.Str), ("MOST_BLOCKS" : PySem.Str), ("is_from" : PySem.Str), ("rises" : PySem.Str), ("is_cover" : PySem.Str), ("Ground" : PySem.Str), ("need_ground" : PySem.Str), ("is_block" : PySem.Str), ("is_lot" : PySem.Str), ("need_lot" : PySem.Str), ("is_full" : PySem.Str), ("need_pit" : PySem.Str), ("next_in" : PySem.Str), ("MOST_MACHINES" : PySem.Str), ("need_machines" : PySem.Str), ("picked" : PySem.Str), ("later_of" : PySem.Str), ("rest_rounds" : PySem.Str), ("fewest_rounds" : PySem.Str), ("round_count" : PySem.Str), ("heights_in" : PySem.Str), ("highest_first" : PySem.Str), ("_law_taken" : PySem.Str), ("_law_pick" : PySem.Str), ("_law_covers" : PySem.Str), ("_law_lots" : PySem.Str), ("_law_is_pit" : PySem.Str), ("_law_pits" : PySem.Str), ("_law_a_pit" : PySem.Str), ("_law_rows" : PySem.Str), ("_law_next" : PySem.Str), ("_law_single" : PySem.Str), ("_law_height" : PySem.Str)]
theorem run (w : World) : HandSHeadRun.RunEq RO (PySem.W.view RO.prog [44]) hk ob 7000 loose w := by
  intro os
  kernel_rfl
theorem facts {P : Program} {w : World} {K : PySem.W.Frag} {h : Heap} {mg : Str → Option Value} {f : Addr} (X : K.In h) (G : h.Ns mainGlobals mg) (hfa : mg ("law" : Str) = some (.ref f)) (c : He.SaysX fa fn [] [p_rest] (exK cs) w h K) :
    ∃ fd : FuncData, (∀ (s : Shared) (v : Value), BindsTo s fd ⟨[v], []⟩ [("_law_script", v)]) ∧ ∀ base : Heap, K.In base → base.Ns mainGlobals mg → (∀ p ∈ [He.cT K p_rest], LamX.TabB base mg p.1 p.2) → FnOk P w K mg base CX0 20 f fd ["_law_script"] (spL ⟨K, ctOf cs K (tabT K tf_rest) none⟩ c_law) := by
  have hF : Fx fa fn cs K mg := fx_of X G c
  have e := hfa.symm.trans (hF.glo 45 (x := "law"))
  cases e
  obtain ⟨fd, F⟩ := hF.def_ 30
  have b := FunD.bindsA (ps := ["_law_script"]) F fun _ _ _ _ _ _ us hl => match us, hl with | [_], _ => rfl
  refine ⟨fd, fun s v => b s [v] rfl, fun base _ _ hB => ?_⟩
  exact body_law hF (hB _ List.mem_cons_self) F
end Lw
open PySem PySem.W PySem.Calls PyProof.Rows
theorem PySem.Challenge.cw_pitlots_k34_whole_longest_chains_first_holds : PySem.Challenge.rw_pitlots_k34_whole_longest_chains_first.Holds := by
  w_on; o_law
  refine HandSHeadRun.head_any (r := Lw.RO) (q := view Lw.RO.prog [44]) (H := Lw.hk) (ob := Lw.ob) (M := 7000) (loose := Lw.loose) (d := HandSHeadRun.topDef Lw.RO.prog 44) (kwd := []) Lw.ob_eq
    (by kernel_rfl) (fun s => by kernel_rfl) Lw.run (by kernel_rfl) (by kernel_rfl) (by kernel_rfl) (by rfl) (by first | assumption | decide +kernel) (by decide +kernel) ⟨rfl, rfl, rfl, rfl, rfl, by decide +kernel⟩ ?hw ?hc
  case hw => w_witness2
  case hc =>
    refine LamX.walk_ofTsE (l := PySem.Challenge.rw_pitlots_k34_whole_longest_chains_first) (n := 63) (k := 20) (x := "_law_script") (CX := fun _ => L2.CX0) rfl (by decide) (by kernel_rfl) ⟨rfl, by decide, by decide⟩ ?F (fun _ _ _ _ _ z => z)
    intro w mg fa h Y G hmg0
    obtain ⟨K, KX, c⟩ := Y
    have hmg : mg ("law" : PySem.Str) = some (.ref fa) := by
      have e : (HandSHeadRun.topDef Lw.RO.prog 44).name = ("law" : PySem.Str) := by kernel_rfl
      rw [← e]
      exact hmg0
    obtain ⟨fd, hb, hF⟩ := Lw.facts (P := (PySem.Challenge.rw_pitlots_k34_whole_longest_chains_first).prog) (w := w) KX G hmg c
    refine ⟨K, KX, fd, [He.cT K Lw.p_rest], _, fun p hp => ?_, fun p hp => ?_, fun p hp => ?_, hb, fun H a ns hl _ hT hS => Pv.law_endT (Pv.tabT_start fun q hq => ?_) hS (Lw.law_true ns hl), hF⟩
    · rw [List.mem_singleton.mp hp]; exact c.empty _ List.mem_cons_self
    · rw [List.mem_singleton.mp hp]; exact c.out _ List.mem_cons_self
    · rw [List.mem_singleton.mp hp]; exact PySem.W.codeHd_of_K KX (c.hd _ List.mem_cons_self)
    · rw [List.mem_singleton.mp hq]; exact hT _ List.mem_cons_self


