import PyProof.Rows.All
import HandS.ForMost
import HandS.AnyAll
import KE.SortData
import KE.DatumIndex
import KE.KDictKeyed
import HandS.TupAny
import HandS.Wide
import KE.DataCmp
import HandS.Style
import HandS.TupLen
import HandS.Codes
import HandS.Comp
import HandS.Conv
import KE.KDictSum
import KE.KDictWalk
import KE.KPairComp
import PyProof.ReprRoads
import HandS.EndTab
import HandS.Nested
import PyProof.StrLawsRepr
import PySem.Challenge.RW_unseenswap_k78_secrets_kept
set_option Elab.async false
set_option linter.all false
set_option maxRecDepth 100000
set_option maxHeartbeats 1000000
/-! Z1: own trees and lasting data over the hand layer's abstract heap. -/
namespace Z
open PySem PySem.Spec PyProof.Rows L2

/-! ### keys -/
def nkK : L2.Key → NestedKey
  | .inl i => .num i
  | .inr x => .text x
/-- a dict whose keys are tuples: the keys, where their tuples stand, the values -/
def HoN (P : Program) (w : World) (a : Addr) (kvs : List (NestedKey × Addr × V)) : HO := .ext fun h =>
  kvs.length ≤ sizeLine ∧ (a == sysModules) = false ∧ ∃ zs : List (NestedKey × Addr × Value), Paired (fun (p : NestedKey × Addr × V) (q : NestedKey × Addr × Value) => p.1 = q.1 ∧ p.2.1 = q.2.1 ∧ RelV p.2.2 q.2.2) kvs zs ∧
    ∃ o es ep, h.get? a = some o ∧ o.ExactDict ∧ o.data = .dict es ep ∧ es.toList = zs.map (entryOfKey (nestedKind P w)) ∧ (zs.map (·.1)).Nodup
/-- the entries of a dict's object: key, the key's value, the value -/
inductive Ent (P : Program) (w : World) (a : Addr) : HO → List (NestedKey × V × V) → Prop
  | dK (kvs : List (L2.Key × V)) : Ent P w a (.dK kvs) (kvs.map fun p => (nkK p.1, kV p.1, p.2))
  | dN (kvs : List (NestedKey × Addr × V)) (h0 : kvs ≠ []) (h : ∀ p ∈ kvs, ∃ ks, p.1 = .tup ks) (h8 : ∀ p ∈ kvs, p.1.depth ≤ 8) : Ent P w a (HoN P w a kvs) (kvs.map fun p => (p.1, .ref p.2.1, p.2.2))

/-! ### lasting data -/
/-- a list that lasts: frozen, or the module's -/
def FzL (K : PySem.W.Frag) (H : Hp) (a : Addr) (xs : List V) : Prop :=
  (∃ o, H a = some (.frz o (.lst xs))) ∨ ∃ (o : Obj) (its : Array Value) (n : Nat), K.lookup a = some o ∧ o.cls = .type "list" ∧ o.dict = none ∧ o.data = .seq its n ∧ its.size ≤ sizeLine ∧ Vals xs its.toList ∧ o.slots = #[]
theorem FzL.seq {K : PySem.W.Frag} {H : Hp} {a : Addr} {xs : List V} (h : FzL K H a xs) : SqL K H a xs := by
  rcases h with ⟨o, h⟩ | ⟨o, its, n, h1, h2, h3, h4, h5, h6, _⟩
  · exact .inl (.inr ⟨o, h⟩)
  · exact .inr ⟨o, its, n, h1, h2, h3, h4, h5, h6⟩
/-- its object -/
theorem FzL.obj {X : Cx} {pins : List (Addr × Obj)} {σ : L2.St} {H : Hp} {s : Shared} {a : Addr} {xs : List V} (I : Inv X pins σ H s) (h : FzL X.K H a xs) : xs.length ≤ sizeLine ∧ ∃ (its : List Value) (n : Nat), Vals xs its ∧ s.heap.get? a = some { cls := .type "list", data := .seq its.toArray n } := by
  rcases h with ⟨o, h⟩ | ⟨⟨cls, dd, data, sl⟩, its, n, h1, h2, h3, h4, h5, h6, h7⟩
  · obtain ⟨_, z, its, n, r, e⟩ := I.hok a _ h
    exact ⟨z, its, n, r, e⟩
  · simp only at h2 h3 h4 h7
    subst h2 h3 h4 h7
    exact ⟨by rw [h6.length]; simpa using h5, its.toList, n, h6, I.kIn _ _ h1⟩
mutual
inductive T (P : Program) (w : World) (K : PySem.W.Frag) (H : Hp) : V → PyData → Prop
  | non : T P w K H .non .none
  | bl (b : Bool) : T P w K H (.bl b) (.bool b)
  | int (i : Int) : T P w K H (.int i) (.int i)
  | str (x : Str) : T P w K H (.str x) (.str x)
  | tup {a : Addr} {xs : List V} {ds : List PyData} : SqT K H a xs → Ts P w K H xs ds → T P w K H (.ref a) (.tuple ds)
  | lst {a : Addr} {xs : List V} {ds : List PyData} : FzL K H a xs → Ts P w K H xs ds → T P w K H (.ref a) (.list ds)
  | dct {a : Addr} {o : Obj} {u : HO} {es : List (NestedKey × V × V)} {ds : List (PyData × PyData)} : H a = some (.frz o u) → Ent P w a u es → Tk P w K H es ds → T P w K H (.ref a) (.dict ds)
inductive Ts (P : Program) (w : World) (K : PySem.W.Frag) (H : Hp) : List V → List PyData → Prop
  | nil : Ts P w K H [] []
  | cons {v : V} {d : PyData} {vs : List V} {ds : List PyData} : T P w K H v d → Ts P w K H vs ds → Ts P w K H (v :: vs) (d :: ds)
inductive Tk (P : Program) (w : World) (K : PySem.W.Frag) (H : Hp) : List (NestedKey × V × V) → List (PyData × PyData) → Prop
  | nil : Tk P w K H [] []
  | cons {k : NestedKey} {kv v : V} {d : PyData} {es : List (NestedKey × V × V)} {ds : List (PyData × PyData)} : T P w K H kv k.data → T P w K H v d → Tk P w K H es ds → Tk P w K H ((k, kv, v) :: es) ((k.data, d) :: ds)
end

/-- tuples and frozen things stay -/
structure Grow (H H' : Hp) : Prop where
  tup : ∀ b xs, H b = some (.tup xs) → H' b = some (.tup xs)
  frz : ∀ b o u, H b = some (.frz o u) → H' b = some (.frz o u)
  tab : ∀ b, GxR.TabG H b → GxR.TabG H' b
theorem Grow.refl (H : Hp) : Grow H H := ⟨fun _ _ h => h, fun _ _ _ h => h, fun _ h => h⟩
theorem Grow.trans {H H1 H2 : Hp} (a : Grow H H1) (b : Grow H1 H2) : Grow H H2 := ⟨fun c xs h => b.tup c xs (a.tup c xs h), fun c o u h => b.frz c o u (a.frz c o u h), fun c h => b.tab c (a.tab c h)⟩
section
variable {P : Program} {w : World} {K : PySem.W.Frag} {H H' : Hp}
theorem Grow.sqT (g : Grow H H') {a : Addr} {xs : List V} (h : SqT K H a xs) : SqT K H' a xs := by
  rcases h with (h | ⟨o, h⟩) | h
  · exact .inl (.inl (g.tup _ _ h))
  · exact .inl (.inr ⟨o, g.frz _ _ _ h⟩)
  · exact .inr h
theorem Grow.fzL (g : Grow H H') {a : Addr} {xs : List V} (h : FzL K H a xs) : FzL K H' a xs := by
  rcases h with ⟨o, h⟩ | h
  · exact .inl ⟨o, g.frz _ _ _ h⟩
  · exact .inr h
mutual
theorem T.grow (g : Grow H H') : ∀ {v : V} {d : PyData}, T P w K H v d → T P w K H' v d
  | _, _, .non => .non
  | _, _, .bl b => .bl b
  | _, _, .int i => .int i
  | _, _, .str x => .str x
  | _, _, .tup h t => .tup (g.sqT h) (Ts.grow g t)
  | _, _, .lst h t => .lst (g.fzL h) (Ts.grow g t)
  | _, _, .dct h e t => .dct (g.frz _ _ _ h) e (Tk.grow g t)
theorem Ts.grow (g : Grow H H') : ∀ {vs : List V} {ds : List PyData}, Ts P w K H vs ds → Ts P w K H' vs ds
  | _, _, .nil => .nil
  | _, _, .cons h t => .cons (T.grow g h) (Ts.grow g t)
theorem Tk.grow (g : Grow H H') : ∀ {es : List (NestedKey × V × V)} {ds : List (PyData × PyData)}, Tk P w K H es ds → Tk P w K H' es ds
  | _, _, .nil => .nil
  | _, _, .cons a b t => .cons (T.grow g a) (T.grow g b) (Tk.grow g t)
end
theorem Ts.length : ∀ {vs : List V} {ds : List PyData}, Ts P w K H vs ds → vs.length = ds.length
  | _, _, .nil => rfl
  | _, _, .cons _ t => congrArg (· + 1) (Ts.length t)
theorem Ts.get : ∀ {vs : List V} {ds : List PyData} {i : Nat} {d : PyData}, Ts P w K H vs ds → ds[i]? = some d → ∃ v, vs[i]? = some v ∧ T P w K H v d
  | _, _, _, _, .nil, e => by simp at e
  | _, _, 0, _, .cons h _, e => by
    have e : _ = _ := Option.some.inj e
    subst e
    exact ⟨_, rfl, h⟩
  | _, _, i + 1, _, .cons _ t, e => Ts.get (i := i) t (by simpa using e)
theorem Ts.get' : ∀ {vs : List V} {ds : List PyData} {i : Nat} {v : V}, Ts P w K H vs ds → vs[i]? = some v → ∃ d, ds[i]? = some d ∧ T P w K H v d
  | _, _, _, _, .nil, e => by simp at e
  | _, _, 0, _, .cons h _, e => by
    have e : _ = _ := Option.some.inj e
    subst e
    exact ⟨_, rfl, h⟩
  | _, _, i + 1, _, .cons _ t, e => Ts.get' (i := i) t (by simpa using e)
theorem Ts.append : ∀ {vs : List V} {ds : List PyData} {us : List V} {fs : List PyData}, Ts P w K H vs ds → Ts P w K H us fs → Ts P w K H (vs ++ us) (ds ++ fs)
  | _, _, _, _, .nil, s => s
  | _, _, _, _, .cons h t, s => .cons h (Ts.append t s)
theorem Ts.take : ∀ {vs : List V} {ds : List PyData} (n : Nat), Ts P w K H vs ds → Ts P w K H (vs.take n) (ds.take n)
  | _, _, 0, _ => .nil
  | _, _, _ + 1, .nil => .nil
  | _, _, n + 1, .cons h t => .cons h (Ts.take n t)
theorem Ts.drop : ∀ {vs : List V} {ds : List PyData} (n : Nat), Ts P w K H vs ds → Ts P w K H (vs.drop n) (ds.drop n)
  | _, _, 0, t => t
  | _, _, _ + 1, .nil => .nil
  | _, _, n + 1, .cons _ t => Ts.drop n t
theorem Ts.of_mem : ∀ {vs : List V} {ds : List PyData}, Ts P w K H vs ds → ∀ v ∈ vs, ∃ d ∈ ds, T P w K H v d
  | _, _, .nil, v, h => by cases h
  | _, _, .cons a t, v, h => by
    rcases List.mem_cons.mp h with rfl | h
    · exact ⟨_, List.mem_cons_self, a⟩
    · obtain ⟨d, m, q⟩ := Ts.of_mem t v h
      exact ⟨d, List.mem_cons_of_mem _ m, q⟩

/-! ### data read off the model's heap -/
mutual
theorem T.reads {X : Cx} {pins : List (Addr × Obj)} {σ : L2.St} {s : Shared} (I : Inv X pins σ H s) : ∀ {v : V} {d : PyData}, T X.prog X.w X.K H v d → d.plain = true → ∀ {u : Value}, RelV v u → ∃ as, Reads s.heap u d as
  | _, _, .non, _, _, r => by cases r; exact ⟨_, .none⟩
  | _, _, .bl b, _, _, r => by cases r; exact ⟨_, .bool b⟩
  | _, _, .int i, _, _, r => by obtain ⟨t, rfl⟩ := r; exact ⟨_, .int i t⟩
  | _, _, .str x, _, _, r => by obtain ⟨t, rfl⟩ := r; exact ⟨_, .str x t⟩
  | _, _, .tup h t, p, _, r => by
    cases r
    obtain ⟨its, rv, ⟨o, ho, hc, n, hd⟩, _⟩ := I.tuple h
    obtain ⟨as, q⟩ := Ts.reads I t (by simpa only [PyData.plain] using p) rv
    exact ⟨_, .tuple ho hc hd (by simpa using q)⟩
  | _, _, .lst h t, p, _, r => by
    cases r
    obtain ⟨its, rv, pl, _⟩ := I.list h.seq
    obtain ⟨o, n, ho, hc, hdi, hd⟩ := pl
    obtain ⟨as, q⟩ := Ts.reads I t (by simpa only [PyData.plain] using p) rv
    exact ⟨_, .list ho hc hd (by simpa using q)⟩
  | _, _, .dct _ _ _, p, _, _ => by simp [PyData.plain] at p
theorem Ts.reads {X : Cx} {pins : List (Addr × Obj)} {σ : L2.St} {s : Shared} (I : Inv X pins σ H s) : ∀ {vs : List V} {ds : List PyData}, Ts X.prog X.w X.K H vs ds → PyData.plainAll ds = true → ∀ {us : List Value}, Vals vs us → ∃ as, ReadsAll s.heap us ds as
  | _, _, .nil, _, _, r => by cases r; exact ⟨_, .nil⟩
  | _, _, .cons h t, p, _, r => by
    rw [PyData.plainAll, Bool.and_eq_true] at p
    cases r with
    | cons r1 r2 =>
      obtain ⟨as, q⟩ := T.reads I h p.1 r1
      obtain ⟨bs, q2⟩ := Ts.reads I t p.2 r2
      exact ⟨_, .cons q q2⟩
end
end

/-! ### own trees -/
inductive O where
  | dat (d : PyData)
  | lst (os : List O)
  | dct (kvs : List (NestedKey × O))
mutual
/-- an own tree as data -/
def O.data : O → PyData
  | .dat d => d
  | .lst os => .list (O.datas os)
  | .dct kvs => .dict (O.dataKs kvs)
def O.datas : List O → List PyData
  | [] => []
  | o :: os => O.data o :: O.datas os
def O.dataKs : List (NestedKey × O) → List (PyData × PyData)
  | [] => []
  | (k, o) :: os => (k.data, O.data o) :: O.dataKs os
end
theorem O.datas_eq : ∀ os : List O, O.datas os = os.map O.data
  | [] => rfl
  | o :: os => by rw [O.datas, O.datas_eq os]; rfl
theorem O.dataKs_eq : ∀ os : List (NestedKey × O), O.dataKs os = os.map fun p => (p.1.data, O.data p.2)
  | [] => rfl
  | (k, o) :: os => by rw [O.dataKs, O.dataKs_eq os]; rfl

mutual
/-- the value is the own tree, whose objects stand at F -/
inductive RO (P : Program) (w : World) (K : PySem.W.Frag) (H : Hp) : V → O → List Addr → Prop
  | dat {v : V} {d : PyData} : T P w K H v d → RO P w K H v (.dat d) []
  | lst {a : Addr} {xs : List V} {os : List O} {F : List Addr} : H a = some (.lst xs) → ROs P w K H xs os F → RO P w K H (.ref a) (.lst os) (a :: F)
  | dct {a : Addr} {u : HO} {es : List (NestedKey × V × V)} {kvs : List (NestedKey × O)} {F : List Addr} : H a = some u → Ent P w a u es → ROk P w K H es kvs F → RO P w K H (.ref a) (.dct kvs) (a :: F)
inductive ROs (P : Program) (w : World) (K : PySem.W.Frag) (H : Hp) : List V → List O → List Addr → Prop
  | nil : ROs P w K H [] [] []
  | cons {v : V} {o : O} {vs : List V} {os : List O} {F G : List Addr} : RO P w K H v o F → ROs P w K H vs os G → ROs P w K H (v :: vs) (o :: os) (F ++ G)
inductive ROk (P : Program) (w : World) (K : PySem.W.Frag) (H : Hp) : List (NestedKey × V × V) → List (NestedKey × O) → List Addr → Prop
  | nil : ROk P w K H [] [] []
  | cons {k : NestedKey} {kv v : V} {o : O} {es : List (NestedKey × V × V)} {kvs : List (NestedKey × O)} {F G : List Addr} : T P w K H kv k.data → RO P w K H v o F → ROk P w K H es kvs G → ROk P w K H ((k, kv, v) :: es) ((k, o) :: kvs) (F ++ G)
end

section
variable {P : Program} {w : World} {K : PySem.W.Frag} {H H' : Hp}
theorem Ent.mut {a : Addr} {u : HO} {es : List (NestedKey × V × V)} (e : Ent P w a u es) : Mut (some u) := by
  cases e <;> exact True.intro
mutual
/-- it stays where its objects do -/
theorem RO.keep (g : Grow H H') : ∀ {v : V} {o : O} {F : List Addr}, (∀ a ∈ F, H' a = H a) → RO P w K H v o F → RO P w K H' v o F
  | _, _, _, _, .dat t => .dat (t.grow g)
  | _, _, _, k, .lst h t => .lst ((k _ List.mem_cons_self).trans h) (ROs.keep g (fun a m => k a (List.mem_cons_of_mem _ m)) t)
  | _, _, _, k, .dct h e t => .dct ((k _ List.mem_cons_self).trans h) e (ROk.keep g (fun a m => k a (List.mem_cons_of_mem _ m)) t)
theorem ROs.keep (g : Grow H H') : ∀ {vs : List V} {os : List O} {F : List Addr}, (∀ a ∈ F, H' a = H a) → ROs P w K H vs os F → ROs P w K H' vs os F
  | _, _, _, _, .nil => .nil
  | _, _, _, k, .cons h t => .cons (RO.keep g (fun a m => k a (List.mem_append_left _ m)) h) (ROs.keep g (fun a m => k a (List.mem_append_right _ m)) t)
theorem ROk.keep (g : Grow H H') : ∀ {es : List (NestedKey × V × V)} {kvs : List (NestedKey × O)} {F : List Addr}, (∀ a ∈ F, H' a = H a) → ROk P w K H es kvs F → ROk P w K H' es kvs F
  | _, _, _, _, .nil => .nil
  | _, _, _, k, .cons h q t => .cons (h.grow g) (RO.keep g (fun a m => k a (List.mem_append_left _ m)) q) (ROk.keep g (fun a m => k a (List.mem_append_right _ m)) t)
end
mutual
/-- its objects may be written -/
theorem RO.mut : ∀ {v : V} {o : O} {F : List Addr}, RO P w K H v o F → ∀ a ∈ F, Mut (H a)
  | _, _, _, .dat _, a, m => by cases m
  | _, _, _, .lst h t, a, m => by
    rcases List.mem_cons.mp m with rfl | m
    · rw [h]; exact True.intro
    · exact ROs.mut t a m
  | _, _, _, .dct h e t, a, m => by
    rcases List.mem_cons.mp m with rfl | m
    · rw [h]; exact e.mut
    · exact ROk.mut t a m
theorem ROs.mut : ∀ {vs : List V} {os : List O} {F : List Addr}, ROs P w K H vs os F → ∀ a ∈ F, Mut (H a)
  | _, _, _, .nil, a, m => by cases m
  | _, _, _, .cons h t, a, m => (List.mem_append.mp m).elim (RO.mut h a) (ROs.mut t a)
theorem ROk.mut : ∀ {es : List (NestedKey × V × V)} {kvs : List (NestedKey × O)} {F : List Addr}, ROk P w K H es kvs F → ∀ a ∈ F, Mut (H a)
  | _, _, _, .nil, a, m => by cases m
  | _, _, _, .cons _ h t, a, m => (List.mem_append.mp m).elim (RO.mut h a) (ROk.mut t a)
end
theorem Mut.some {o : Option HO} (m : Mut o) : ∃ u, o = some u := by
  cases o with
  | none => exact m.elim
  | some u => exact ⟨u, rfl⟩
theorem ROs.length : ∀ {vs : List V} {os : List O} {F : List Addr}, ROs P w K H vs os F → vs.length = os.length
  | _, _, _, .nil => rfl
  | _, _, _, .cons _ t => congrArg (· + 1) (ROs.length t)
theorem ROs.append : ∀ {vs : List V} {os : List O} {F : List Addr} {us : List V} {ps : List O} {G : List Addr}, ROs P w K H vs os F → ROs P w K H us ps G → ROs P w K H (vs ++ us) (os ++ ps) (F ++ G)
  | _, _, _, _, _, _, .nil, s => s
  | _, _, _, _, _, _, .cons h t, s => by
    rw [List.append_assoc]
    exact .cons h (ROs.append t s)
theorem ROs.one {v : V} {o : O} {F : List Addr} (h : RO P w K H v o F) : ROs P w K H [v] [o] F := by
  have := ROs.cons h .nil
  rwa [List.append_nil] at this
theorem ROs.of_data : ∀ {vs : List V} {ds : List PyData}, Ts P w K H vs ds → ROs P w K H vs (ds.map O.dat) []
  | _, _, .nil => .nil
  | _, _, .cons h t => .cons (.dat h) (ROs.of_data t)
/-- H' is H but for the objects of F -/
def But (F : List Addr) (H H' : Hp) : Prop := ∀ p, p ∉ F → H' p = H p
theorem But.refl (F : List Addr) (H : Hp) : But F H H := fun _ _ => rfl
theorem But.grow {F : List Addr} (b : But F H H') (m : ∀ a ∈ F, Mut (H a)) : Grow H H' := by
  refine ⟨fun p xs e => ?_, fun p o u e => ?_, fun p ⟨ps, e, t⟩ => ⟨ps, ?_, t⟩⟩ <;>
  · rw [b p fun z => ?_, e]
    have := m p z
    rw [e] at this
    exact this

/-! ### freezing -/
variable {X : Cx} {pins : List (Addr × Obj)} {σ : L2.St} {s : Shared}
theorem got {h : Heap} {a : Addr} : ∀ {u : HO}, ObjOk P w H h a u → ∃ o, h.get? a = some o
  | .lst _, x => let ⟨_, _, _, _, e⟩ := x; ⟨_, e⟩
  | .tup _, x => let ⟨_, _, _, o, e, _⟩ := x; ⟨o, e⟩
  | .dK _, x => let ⟨_, _, _, _, o, _, _, e, _⟩ := x; ⟨o, e⟩
  | .dT _, x => let ⟨_, _, _, _, o, _, _, e, _⟩ := x; ⟨o, e⟩
  | .set _ _, x => let ⟨o, _, _, _, e, _⟩ := x; ⟨o, e⟩
  | .ins _ _ _, x => let ⟨_, _, _, e, _⟩ := x; ⟨_, e⟩
  | .own _, x => x
  | .xd _, x => let ⟨_, ⟨o, _, _, e, _⟩, _⟩ := x; ⟨o, e⟩
  | .met _ _, x => ⟨_, x⟩
  | .rng _ _, x => let ⟨_, _, _, e⟩ := x; ⟨_, e⟩
  | .frz o _, x => ⟨o, x.1⟩
  | .tbl _, x => ⟨_, x⟩
  | .ext _, x => x.2.1
theorem freeze1 (I : Inv X pins σ H s) {a : Addr} {u : HO} (h : H a = some u) (m : Mut (some u)) : ∃ o, Inv X pins σ (upd H a (.frz o u)) s := by
  obtain ⟨o, ho⟩ := got (I.hok a u h)
  refine ⟨o, ?_⟩
  have hne : ∀ b v, H b = some v → ¬ Mut (some v) → b ≠ a := fun b v e n z => by
    subst z; rw [h] at e; cases e; exact n m
  have nne : ∀ b, H b = none → b ≠ a := fun b e z => by
    subst z; rw [h] at e; cases e
  refine I.un (h' := s.heap) (t' := s.toks) ⟨fun b o' e n _ _ => e, fun b o' e n _ _ => ⟨o'.slots, e⟩, fun b o' e n _ => ?_, fun b o' e _ => ⟨o', e⟩, fun b xs e => ?_, fun b o' v e => ?_, fun b ps e => ⟨#[], ?_⟩⟩ fun b v e => ?_
  · rw [upd_ne (nne b n)]; exact n
  · rw [upd_ne (hne b _ e fun z => z)]; exact e
  · rw [upd_ne (hne b _ e fun z => z)]; exact e
  · rw [upd_ne (hne b _ e fun z => z), e]; simp
  · have st : ∀ v, ObjOk X.prog X.w H s.heap b v → ObjOk X.prog X.w (upd H a (.frz o u)) s.heap b v := fun v q =>
      q.stay (fun c w' _ q => q) (fun c q => by rw [upd_ne (hne c _ q fun z => z)]; exact q) fun c xs q => by rw [upd_ne (hne c _ q fun z => z)]; exact q
    by_cases hb : b = a
    · subst hb
      rw [upd_same] at e
      cases e
      exact ⟨ho, st u (I.hok b u h)⟩
    · rw [upd_ne hb] at e
      exact st v (I.hok b v e)
mutual
theorem RO.freeze : ∀ {H : Hp} {v : V} {o : O} {F : List Addr}, Inv X pins σ H s → RO X.prog X.w X.K H v o F → F.Nodup → ∃ H', Inv X pins σ H' s ∧ But F H H' ∧ T X.prog X.w X.K H' v o.data
  | H, _, _, _, I, .dat t, _ => ⟨H, I, But.refl _ _, t⟩
  | H, _, _, _, I, @RO.lst _ _ _ _ a xs os F h t, nd => by
    rw [List.nodup_cons] at nd
    obtain ⟨H1, I1, b1, t1⟩ := ROs.freeze I t nd.2
    have h1 : H1 a = some (.lst xs) := (b1 a nd.1).trans h
    obtain ⟨ob, I2⟩ := freeze1 I1 h1 True.intro
    have b2 : But [a] H1 (upd H1 a (.frz ob (.lst xs))) := fun p hp => upd_ne fun z => hp (by rw [z]; exact List.mem_singleton.mpr rfl)
    refine ⟨_, I2, fun p hp => ?_, .lst (.inl ⟨ob, upd_same⟩) (t1.grow (b2.grow fun c hc => ?_))⟩
    · rw [List.mem_cons, not_or] at hp
      rw [upd_ne hp.1, b1 p hp.2]
    · rw [List.mem_singleton.mp hc, h1]; exact True.intro
  | H, _, _, _, I, @RO.dct _ _ _ _ a u es kvs F h e t, nd => by
    rw [List.nodup_cons] at nd
    obtain ⟨H1, I1, b1, t1⟩ := ROk.freeze I t nd.2
    have h1 : H1 a = some u := (b1 a nd.1).trans h
    obtain ⟨ob, I2⟩ := freeze1 I1 h1 e.mut
    have b2 : But [a] H1 (upd H1 a (.frz ob u)) := fun p hp => upd_ne fun z => hp (by rw [z]; exact List.mem_singleton.mpr rfl)
    refine ⟨_, I2, fun p hp => ?_, .dct upd_same e (t1.grow (b2.grow fun c hc => ?_))⟩
    · rw [List.mem_cons, not_or] at hp
      rw [upd_ne hp.1, b1 p hp.2]
    · rw [List.mem_singleton.mp hc, h1]; exact e.mut
theorem ROs.freeze : ∀ {H : Hp} {vs : List V} {os : List O} {F : List Addr}, Inv X pins σ H s → ROs X.prog X.w X.K H vs os F → F.Nodup → ∃ H', Inv X pins σ H' s ∧ But F H H' ∧ Ts X.prog X.w X.K H' vs (O.datas os)
  | H, _, _, _, I, .nil, _ => ⟨H, I, But.refl _ _, .nil⟩
  | H, _, _, _, I, @ROs.cons _ _ _ _ v o vs os F G h t, nd => by
    rw [List.nodup_append] at nd
    obtain ⟨H1, I1, b1, t1⟩ := RO.freeze I h nd.1
    have t' := t.keep (b1.grow h.mut) fun a m => b1 a fun z => nd.2.2 a z a m rfl
    obtain ⟨H2, I2, b2, t2⟩ := ROs.freeze I1 t' nd.2.1
    refine ⟨H2, I2, fun p hp => ?_, .cons (t1.grow (b2.grow t'.mut)) t2⟩
    rw [List.mem_append, not_or] at hp
    rw [b2 p hp.2, b1 p hp.1]
theorem ROk.freeze : ∀ {H : Hp} {es : List (NestedKey × V × V)} {kvs : List (NestedKey × O)} {F : List Addr}, Inv X pins σ H s → ROk X.prog X.w X.K H es kvs F → F.Nodup → ∃ H', Inv X pins σ H' s ∧ But F H H' ∧ Tk X.prog X.w X.K H' es (O.dataKs kvs)
  | H, _, _, _, I, .nil, _ => ⟨H, I, But.refl _ _, .nil⟩
  | H, _, _, _, I, @ROk.cons _ _ _ _ k kv v o es kvs F G hk h t, nd => by
    rw [List.nodup_append] at nd
    obtain ⟨H1, I1, b1, t1⟩ := RO.freeze I h nd.1
    have t' := t.keep (b1.grow h.mut) fun a m => b1 a fun z => nd.2.2 a z a m rfl
    obtain ⟨H2, I2, b2, t2⟩ := ROk.freeze I1 t' nd.2.1
    refine ⟨H2, I2, fun p hp => ?_, .cons ((hk.grow (b1.grow h.mut)).grow (b2.grow t'.mut)) (t1.grow (b2.grow t'.mut)) t2⟩
    rw [List.mem_append, not_or] at hp
    rw [b2 p hp.2, b1 p hp.1]
end
end
end Z
set_option Elab.async false
set_option linter.all false
set_option maxRecDepth 100000
set_option maxHeartbeats 1000000
/-! Z2: slots that own, readings by functions. -/
namespace Z
open PySem PySem.Spec PyProof.Rows L2

inductive Sl where
  | un
  | var (o : O)
  | par (o : O)
  | ro (o : O)
/-- a view is no owner -/
def Sl.core : Sl → Sl
  | .ro _ => .un
  | s => s
abbrev Ev := List Sl
abbrev M (α : Type) := Ev → Option (α × Ev)

inductive RE (P : Program) (w : World) (K : PySem.W.Frag) (H : Hp) : List (Option V) → L2.St → Ev → List Addr → Prop
  | nil : RE P w K H [] [] [] []
  | un {p x : Option V} {pv : List (Option V)} {σ : L2.St} {ev : Ev} {F : List Addr} : RE P w K H pv σ ev F → RE P w K H (p :: pv) (x :: σ) (.un :: ev) F
  | var {p : Option V} {v : V} {o : O} {pv : List (Option V)} {σ : L2.St} {ev : Ev} {F G : List Addr} : RO P w K H v o F → RE P w K H pv σ ev G → RE P w K H (p :: pv) (some v :: σ) (.var o :: ev) (F ++ G)
  | par {v : V} {o : O} {pv : List (Option V)} {σ : L2.St} {ev : Ev} {F G : List Addr} : RO P w K H v o F → RE P w K H pv σ ev G → RE P w K H (some v :: pv) (some v :: σ) (.par o :: ev) (F ++ G)

/-- the parameters' values; the objects that only views see -/
structure Wv where
  f : Nat → List Addr
instance : Membership Addr Wv := ⟨fun w a => ∃ j, a ∈ w.f j⟩
structure Pv where
  ps : List (Option V)
  W : Wv
abbrev TX (X : Cx) := T X.prog X.w X.K
abbrev TsX (X : Cx) := Ts X.prog X.w X.K
abbrev RX (X : Cx) := RO X.prog X.w X.K
abbrev RsX (X : Cx) := ROs X.prog X.w X.K
/-- how the base marks a table of code objects that may grow -/
def mkT : Obj := { cls := .none, dict := some 0, data := .freed }
/-- the tables that the base marks -/
def Tabs (base : Heap) (H : Hp) : Prop := ∀ p : Addr, base.objs[p]? = some mkT → GxR.TabG H p
theorem Tabs.grow {base : Heap} {H H' : Hp} (t : Tabs base H) (g : Grow H H') : Tabs base H' := fun p h => g.tab p (t p h)
structure VwP (base : Heap) (P : Program) (w : World) (K : PySem.W.Frag) (H : Hp) (pv : Pv) (σ : L2.St) (ev : Ev) (F : List Addr) : Prop where
  off : ∀ a ∈ pv.W, a ∉ F
  mu : ∀ a ∈ pv.W, Mut (H a)
  tb : Tabs base H
  see : ∀ (i : Nat) (o : O), ev[i]? = some (Sl.ro o) → ∃ v Fo, σ[i]? = some (some v) ∧ RO P w K H v o Fo ∧ Fo.Nodup ∧ ∀ a ∈ Fo, a ∈ pv.W.f i
abbrev Vw (X : Cx) := VwP X.base X.prog X.w X.K
/-- the slots of X's names are the tree ev, whose objects stand at F -/
def Rp (X : Cx) (H : Hp) (pv : Pv) (σ : L2.St) (ev : Ev) (F : List Addr) : Prop := ∃ F0, RE X.prog X.w X.K H pv.ps σ (ev.map Sl.core) F0 ∧ F0.Perm F ∧ Vw X H pv σ ev F

/-- from H (of which F may change) to H' (F' is of F or new) -/
structure Stp (F : List Addr) (H : Hp) (F' : List Addr) (H' : Hp) : Prop where
  keep : ∀ p u, p ∉ F → (∀ q, u ≠ .tbl q) → H p = some u → H' p = some u
  live : ∀ p, p ∉ F → H' p = none → H p = none
  tab : ∀ p, GxR.TabG H p → GxR.TabG H' p
  new : ∀ a ∈ F', a ∈ F ∨ H a = none
section
variable {F F1 F2 G G' : List Addr} {H H1 H2 : Hp}
theorem Mut.tbl {u : HO} (m : Mut (Option.some u)) : ∀ q, u ≠ .tbl q := fun q e => by subst e; exact m
theorem Stp.refl (F : List Addr) (H : Hp) : Stp F H F H := ⟨fun _ _ _ _ h => h, fun _ _ h => h, fun _ h => h, fun _ h => .inl h⟩
theorem Stp.sub (s : Stp F H F1 H1) (h : ∀ a ∈ F2, a ∈ F1) : Stp F H F2 H1 := ⟨s.keep, s.live, s.tab, fun a m => s.new a (h a m)⟩
theorem Stp.free (s : Stp F H F1 H1) {a : Addr} (hF : a ∉ F) (h : H1 a = none) : H a = none := s.live a hF h
theorem Stp.trans (s : Stp F H F1 H1) (t : Stp F1 H1 F2 H2) : Stp F H F2 H2 := by
  have out : ∀ p, p ∉ F → H p ≠ none → p ∉ F1 := fun p hp hn m => (s.new p m).elim hp hn
  refine ⟨fun p u hp hu e => t.keep p u (out p hp (by rw [e]; simp)) hu (s.keep p u hp hu e), fun p hp e => ?_, fun p h => t.tab p (s.tab p h), fun a m => ?_⟩
  · cases q : H p with
    | none => rfl
    | some u =>
      have := s.live p hp (t.live p (out p hp (by rw [q]; simp)) e)
      rw [q] at this
      cases this
  · rcases t.new a m with z | z
    · exact s.new a z
    · by_cases hF : a ∈ F
      · exact .inl hF
      · exact .inr (s.free hF z)
theorem Stp.grow (s : Stp F H F1 H1) (m : ∀ a ∈ F, Mut (H a)) : Grow H H1 := by
  have out : ∀ p u, H p = some u → ¬ Mut (some u) → p ∉ F := fun p u e n z => n (by rw [← e]; exact m p z)
  exact ⟨fun p xs e => s.keep p _ (out p _ e fun z => z) (fun q z => nomatch z) e, fun p o u e => s.keep p _ (out p _ e fun z => z) (fun q z => nomatch z) e, s.tab⟩
/-- what stands apart from F stays -/
theorem Stp.at (s : Stp F H F1 H1) {a : Addr} (hF : a ∉ F) (m : Mut (H a)) : H1 a = H a := by
  obtain ⟨u, e⟩ := Mut.some m
  rw [e]
  rw [e] at m
  exact s.keep a u hF (Mut.tbl m) e
/-- .. and apart from F1 -/
theorem Stp.apart (s : Stp F H F1 H1) {a : Addr} (hF : a ∉ F) (m : Mut (H a)) : a ∉ F1 := fun z => by
  rcases s.new a z with q | q
  · exact hF q
  · rw [q] at m; exact m
theorem Stp.frame (s : Stp [] H G H1) : Stp F H (F ++ G) H1 := ⟨fun p u _ hu e => s.keep p u (by simp) hu e, fun p _ e => s.live p (by simp) e, s.tab, fun a m => by
  rcases List.mem_append.mp m with m | m
  · exact .inl m
  · rcases s.new a m with z | z
    · cases z
    · exact .inr z⟩
theorem Stp.more (s : Stp F H F1 H1) (A : List Addr) : Stp (A ++ F) H (A ++ F1) H1 := ⟨fun p u hp hu e => s.keep p u (fun z => hp (List.mem_append_right _ z)) hu e, fun p hp e => s.live p (fun z => hp (List.mem_append_right _ z)) e, s.tab, fun a m => by
  rcases List.mem_append.mp m with m | m
  · exact .inl (List.mem_append_left _ m)
  · rcases s.new a m with z | z
    · exact .inl (List.mem_append_right _ z)
    · exact .inr z⟩
theorem Stp.wide (s : Stp F H F1 H1) (h : ∀ a ∈ F, a ∈ F2) : Stp F2 H F1 H1 := ⟨fun p u hp hu e => s.keep p u (fun z => hp (h p z)) hu e, fun p hp e => s.live p (fun z => hp (h p z)) e, s.tab, fun a m => (s.new a m).imp (h a) id⟩
theorem But.stp (b : But F H H1) (m : ∀ a ∈ F, Mut (H a)) : Stp F H [] H1 := ⟨fun p u hp _ e => (b p hp).trans e, fun p hp e => by rw [← b p hp]; exact e, (b.grow m).tab, fun _ m => by cases m⟩
end
theorem nd_app {A B : List Addr} : (A ++ B).Nodup ↔ A.Nodup ∧ B.Nodup ∧ ∀ a ∈ A, a ∉ B := by
  rw [List.nodup_append]
  exact ⟨fun ⟨a, b, c⟩ => ⟨a, b, fun x m z => c x m x z rfl⟩, fun ⟨a, b, c⟩ => ⟨a, b, fun x m y z e => c x m (e ▸ z)⟩⟩

def Sl.put : Sl → O → Sl
  | .un, _ => .un
  | .var _, o => .var o
  | .par _, o => .par o
  | .ro q, _ => .ro q
def Sl.tree : Sl → Option O
  | .un => none
  | .var o => some o
  | .par o => some o
  | .ro _ => none
/-- .. or a view's -/
def Sl.see : Sl → Option O
  | .un => none
  | .var o => some o
  | .par o => some o
  | .ro o => some o
theorem Sl.core_tree {sl : Sl} {o : O} (h : sl.tree = some o) : sl.core = sl := by
  cases sl <;> first | rfl | cases h
theorem core_set (ev : Ev) (i : Nat) (sl : Sl) : (ev.set i sl).map Sl.core = (ev.map Sl.core).set i sl.core := by rw [List.map_set]
theorem core_get {ev : Ev} {i : Nat} {sl : Sl} (h : ev[i]? = some sl) : (ev.map Sl.core)[i]? = some sl.core := by rw [List.getElem?_map, h]; rfl
section
variable {P : Program} {w : World} {K : PySem.W.Frag} {H H' : Hp} {pv : List (Option V)} {σ : L2.St} {ev : Ev} {F : List Addr}
theorem RE.keep (g : Grow H H') : ∀ {pv : List (Option V)} {σ : L2.St} {ev : Ev} {F : List Addr}, (∀ a ∈ F, H' a = H a) → RE P w K H pv σ ev F → RE P w K H' pv σ ev F
  | _, _, _, _, _, .nil => .nil
  | _, _, _, _, k, .un t => .un (RE.keep g k t)
  | _, _, _, _, k, .var h t => .var (h.keep g fun a m => k a (List.mem_append_left _ m)) (RE.keep g (fun a m => k a (List.mem_append_right _ m)) t)
  | _, _, _, _, k, .par h t => .par (h.keep g fun a m => k a (List.mem_append_left _ m)) (RE.keep g (fun a m => k a (List.mem_append_right _ m)) t)
theorem RE.mut : ∀ {pv : List (Option V)} {σ : L2.St} {ev : Ev} {F : List Addr}, RE P w K H pv σ ev F → ∀ a ∈ F, Mut (H a)
  | _, _, _, _, .nil, a, m => by cases m
  | _, _, _, _, .un t, a, m => RE.mut t a m
  | _, _, _, _, .var h t, a, m => (List.mem_append.mp m).elim (h.mut a) (RE.mut t a)
  | _, _, _, _, .par h t, a, m => (List.mem_append.mp m).elim (h.mut a) (RE.mut t a)
theorem RE.lens : ∀ {pv : List (Option V)} {σ : L2.St} {ev : Ev} {F : List Addr}, RE P w K H pv σ ev F → σ.length = ev.length ∧ pv.length = ev.length
  | _, _, _, _, .nil => ⟨rfl, rfl⟩
  | _, _, _, _, .un t => ⟨congrArg (· + 1) (RE.lens t).1, congrArg (· + 1) (RE.lens t).2⟩
  | _, _, _, _, .var _ t => ⟨congrArg (· + 1) (RE.lens t).1, congrArg (· + 1) (RE.lens t).2⟩
  | _, _, _, _, .par _ t => ⟨congrArg (· + 1) (RE.lens t).1, congrArg (· + 1) (RE.lens t).2⟩
/-- the tree of slot i in the hand: R is the rest -/
theorem RE.focus : ∀ {pv : List (Option V)} {σ : L2.St} {ev : Ev} {F : List Addr} {i : Nat} {sl : Sl} {o : O}, RE P w K H pv σ ev F → ev[i]? = some sl → sl.tree = some o →
    ∃ v Fo R, σ[i]? = some (some v) ∧ RO P w K H v o Fo ∧ F.Perm (Fo ++ R) ∧ (∃ F3, RE P w K H pv σ (ev.set i .un) F3 ∧ F3.Perm R) ∧
      ∀ {H' : Hp} {o' : O} {F' : List Addr}, Grow H H' → (∀ a ∈ R, H' a = H a) → RO P w K H' v o' F' → ∃ F2, RE P w K H' pv σ (ev.set i (sl.put o')) F2 ∧ F2.Perm (F' ++ R)
  | _, _, _, _, i, _, _, .nil, e, _ => by simp at e
  | _, _, _, _, 0, _, _, .un t, e, h => by
    have e : _ = _ := Option.some.inj e
    subst e
    cases h
  | _, _, _, _, 0, _, _, @RE.var _ _ _ _ p v o pv σ ev F G q t, e, h => by
    have e : _ = _ := Option.some.inj e
    subst e
    have h : _ = _ := Option.some.inj h
    subst h
    exact ⟨v, F, G, rfl, q, List.Perm.refl _, ⟨G, .un t, List.Perm.refl _⟩, fun g k r => ⟨_, .var r (t.keep g k), List.Perm.refl _⟩⟩
  | _, _, _, _, 0, _, _, @RE.par _ _ _ _ v o pv σ ev F G q t, e, h => by
    have e : _ = _ := Option.some.inj e
    subst e
    have h : _ = _ := Option.some.inj h
    subst h
    exact ⟨v, F, G, rfl, q, List.Perm.refl _, ⟨G, .un t, List.Perm.refl _⟩, fun g k r => ⟨_, .par r (t.keep g k), List.Perm.refl _⟩⟩
  | _, _, _, _, i + 1, sl, o, .un t, e, h => by
    obtain ⟨v, Fo, R, h1, h2, h3, ⟨F3, d1, d2⟩, h4⟩ := RE.focus (i := i) t (by simpa using e) h
    refine ⟨v, Fo, R, by simpa using h1, h2, h3, ⟨F3, .un d1, d2⟩, fun g k r => ?_⟩
    obtain ⟨F2, q1, q2⟩ := h4 g k r
    exact ⟨F2, .un q1, q2⟩
  | _, _, _, _, i + 1, sl, o, @RE.var _ _ _ _ p v1 o1 pv σ ev F G q t, e, h => by
    obtain ⟨v, Fo, R, h1, h2, h3, ⟨F3, d1, d2⟩, h4⟩ := RE.focus (i := i) t (by simpa using e) h
    refine ⟨v, Fo, F ++ R, by simpa using h1, h2, ?_, ⟨F ++ F3, .var q d1, d2.append_left F⟩, fun {H' o' F'} g k r => ?_⟩
    · refine (h3.append_left F).trans ?_
      rw [← List.append_assoc, ← List.append_assoc]
      exact List.perm_append_comm.append_right R
    · obtain ⟨F2, q1, q2⟩ := h4 g (fun a m => k a (List.mem_append_right _ m)) r
      refine ⟨F ++ F2, .var (q.keep g fun a m => k a (List.mem_append_left _ m)) q1, (q2.append_left F).trans ?_⟩
      rw [← List.append_assoc, ← List.append_assoc]
      exact List.perm_append_comm.append_right R
  | _, _, _, _, i + 1, sl, o, @RE.par _ _ _ _ v1 o1 pv σ ev F G q t, e, h => by
    obtain ⟨v, Fo, R, h1, h2, h3, ⟨F3, d1, d2⟩, h4⟩ := RE.focus (i := i) t (by simpa using e) h
    refine ⟨v, Fo, F ++ R, by simpa using h1, h2, ?_, ⟨F ++ F3, .par q d1, d2.append_left F⟩, fun {H' o' F'} g k r => ?_⟩
    · refine (h3.append_left F).trans ?_
      rw [← List.append_assoc, ← List.append_assoc]
      exact List.perm_append_comm.append_right R
    · obtain ⟨F2, q1, q2⟩ := h4 g (fun a m => k a (List.mem_append_right _ m)) r
      refine ⟨F ++ F2, .par (q.keep g fun a m => k a (List.mem_append_left _ m)) q1, (q2.append_left F).trans ?_⟩
      rw [← List.append_assoc, ← List.append_assoc]
      exact List.perm_append_comm.append_right R
/-- slot i is let go, or stored anew -/
theorem RE.store : ∀ {pv : List (Option V)} {σ : L2.St} {ev : Ev} {F : List Addr} {i : Nat} {sl : Sl}, RE P w K H pv σ ev F → ev[i]? = some sl → (∀ o, sl ≠ .par o) →
    ∃ Fo R, F.Perm (Fo ++ R) ∧ (∃ F2, RE P w K H pv σ (ev.set i .un) F2 ∧ F2.Perm R) ∧ (sl = .un → Fo = []) ∧
      ∀ {v : V} {o' : O} {F' : List Addr}, RO P w K H v o' F' → ∃ F2, RE P w K H pv (σ.set i (some v)) (ev.set i (.var o')) F2 ∧ F2.Perm (F' ++ R)
  | _, _, _, _, i, _, .nil, e, _ => by simp at e
  | _, _, _, _, 0, _, @RE.un _ _ _ _ p x pv σ ev F t, e, h => by
    have e : _ = _ := Option.some.inj e
    subst e
    exact ⟨[], F, List.Perm.refl _, ⟨F, .un t, List.Perm.refl _⟩, fun _ => rfl, fun r => ⟨_, .var r t, List.Perm.refl _⟩⟩
  | _, _, _, _, 0, _, @RE.var _ _ _ _ p v o pv σ ev F G q t, e, h => by
    have e : _ = _ := Option.some.inj e
    subst e
    exact ⟨F, G, List.Perm.refl _, ⟨G, .un t, List.Perm.refl _⟩, (fun z => by cases z), fun r => ⟨_, .var r t, List.Perm.refl _⟩⟩
  | _, _, _, _, 0, _, @RE.par _ _ _ _ v o pv σ ev F G q t, e, h => by
    have e : _ = _ := Option.some.inj e
    exact absurd e.symm (h o)
  | _, _, _, _, i + 1, sl, .un t, e, h => by
    obtain ⟨Fo, R, h1, ⟨F3, a1, a2⟩, h3, h4⟩ := RE.store (i := i) t (by simpa using e) h
    refine ⟨Fo, R, h1, ⟨F3, .un a1, a2⟩, h3, fun r => ?_⟩
    obtain ⟨F2, q1, q2⟩ := h4 r
    exact ⟨F2, .un q1, q2⟩
  | _, _, _, _, i + 1, sl, @RE.var _ _ _ _ p v1 o1 pv σ ev F G q t, e, h => by
    obtain ⟨Fo, R, h1, ⟨F3, a1, a2⟩, h3, h4⟩ := RE.store (i := i) t (by simpa using e) h
    refine ⟨Fo, F ++ R, ?_, ⟨F ++ F3, .var q a1, a2.append_left F⟩, h3, fun {v o' F'} r => ?_⟩
    · refine (h1.append_left F).trans ?_
      rw [← List.append_assoc, ← List.append_assoc]
      exact List.perm_append_comm.append_right R
    · obtain ⟨F2, q1, q2⟩ := h4 r
      refine ⟨F ++ F2, .var q q1, (q2.append_left F).trans ?_⟩
      rw [← List.append_assoc, ← List.append_assoc]
      exact List.perm_append_comm.append_right R
  | _, _, _, _, i + 1, sl, @RE.par _ _ _ _ v1 o1 pv σ ev F G q t, e, h => by
    obtain ⟨Fo, R, h1, ⟨F3, a1, a2⟩, h3, h4⟩ := RE.store (i := i) t (by simpa using e) h
    refine ⟨Fo, F ++ R, ?_, ⟨F ++ F3, .par q a1, a2.append_left F⟩, h3, fun {v o' F'} r => ?_⟩
    · refine (h1.append_left F).trans ?_
      rw [← List.append_assoc, ← List.append_assoc]
      exact List.perm_append_comm.append_right R
    · obtain ⟨F2, q1, q2⟩ := h4 r
      refine ⟨F ++ F2, .par q q1, (q2.append_left F).trans ?_⟩
      rw [← List.append_assoc, ← List.append_assoc]
      exact List.perm_append_comm.append_right R
/-- slots that were not there ahead of a loop are let go behind each turn -/
def mask : Ev → Ev → Ev
  | .un :: a, _ :: b => .un :: mask a b
  | _ :: a, s :: b => s :: mask a b
  | _, b => b
theorem RE.mask : ∀ (e0 : Ev) {pv : List (Option V)} {σ : L2.St} {ev : Ev} {F : List Addr}, RE P w K H pv σ ev F → ∃ F', RE P w K H pv σ (Z.mask e0 ev) F' ∧ F'.Sublist F
  | [], _, _, _, F, t => ⟨F, by simpa [Z.mask] using t, List.Sublist.refl _⟩
  | s :: e0, _, _, _, _, .nil => ⟨_, by cases s <;> exact .nil, List.Sublist.refl _⟩
  | s :: e0, _, _, _, _, .un t => by
    obtain ⟨F', q, l⟩ := RE.mask e0 t
    refine ⟨F', ?_, l⟩
    cases s <;> exact .un q
  | s :: e0, _, _, _, _, @RE.var _ _ _ _ p v o pv σ ev F G h t => by
    obtain ⟨F', q, l⟩ := RE.mask e0 t
    cases s with
    | un => exact ⟨F', .un q, l.trans (List.sublist_append_right _ _)⟩
    | var _ => exact ⟨F ++ F', .var h q, (List.Sublist.refl F).append l⟩
    | par _ => exact ⟨F ++ F', .var h q, (List.Sublist.refl F).append l⟩
    | ro _ => exact ⟨F ++ F', .var h q, (List.Sublist.refl F).append l⟩
  | s :: e0, _, _, _, _, @RE.par _ _ _ _ v o pv σ ev F G h t => by
    obtain ⟨F', q, l⟩ := RE.mask e0 t
    cases s with
    | un => exact ⟨F', .un q, l.trans (List.sublist_append_right _ _)⟩
    | var _ => exact ⟨F ++ F', .par h q, (List.Sublist.refl F).append l⟩
    | par _ => exact ⟨F ++ F', .par h q, (List.Sublist.refl F).append l⟩
    | ro _ => exact ⟨F ++ F', .par h q, (List.Sublist.refl F).append l⟩
theorem mask_core : ∀ (e0 ev : Ev), (mask e0 ev).map Sl.core = mask e0 (ev.map Sl.core)
  | [], _ => by cases ‹Ev› <;> rfl
  | s :: e0, [] => by cases s <;> rfl
  | s :: e0, t :: ev => by cases s <;> simp [mask, mask_core e0 ev, Sl.core]
theorem mask_ro : ∀ {e0 ev : Ev} {i : Nat} {o : O}, (mask e0 ev)[i]? = some (.ro o) → ev[i]? = some (Sl.ro o)
  | [], ev, i, o, h => by cases ev <;> exact h
  | s :: e0, [], i, o, h => by cases s <;> exact h
  | s :: e0, t :: ev, 0, o, h => by cases s <;> first | exact h | (simp [mask] at h)
  | s :: e0, t :: ev, i + 1, o, h => by
    have : (mask e0 ev)[i]? = some (.ro o) := by cases s <;> simpa [mask] using h
    simpa using mask_ro this
end
section
variable {X : Cx} {H H' : Hp} {pv : Pv} {σ : L2.St} {ev : Ev} {F G : List Addr}
theorem Rp.mut (r : Rp X H pv σ ev F) : ∀ a ∈ F, Mut (H a) := fun a m => by
  obtain ⟨F0, h, p, _⟩ := r
  exact h.mut a (p.mem_iff.mpr m)
theorem Rp.vw (r : Rp X H pv σ ev F) : Vw X H pv σ ev F := by
  obtain ⟨_, _, _, v⟩ := r
  exact v
theorem Rp.off (r : Rp X H pv σ ev F) : ∀ a ∈ pv.W, a ∉ F := r.vw.off
/-- views stay apart -/
theorem Rp.wApart (r : Rp X H pv σ ev F) (s : Stp F H G H') : ∀ a ∈ pv.W, a ∉ G := fun a m => s.apart (r.off a m) (r.vw.mu a m)
theorem Rp.wAt (r : Rp X H pv σ ev F) (s : Stp F H G H') : ∀ a ∈ pv.W, H' a = H a := fun a m => s.at (r.off a m) (r.vw.mu a m)
theorem Rp.keep (r : Rp X H pv σ ev F) (g : Grow H H') (k : ∀ a ∈ F, H' a = H a) (kw : ∀ a ∈ pv.W, H' a = H a) : Rp X H' pv σ ev F := by
  obtain ⟨F0, h, p, v⟩ := r
  refine ⟨F0, h.keep g fun a m => k a (p.mem_iff.mp m), p, v.off, fun a m => by rw [kw a m]; exact v.mu a m, v.tb.grow g, fun i o e => ?_⟩
  obtain ⟨x, Fo, h1, h2, h3, h4⟩ := v.see i o e
  exact ⟨x, Fo, h1, h2.keep g fun a m => kw a ⟨i, h4 a m⟩, h3, h4⟩
/-- a step of things apart -/
theorem Rp.stp (r : Rp X H pv σ ev F) (s : Stp [] H G H') : Rp X H' pv σ ev F :=
  r.keep (s.grow fun _ m => by cases m) (fun a m => s.at (by simp) (r.mut a m)) fun a m => s.at (by simp) (r.vw.mu a m)
theorem Vw.sub (v : Vw X H pv σ ev F) (h : ∀ a ∈ G, a ∈ F) : Vw X H pv σ ev G := ⟨fun a m z => v.off a m (h a z), v.mu, v.tb, v.see⟩
theorem Rp.perm (r : Rp X H pv σ ev F) (p : F.Perm G) : Rp X H pv σ ev G := by
  obtain ⟨F0, h, q, v⟩ := r
  exact ⟨F0, h, q.trans p, v.sub fun a m => p.mem_iff.mpr m⟩
/-- everything fresh stands apart -/
theorem Rp.nd (r : Rp X H pv σ ev F) (nd : F.Nodup) (s : Stp [] H G H') (ng : G.Nodup) : (F ++ G).Nodup :=
  nd_app.mpr ⟨nd, ng, fun a m z => by
    rcases s.new a z with q | q
    · cases q
    · have := r.mut a m
      rw [q] at this
      exact this⟩
/-- a slot is stored anew, no view -/
theorem Vw.set (v : Vw X H pv σ ev F) {i : Nat} {sl : Sl} (h : ∀ o, sl = .ro o → ev[i]? = some (Sl.ro o)) (σ' : L2.St) (hs : ∀ (j : Nat) (o : O), (ev.set i sl)[j]? = some (Sl.ro o) → σ'[j]? = σ[j]?) : Vw X H pv σ' (ev.set i sl) F := ⟨v.off, v.mu, v.tb, fun j o e => by
  have e' : ev[j]? = some (Sl.ro o) := by
    by_cases q : i = j
    · subst q
      have hl : i < ev.length := by
        rcases Nat.lt_or_ge i ev.length with z | z
        · exact z
        · rw [List.set_eq_of_length_le z, List.getElem?_eq_none z] at e; cases e
      rw [List.getElem?_set_self hl] at e
      exact h o (Option.some.inj e)
    · rwa [List.getElem?_set_ne q] at e
  rw [hs j o e]
  exact v.see j o e'⟩
theorem Rp.focus (r : Rp X H pv σ ev F) {i : Nat} {sl : Sl} {o : O} (e : ev[i]? = some sl) (h : sl.tree = some o) : ∃ v Fo R, σ[i]? = some (some v) ∧ RX X H v o Fo ∧ F.Perm (Fo ++ R) ∧ Rp X H pv σ (ev.set i .un) R ∧
    ∀ {H' : Hp} {o' : O} {F' : List Addr}, Grow H H' → (∀ a ∈ R, H' a = H a) → (∀ a ∈ pv.W, H' a = H a) → (∀ a ∈ pv.W, a ∉ F') → RX X H' v o' F' → Rp X H' pv σ (ev.set i (sl.put o')) (F' ++ R) := by
  obtain ⟨F0, r, p, w⟩ := r
  obtain ⟨v, Fo, R, h1, h2, h3, ⟨F3, d1, d2⟩, h4⟩ := r.focus (core_get e) (by rw [Sl.core_tree h]; exact h)
  have subR : ∀ a ∈ R, a ∈ F := fun a m => p.mem_iff.mp (h3.mem_iff.mpr (List.mem_append_right _ m))
  refine ⟨v, Fo, R, h1, h2, p.symm.trans h3, ⟨F3, by rw [core_set]; exact d1, d2, (w.set (fun o z => by cases z) σ fun _ _ _ => rfl).sub subR⟩, fun {H' o' F'} g k kw nw q => ?_⟩
  obtain ⟨F2, a1, a2⟩ := h4 g k q
  have hc : (sl.put o').core = sl.core.put o' := by cases sl <;> first | rfl | cases h
  refine ⟨F2, by rw [core_set, hc]; exact a1, a2, fun a m z => ?_, fun a m => by rw [kw a m]; exact w.mu a m, w.tb.grow g, fun j x z => ?_⟩
  · rcases List.mem_append.mp z with z | z
    · exact nw a m z
    · exact w.off a m (subR a z)
  · obtain ⟨y, Fy, b1, b2, b3, b4⟩ := (w.set (sl := sl.put o') (i := i) (fun o z => by cases sl <;> first | (cases h; done) | (cases z; done)) σ fun _ _ _ => rfl).see j x z
    exact ⟨y, Fy, b1, b2.keep g fun a m => kw a ⟨j, b4 a m⟩, b3, b4⟩
theorem Rp.store (r : Rp X H pv σ ev F) {i : Nat} {sl : Sl} (e : ev[i]? = some sl) (h : ∀ o, sl ≠ .par o) (h' : ∀ o, sl ≠ .ro o) : ∃ Fo R, F.Perm (Fo ++ R) ∧ Rp X H pv σ (ev.set i .un) R ∧
    ∀ {v : V} {o' : O} {F' : List Addr}, (∀ a ∈ pv.W, a ∉ F') → RX X H v o' F' → Rp X H pv (σ.set i (some v)) (ev.set i (.var o')) (F' ++ R) := by
  obtain ⟨F0, r, p, w⟩ := r
  have hc : sl.core = sl := by cases sl <;> first | rfl | exact absurd rfl (h' _)
  obtain ⟨Fo, R, h1, ⟨F3, d1, d2⟩, _, h4⟩ := r.store (core_get e) (by rw [hc]; exact h)
  have subR : ∀ a ∈ R, a ∈ F := fun a m => p.mem_iff.mp (h1.mem_iff.mpr (List.mem_append_right _ m))
  refine ⟨Fo, R, p.symm.trans h1, ⟨F3, by rw [core_set]; exact d1, d2, (w.set (fun o z => by cases z) σ fun _ _ _ => rfl).sub subR⟩, fun {v o' F'} nw q => ?_⟩
  obtain ⟨F2, a1, a2⟩ := h4 q
  have w' : Vw X H pv (σ.set i (some v)) (ev.set i (.var o')) F := w.set (fun o z => by cases z) _ fun j o z => by
    have : i ≠ j := fun q => by
      subst q
      rw [List.getElem?_set_self (List.getElem?_eq_some_iff.mp e).1] at z
      cases z
    rw [List.getElem?_set_ne this]
  exact ⟨F2, by rw [core_set]; exact a1, a2, fun a m z => (List.mem_append.mp z).elim (nw a m) fun z => w.off a m (subR a z), w.mu, w.tb, w'.see⟩
theorem Rp.mask (e0 : Ev) (r : Rp X H pv σ ev F) : ∃ F', Rp X H pv σ (Z.mask e0 ev) F' ∧ (∀ a ∈ F', a ∈ F) ∧ (F.Nodup → F'.Nodup) := by
  obtain ⟨F0, r, p, w⟩ := r
  obtain ⟨F', q, l⟩ := r.mask e0
  have sub : ∀ a ∈ F', a ∈ F := fun a m => p.mem_iff.mp (l.subset m)
  exact ⟨F', ⟨F', by rw [mask_core]; exact q, List.Perm.refl _, fun a m z => w.off a m (sub a z), w.mu, w.tb, fun i o z => w.see i o (mask_ro z)⟩, sub, fun n => (p.nodup_iff.mpr n).sublist l⟩

/-! ### readings by functions -/
/-- an expression by m: an own tree (or data) and the slots behind it -/
def tM (X : Cx) (m : M O) : TE := fun σ H Q => ∃ pv ev F o ev', Rp X H pv σ ev F ∧ F.Nodup ∧ m ev = some (o, ev') ∧
  ∀ v H' F' G, Rp X H' pv σ ev' F' → RX X H' v o G → (F' ++ G).Nodup → Stp F H (F' ++ G) H' → Q v H'
/-- the tree may be one of the slots' -/
def tP (X : Cx) (m : M O) : TE := fun σ H Q => ∃ pv ev F o ev', Rp X H pv σ ev F ∧ F.Nodup ∧ m ev = some (o, ev') ∧
  ∀ v H' F' A G, Rp X H' pv σ ev' F' → RX X H' v o G → (F' ++ A).Nodup → (∀ a ∈ G, a ∈ F' ++ A ∨ a ∈ pv.W) → G.Nodup → Stp F H (F' ++ A) H' → Q v H'
def tTst (X : Cx) (m : M Bool) : TT := fun σ H Q => ∃ pv ev F b ev', Rp X H pv σ ev F ∧ F.Nodup ∧ m ev = some (b, ev') ∧
  ∀ H' F', Rp X H' pv σ ev' F' → F'.Nodup → Stp F H F' H' → Q b H'
/-- an argument list -/
def tMs (X : Cx) (m : M (List O)) : TA := fun σ H Q => ∃ pv ev F os ev', Rp X H pv σ ev F ∧ F.Nodup ∧ m ev = some (os, ev') ∧
  ∀ vs H' F' G, Rp X H' pv σ ev' F' → RsX X H' vs os G → (F' ++ G).Nodup → Stp F H (F' ++ G) H' → Q vs H'
inductive Out where
  | nx | bk | ct
  | rt (o : O)
def Fin (X : Cx) (D : Ends) (pv : Pv) (ev' : Ev) (F : List Addr) (H : Hp) : Out → Prop
  | .nx => ∀ σ' H' F', Rp X H' pv σ' ev' F' → F'.Nodup → Stp F H F' H' → D.nx σ' H'
  | .bk => ∀ σ' H' F', Rp X H' pv σ' ev' F' → F'.Nodup → Stp F H F' H' → D.bk σ' H'
  | .ct => ∀ σ' H' F', Rp X H' pv σ' ev' F' → F'.Nodup → Stp F H F' H' → D.ct σ' H'
  | .rt o => ∀ σ' v H' F' G, Rp X H' pv σ' ev' F' → RX X H' v o G → (F' ++ G).Nodup → Stp F H (F' ++ G) H' → D.rt v H'
def tS (X : Cx) (m : M Out) : TS := fun D σ H => ∃ pv ev F out ev', Rp X H pv σ ev F ∧ F.Nodup ∧ m ev = some (out, ev') ∧ Fin X D pv ev' F H out
theorem Fin.trans {D : Ends} {ev1 : Ev} {F1 : List Addr} {H1 : Hp} {out : Out} (f : Fin X D pv ev1 F H out) (s : Stp F H F1 H1) : Fin X D pv ev1 F1 H1 out := by
  cases out with
  | nx => exact fun σ' H' F' r n t => f σ' H' F' r n (s.trans t)
  | bk => exact fun σ' H' F' r n t => f σ' H' F' r n (s.trans t)
  | ct => exact fun σ' H' F' r n t => f σ' H' F' r n (s.trans t)
  | rt o => exact fun σ' v H' F' G r q n t => f σ' v H' F' G r q n (s.trans t)
end
/-- another reading -/
theorem PEimp {X : Cx} {e : Expr} {t t' : TE} (h : PE X e t) (i : ∀ σ H Q, t' σ H Q → t σ H Q) : PE X e t' := ⟨fun pins s σ H Q I q => h.run pins s σ H Q I (i σ H Q q)⟩
theorem PTimp {X : Cx} {e : Expr} {t t' : TT} (h : PT X e t) (i : ∀ σ H Q, t' σ H Q → t σ H Q) : PT X e t' := ⟨fun pins s σ H Q I q => h.run pins s σ H Q I (i σ H Q q)⟩
theorem PWimp {X : Cx} {e : Expr} {t t' : TT} (h : PW X e t) (i : ∀ σ H Q, t' σ H Q → t σ H Q) : PW X e t' := ⟨fun wh pins s σ H Q I q => h.run wh pins s σ H Q I (i σ H Q q)⟩
theorem PAimp {X : Cx} {e : List Expr} {t t' : TA} (h : PA X e t) (i : ∀ σ H Q, t' σ H Q → t σ H Q) : PA X e t' := ⟨fun pos pins s σ H Q I q => h.run pos pins s σ H Q I (i σ H Q q)⟩
theorem PSimp {X : Cx} {e : Stmt} {t t' : TS} (h : PS X e t) (i : ∀ D σ H, t' D σ H → t D σ H) : PS X e t' := ⟨fun pins s σ H Q I q => h.run pins s σ H Q I (i Q σ H q)⟩
theorem PSsimp {X : Cx} {e : List Stmt} {t t' : TS} (h : PSs X e t) (i : ∀ D σ H, t' D σ H → t D σ H) : PSs X e t' := ⟨fun pins s σ H Q I q => h.run pins s σ H Q I (i Q σ H q)⟩

section
variable {X : Cx} {e : Expr} {m : M O}
/-- the tree is frozen -/
def mFz (m : M O) : M O := fun ev => (m ev).map fun p => (.dat p.1.data, p.2)
theorem PEfz (h : PE X e (tM X m)) : PE X e (tM X (mFz m)) := by
  refine ⟨fun pins s σ H Q I q => ?_⟩
  obtain ⟨pv, ev, F, o, ev', r, nd, hm, q⟩ := q
  have hm' : ∃ o1, m ev = some (o1, ev') ∧ o = .dat o1.data := by
    unfold mFz at hm
    cases e1 : m ev with
    | none => rw [e1] at hm; cases hm
    | some p => rw [e1] at hm; cases hm; exact ⟨p.1, rfl, rfl⟩
  obtain ⟨o1, hm1, rfl⟩ := hm'
  refine thn (h.run pins s σ H (fun v H' => ∃ F' G, Rp X H' pv σ ev' F' ∧ RX X H' v o1 G ∧ (F' ++ G).Nodup ∧ Stp F H (F' ++ G) H') I ⟨pv, ev, F, o1, ev', r, nd, hm1, fun v H' F' G a b c d => ⟨F', G, a, b, c, d⟩⟩) fun u s' hq => ?_
  obtain ⟨v, H', I', rv, F', G, a, b, c, d⟩ := hq
  obtain ⟨n1, n2, n3⟩ := nd_app.mp c
  obtain ⟨H2, I2, bu, t⟩ := RO.freeze I' b n2
  refine ⟨v, H2, I2, rv, q v H2 F' [] (a.keep (bu.grow b.mut) (fun p hp => bu p (n3 p hp)) fun p hp => bu p fun z => r.wApart d p hp (List.mem_append_right _ z)) (.dat t) (by simpa using n1) ?_⟩
  have := d.trans ((bu.stp b.mut).wide (F2 := F' ++ G) fun p hp => List.mem_append_right _ hp)
  refine ⟨this.keep, this.live, this.tab, fun p hp => d.new p (List.mem_append_left _ (by simpa using hp))⟩
theorem mFz_dat {ev ev' : Ev} {d : PyData} (h : m ev = some (.dat d, ev')) : mFz m ev = some (.dat d, ev') := by
  unfold mFz; rw [h]; rfl
/-- as a tree that may be read alone -/
theorem PEpk (h : PE X e (tM X m)) : PE X e (tP X m) := PEimp h fun σ H Q ⟨pv, ev, F, o, ev', r, nd, hm, q⟩ =>
  ⟨pv, ev, F, o, ev', r, nd, hm, fun v H' F' G a b c d => q v H' F' G G a b c (fun p hp => .inl (List.mem_append_right _ hp)) (nd_app.mp c).2.1 d⟩
end
end Z
set_option Elab.async false
set_option linter.all false
set_option maxRecDepth 100000
set_option maxHeartbeats 1000000
/-! Z3: names, constants, operators, tests, statements. -/
namespace Z
open PySem PySem.Spec PyProof.Rows L2

/-! ### names and constants -/
section
variable {X : Cx} {pos : Pos}
def mC (d : PyData) : M O := fun ev => some (.dat d, ev)
theorem tM_const {d : PyData} {v : V} (t : ∀ H, TX X H v d) {σ : L2.St} {H : Hp} {Q : VK} (h : tM X (mC d) σ H Q) : tC v σ H Q := by
  obtain ⟨pv, ev, F, o, ev', r, nd, hm, q⟩ := h
  cases hm
  exact q v H F [] r (.dat (t H)) (by simpa using nd) (by simpa using Stp.refl F H)
theorem zInt {i : Int} {j : Nat} : PE X (.Constant (.int i) j pos) (tM X (mC (.int i))) := PEimp pe_int fun σ H Q h => tM_const (fun _ => .int i) h
theorem zBl {b : Bool} {j : Nat} : PE X (.Constant (.bool b) j pos) (tM X (mC (.bool b))) := PEimp pe_bl fun σ H Q h => tM_const (fun _ => .bl b) h
theorem zNon {j : Nat} : PE X (.Constant .none j pos) (tM X (mC .none)) := PEimp pe_non fun σ H Q h => tM_const (fun _ => .non) h
theorem zStr {x : Str} {j : Nat} : PE X (.Constant (.str x) j pos) (tM X (mC (.str x))) := PEimp pe_str fun σ H Q h => tM_const (fun _ => .str x) h

/-- the tree of a slot, taken as data (it lasts from here on) -/
def mNm (i : Nat) : M O := fun ev => match ev[i]?.bind Sl.see with
  | some (.dat d) => some (.dat d, ev)
  | some o => match ev[i]? with
    | some (.var _) => some (.dat o.data, ev.set i (.var (.dat o.data)))
    | some (.par _) => some (.dat o.data, ev.set i (.par (.dat o.data)))
    | _ => none
  | none => none
/-- the tree of a slot, moved out -/
def mMv (i : Nat) : M O := fun ev => match ev[i]? with
  | some (.var (.dat d)) => some (.dat d, ev)
  | some (.par (.dat d)) => some (.dat d, ev)
  | some (.ro (.dat d)) => some (.dat d, ev)
  | some (.var o) => some (o, ev.set i .un)
  | _ => none
/-- the tree of a slot, read -/
def mPk (i : Nat) : M O := fun ev => (ev[i]?.bind Sl.see).map fun o => (o, ev)

theorem slot_of {ev : Ev} {i : Nat} {o : O} (h : ev[i]?.bind Sl.tree = some o) : ∃ sl, ev[i]? = some sl ∧ sl.tree = some o ∧ ev.getD i .un = sl := by
  cases e : ev[i]? with
  | none => rw [e] at h; cases h
  | some sl => rw [e] at h; exact ⟨sl, rfl, h, by rw [List.getD_eq_getElem?_getD, e]; rfl⟩
theorem Rp.peek {X : Cx} {H : Hp} {pv : Pv} {σ : L2.St} {ev : Ev} {F : List Addr} (r : Rp X H pv σ ev F) (nd : F.Nodup) {i : Nat} {o : O} (h : ev[i]?.bind Sl.see = some o) : ∃ v Fo, σ[i]? = some (some v) ∧ RX X H v o Fo ∧ Fo.Nodup ∧ ∀ a ∈ Fo, a ∈ F ∨ a ∈ pv.W := by
  cases e : ev[i]? with
  | none => rw [e] at h; cases h
  | some sl =>
    rw [e] at h
    have own : sl.tree = some o → ∃ v Fo, σ[i]? = some (some v) ∧ RX X H v o Fo ∧ Fo.Nodup ∧ ∀ a ∈ Fo, a ∈ F ∨ a ∈ pv.W := fun ht => by
      obtain ⟨v, Fo, R, h1, h2, h3, _⟩ := r.focus e ht
      exact ⟨v, Fo, h1, h2, (nd_app.mp (h3.nodup_iff.mp nd)).1, fun a m => .inl (h3.mem_iff.mpr (List.mem_append_left _ m))⟩
    cases sl with
    | un => cases h
    | var _ => exact own h
    | par _ => exact own h
    | ro o1 =>
      cases h
      obtain ⟨v, Fo, h1, h2, h3, h4⟩ := r.vw.see i o e
      exact ⟨v, Fo, h1, h2, h3, fun a m => .inr ⟨i, h4 a m⟩⟩
theorem zPk {x : Str} (i : Nat) (hN : X.N[i]? = some x := by rfl) (hv : Vis X.env.scope x := by first | exact Or.inl rfl | exact Or.inr (Or.inl rfl) | exact Or.inr (Or.inr rfl)) (hd : (x == ("__debug__" : Str)) = false := by decide)
    (hcd : (x == ("__classdict__" : Str)) = false := by decide) : PE X (.Name x pos) (tP X (mPk i)) := PEimp (pe_var hN hv hd hcd) fun σ H Q h => by
  obtain ⟨pv, ev, F, o, ev', r, nd, hm, q⟩ := h
  unfold mPk at hm
  cases e : ev[i]?.bind Sl.see with
  | none => rw [e] at hm; cases hm
  | some o1 =>
    rw [e] at hm
    cases hm
    obtain ⟨v, Fo, h1, h2, h3, h4⟩ := r.peek nd e
    exact ⟨v, h1, q v H F [] Fo r h2 (by simpa using nd) (fun a m => by rw [List.append_nil]; exact h4 a m) h3 (by simpa using Stp.refl F H)⟩
theorem zNm {x : Str} (i : Nat) (hN : X.N[i]? = some x := by rfl) (hv : Vis X.env.scope x := by first | exact Or.inl rfl | exact Or.inr (Or.inl rfl) | exact Or.inr (Or.inr rfl)) (hd : (x == ("__debug__" : Str)) = false := by decide)
    (hcd : (x == ("__classdict__" : Str)) = false := by decide) : PE X (.Name x pos) (tM X (mNm i)) := by
  refine ⟨fun pins s σ H Q I h => ?_⟩
  obtain ⟨pv, ev, F, o, ev', r, nd, hm, q⟩ := h
  unfold mNm at hm
  split at hm
  · rename_i d e
    cases hm
    obtain ⟨v, Fo, h1, h2, h3, h4⟩ := r.peek nd e
    cases h2 with
    | dat t => exact (pe_var hN hv hd hcd).run pins s σ H Q I ⟨v, h1, q v H F [] r (.dat t) (by simpa using nd) (by simpa using Stp.refl F H)⟩
  · rename_i o1 _ e
    have main : ∀ sl, ev[i]? = some sl → sl.tree = some o1 → o = .dat o1.data → ev' = ev.set i (sl.put (.dat o1.data)) → wpAny (model X.prog X.w) X.A (eval (.Name x pos) X.env) (fun u s' => ∃ v H', Inv X pins σ H' s' ∧ RelV v u ∧ Q v H') X.xe s := fun sl e1 e2 eo ee => by
      subst eo ee
      obtain ⟨v, Fo, R, h1, h2, h3, _, h4⟩ := r.focus e1 e2
      obtain ⟨na, nb, nc⟩ := nd_app.mp (h3.nodup_iff.mp nd)
      refine thn ((pe_var hN hv hd hcd).run pins s σ H (fun v' H' => v' = v ∧ H' = H) I ⟨v, h1, rfl, rfl⟩) fun u s' hq => ?_
      obtain ⟨v', H', I', rv, rfl, rfl⟩ := hq
      obtain ⟨H2, I2, bu, t⟩ := RO.freeze I' h2 na
      have hW : ∀ a ∈ pv.W, a ∉ Fo := fun a m z => r.off a m (h3.mem_iff.mpr (List.mem_append_left _ z))
      have q1 := h4 (bu.grow h2.mut) (fun a m => bu a fun z => nc a z m) (fun a m => bu a (hW a m)) (fun a m z => by cases z) (.dat t)
      exact ⟨v', H2, I2, rv, q v' H2 R [] q1 (.dat t) (by simpa using nb) ⟨fun a u hp _ ha => (bu a fun z => hp (h3.mem_iff.mpr (List.mem_append_left _ z))).trans ha, fun a hp e => by rw [← bu a fun z => hp (h3.mem_iff.mpr (List.mem_append_left _ z))]; exact e, (bu.grow h2.mut).tab, fun a m => .inl (h3.mem_iff.mpr (List.mem_append_right _ (by simpa using m)))⟩⟩
    split at hm
    · rename_i e1
      rw [e1] at e
      cases hm
      cases e
      exact main _ e1 rfl rfl rfl
    · rename_i e1
      rw [e1] at e
      cases hm
      cases e
      exact main _ e1 rfl rfl rfl
    · cases hm
  · cases hm
theorem zMv {x : Str} (i : Nat) (hN : X.N[i]? = some x := by rfl) (hv : Vis X.env.scope x := by first | exact Or.inl rfl | exact Or.inr (Or.inl rfl) | exact Or.inr (Or.inr rfl)) (hd : (x == ("__debug__" : Str)) = false := by decide)
    (hcd : (x == ("__classdict__" : Str)) = false := by decide) : PE X (.Name x pos) (tM X (mMv i)) := PEimp (pe_var hN hv hd hcd) fun σ H Q h => by
  obtain ⟨pv, ev, F, o, ev', r, nd, hm, q⟩ := h
  have data : ∀ d sl, ev[i]? = some sl → sl.see = some (.dat d) → o = .dat d → ev' = ev → tVar i σ H Q := fun d sl e1 e2 eo ee => by
    subst eo ee
    obtain ⟨v, Fo, h1, h2, _⟩ := r.peek nd (i := i) (o := .dat d) (by rw [e1]; exact e2)
    cases h2 with
    | dat t => exact ⟨v, h1, q v H F [] r (.dat t) (by simpa using nd) (by simpa using Stp.refl F H)⟩
  have own : ∀ o1, ev[i]? = some (.var o1) → o = o1 → ev' = ev.set i .un → tVar i σ H Q := fun o1 e1 eo ee => by
    subst eo ee
    obtain ⟨v, Fo, R, h1, h2, h3, h5, _⟩ := r.focus e1 rfl
    have p : F.Perm (R ++ Fo) := h3.trans List.perm_append_comm
    exact ⟨v, h1, q v H R Fo h5 h2 (p.nodup_iff.mp nd) ((Stp.refl F H).sub fun a m => p.mem_iff.mpr m)⟩
  unfold mMv at hm
  split at hm
  · cases hm; rename_i d e1; exact data d _ e1 rfl rfl rfl
  · cases hm; rename_i d e1; exact data d _ e1 rfl rfl rfl
  · cases hm; rename_i d e1; exact data d _ e1 rfl rfl rfl
  · cases hm; rename_i o1 _ e1; exact own _ e1 rfl rfl
  · cases hm
end

/-! ### operators -/
section
variable {X : Cx} {pos : Pos} {a b : Expr} {ma mb : M O} {pv : Pv} {σ : L2.St} {H : Hp} {ev e1 e2 : Ev} {F : List Addr} {o1 o2 : O}
theorem RO.flat {P : Program} {w : World} {K : PySem.W.Frag} {H : Hp} {v : V} {d : PyData} {G : List Addr} (r : RO P w K H v (.dat d) G) : G = [] ∧ T P w K H v d := by
  cases r with
  | dat t => exact ⟨rfl, t⟩
theorem mFz_some {m : M O} (h : m ev = some (o1, e1)) : mFz m ev = some (.dat o1.data, e1) := by
  unfold mFz; rw [h]; rfl
/-- one frozen operand -/
theorem one {R : VK} (h : ma ev = some (o1, e1)) (r : Rp X H pv σ ev F) (nd : F.Nodup)
    (k : ∀ x H1 F1, Rp X H1 pv σ e1 F1 → F1.Nodup → Stp F H F1 H1 → TX X H1 x o1.data → R x H1) : tM X (mFz ma) σ H R :=
  ⟨pv, ev, F, _, e1, r, nd, mFz_some h, fun v H' F' G a b c d => by
    obtain ⟨rfl, t⟩ := b.flat
    rw [List.append_nil] at c d
    exact k v H' F' a c d t⟩
theorem two {R : V → V → Hp → Prop} (h : ma ev = some (o1, e1)) (h' : mb e1 = some (o2, e2)) (r : Rp X H pv σ ev F) (nd : F.Nodup)
    (k : ∀ x y H2 F2, Rp X H2 pv σ e2 F2 → F2.Nodup → Stp F H F2 H2 → TX X H2 x o1.data → TX X H2 y o2.data → R x y H2) : tM X (mFz ma) σ H fun x H1 => tM X (mFz mb) σ H1 fun y H2 => R x y H2 :=
  one h r nd fun x H1 F1 r1 n1 s1 t1 => one h' r1 n1 fun y H2 F2 r2 n2 s2 t2 => k x y H2 F2 r2 n2 (s1.trans s2) (t1.grow (s2.grow r1.mut)) t2
/-- one operand read -/
theorem oneP {R : VK} (h : ma ev = some (o1, e1)) (r : Rp X H pv σ ev F) (nd : F.Nodup)
    (k : ∀ x H1 F1 A G, Rp X H1 pv σ e1 F1 → (F1 ++ A).Nodup → Stp F H (F1 ++ A) H1 → RX X H1 x o1 G → G.Nodup → (∀ a ∈ G, a ∈ F1 ++ A ∨ a ∈ pv.W) → R x H1) : tP X ma σ H R :=
  ⟨pv, ev, F, _, e1, r, nd, h, fun v H' F' A G a b c d n e => k v H' F' A G a c e b n d⟩
/-- a new value -/
def New (X : Cx) (H : Hp) (o : O) (Q : VK) : Prop := ∀ v H' G, RX X H' v o G → G.Nodup → Stp [] H G H' → Q v H'
theorem New.dat {d : PyData} {v : V} {Q : VK} (n : New X H (.dat d) Q) (t : TX X H v d) : Q v H := n v H [] (.dat t) List.nodup_nil (Stp.refl _ _)

def OpD (X : Cx) (f : Value → Value → Sem Value) (g : PyData → PyData → Option O) : Prop :=
  OpR X f fun x y H Q => ∃ d1 d2 o, TX X H x d1 ∧ TX X H y d2 ∧ g d1 d2 = some o ∧ New X H o Q
/-- the right one read -/
def OpP (X : Cx) (f : Value → Value → Sem Value) (g : PyData → O → Option O) : Prop :=
  OpR X f fun x y H Q => ∃ d1 o2 o G, TX X H x d1 ∧ RX X H y o2 G ∧ G.Nodup ∧ g d1 o2 = some o ∧ New X H o Q
def mOp (g : PyData → PyData → Option O) (ma mb : M O) : M O := fun ev => (ma ev).bind fun p => (mb p.2).bind fun q => (g p.1.data q.1.data).map fun o => (o, q.2)
def mOpP (g : PyData → O → Option O) (ma mb : M O) : M O := fun ev => (ma ev).bind fun p => (mb p.2).bind fun q => (g p.1.data q.1).map fun o => (o, q.2)
theorem mOp_some {g : PyData → PyData → Option O} {o : O} {ev' : Ev} (h : mOp g ma mb ev = some (o, ev')) : ∃ o1 e1 o2, ma ev = some (o1, e1) ∧ mb e1 = some (o2, ev') ∧ g o1.data o2.data = some o := by
  unfold mOp at h
  cases q : ma ev with
  | none => rw [q] at h; cases h
  | some p =>
    rw [q] at h
    cases q2 : mb p.2 with
    | none => simp only [Option.bind_some, q2] at h; cases h
    | some p2 =>
      simp only [Option.bind_some, q2] at h
      cases q3 : g p.1.data p2.1.data with
      | none => rw [q3] at h; cases h
      | some z => rw [q3] at h; cases h; exact ⟨p.1, p.2, p2.1, rfl, q2, q3⟩
theorem mOpP_some {g : PyData → O → Option O} {o : O} {ev' : Ev} (h : mOpP g ma mb ev = some (o, ev')) : ∃ o1 e1 o2, ma ev = some (o1, e1) ∧ mb e1 = some (o2, ev') ∧ g o1.data o2 = some o := by
  unfold mOpP at h
  cases q : ma ev with
  | none => rw [q] at h; cases h
  | some p =>
    rw [q] at h
    cases q2 : mb p.2 with
    | none => simp only [Option.bind_some, q2] at h; cases h
    | some p2 =>
      simp only [Option.bind_some, q2] at h
      cases q3 : g p.1.data p2.1 with
      | none => rw [q3] at h; cases h
      | some z => rw [q3] at h; cases h; exact ⟨p.1, p.2, p2.1, rfl, q2, q3⟩
theorem fin_new {ev' : Ev} {F2 A : List Addr} {H2 : Hp} {o : O} {Q : VK} (r2 : Rp X H2 pv σ ev' F2) (n2 : (F2 ++ A).Nodup) (s2 : Stp F H (F2 ++ A) H2)
    (q : ∀ v H' F' G, Rp X H' pv σ ev' F' → RX X H' v o G → (F' ++ G).Nodup → Stp F H (F' ++ G) H' → Q v H') : New X H2 o Q := fun v H3 G ro ng st =>
  q v H3 F2 G (r2.stp st) ro (r2.nd (nd_app.mp n2).1 st ng) (by
    have := s2.trans (st.frame (F := F2 ++ A))
    exact this.sub fun a m => by
      rcases List.mem_append.mp m with m | m
      · exact List.mem_append_left _ (List.mem_append_left _ m)
      · exact List.mem_append_right _ m)
theorem opD_read {f : Value → Value → Sem Value} {g : PyData → PyData → Option O} {Q : VK} (h : tM X (mOp g ma mb) σ H Q) :
    tOp (fun x y H Q => ∃ d1 d2 o, TX X H x d1 ∧ TX X H y d2 ∧ g d1 d2 = some o ∧ New X H o Q) (tM X (mFz ma)) (tM X (mFz mb)) σ H Q := by
  obtain ⟨pv, ev, F, o, ev', r, nd, hm, q⟩ := h
  obtain ⟨o1, e1, o2, h1, h2, h3⟩ := mOp_some hm
  exact two h1 h2 r nd fun x y H2 F2 r2 n2 s2 t1 t2 => ⟨_, _, o, t1, t2, h3, fin_new (A := []) r2 (by simpa using n2) (by simpa using s2) q⟩
theorem opP_read {g : PyData → O → Option O} {Q : VK} (h : tM X (mOpP g ma mb) σ H Q) :
    tOp (fun x y H Q => ∃ d1 o2 o G, TX X H x d1 ∧ RX X H y o2 G ∧ G.Nodup ∧ g d1 o2 = some o ∧ New X H o Q) (tM X (mFz ma)) (tP X mb) σ H Q := by
  obtain ⟨pv, ev, F, o, ev', r, nd, hm, q⟩ := h
  obtain ⟨o1, e1, o2, h1, h2, h3⟩ := mOpP_some hm
  exact one h1 r nd fun x H1 F1 r1 n1 s1 t1 => oneP h2 r1 n1 fun y H2 F2 A G r2 n2 s2 ro ng _ => ⟨_, o2, o, G, t1.grow (s2.grow r1.mut), ro, ng, h3, fin_new r2 n2 (s1.trans s2) q⟩
theorem zBin {op : Operator} {g : PyData → PyData → Option O} (ho : OpD X (binaryOp op) g) (ha : PE X a (tM X ma)) (hb : PE X b (tM X mb)) : PE X (.BinOp a op b pos) (tM X (mOp g ma mb)) :=
  PEimp (pe_op ho (PEfz ha) (PEfz hb)) fun _ _ _ h => opD_read (f := binaryOp op) h
theorem zCmp {op : CmpOp} {g : PyData → PyData → Option O} (ho : OpD X (compareOp op) g) (ha : PE X a (tM X ma)) (hb : PE X b (tM X mb)) (hm : behindInMarks op b = false := by first | exact nomark _ | rfl) : PE X (.Compare a [op] [b] pos) (tM X (mOp g ma mb)) :=
  PEimp (pe_cmpR ho (PEfz ha) (PEfz hb) hm) fun _ _ _ h => opD_read (f := compareOp op) h
theorem zCmpP {op : CmpOp} {g : PyData → O → Option O} (ho : OpP X (compareOp op) g) (ha : PE X a (tM X ma)) (hb : PE X b (tP X mb)) (hm : behindInMarks op b = false := by first | exact nomark _ | rfl) : PE X (.Compare a [op] [b] pos) (tM X (mOpP g ma mb)) :=
  PEimp (pe_cmpR ho (PEfz ha) hb hm) fun _ _ _ h => opP_read h

/-! ### tests -/
def mTru (f : O → Option Bool) (m : M O) : M Bool := fun ev => (m ev).bind fun p => (f p.1).map fun b => (b, p.2)
/-- a truth value -/
def oBool : O → Option Bool
  | .dat (.bool b) => some b
  | _ => none
theorem mTru_some {f : O → Option Bool} {b : Bool} {ev' : Ev} (h : mTru f ma ev = some (b, ev')) : ∃ o1, ma ev = some (o1, ev') ∧ f o1 = some b := by
  unfold mTru at h
  cases q : ma ev with
  | none => rw [q] at h; cases h
  | some p =>
    rw [q] at h
    cases q2 : f p.1 with
    | none => simp only [Option.bind_some, q2] at h; cases h
    | some z => simp only [Option.bind_some, q2] at h; cases h; exact ⟨p.1, rfl, q2⟩
theorem oBool_some {o : O} {b : Bool} (h : oBool o = some b) : o = .dat (.bool b) := by
  unfold oBool at h
  split at h
  · cases h; rfl
  · cases h
theorem T.bool {P : Program} {w : World} {K : PySem.W.Frag} {H : Hp} {v : V} {b : Bool} (t : T P w K H v (.bool b)) : v = .bl b := by cases t; rfl
theorem tst_of {m : M O} {Q : Bool → Hp → Prop} (h : tTst X (mTru oBool m) σ H Q) : tM X m σ H fun x H' => ∃ k, x = .bl k ∧ Q k H' := by
  obtain ⟨pv, ev, F, b, ev', r, nd, hm, q⟩ := h
  obtain ⟨o1, h1, h2⟩ := mTru_some hm
  rw [oBool_some h2] at h1
  refine ⟨pv, ev, F, _, ev', r, nd, h1, fun v H' F' G r' ro n s => ?_⟩
  obtain ⟨rfl, t⟩ := ro.flat
  rw [List.append_nil] at n s
  exact ⟨b, t.bool, q H' F' r' n s⟩
theorem zCmpT {op : CmpOp} {g : PyData → PyData → Option O} (ho : OpD X (compareOp op) g) (ha : PE X a (tM X ma)) (hb : PE X b (tM X mb)) (hm : behindInMarks op b = false := by first | exact nomark _ | rfl) : PT X (.Compare a [op] [b] pos) (tTst X (mTru oBool (mOp g ma mb))) :=
  PTimp (pt_cmpR ho (PEfz ha) (PEfz hb) hm) fun _ _ _ h => opD_read (f := compareOp op) (tst_of h)
theorem zCmpPT {op : CmpOp} {g : PyData → O → Option O} (ho : OpP X (compareOp op) g) (ha : PE X a (tM X ma)) (hb : PE X b (tP X mb)) (hm : behindInMarks op b = false := by first | exact nomark _ | rfl) : PT X (.Compare a [op] [b] pos) (tTst X (mTru oBool (mOpP g ma mb))) :=
  PTimp (pt_cmpR ho (PEfz ha) hb hm) fun _ _ _ h => opP_read (tst_of h)
/-- the truth of a tree -/
def oTru : O → Option Bool
  | .dat .none => some false
  | .dat (.bool b) => some b
  | .dat (.int i) => some (i != 0)
  | .dat (.str x) => if x.length ≤ sizeLine then some (x.length != 0) else none
  | .dat (.list ds) => some (!ds.isEmpty)
  | .dat (.tuple ds) => some (!ds.isEmpty)
  | .lst os => some (!os.isEmpty)
  | _ => none
theorem empty_of {α β : Type} {xs : List α} {ys : List β} (h : xs.length = ys.length) : (!xs.isEmpty) = !ys.isEmpty := by
  cases xs <;> cases ys <;> simp_all
theorem tru_of {v : V} {o : O} {b : Bool} {G : List Addr} (r : RX X H v o G) (h : oTru o = some b) : TruV X.K v H b := by
  cases r with
  | dat t =>
    cases t with
    | non => cases h; rfl
    | bl _ => cases h; rfl
    | int _ => cases h; rfl
    | str x =>
      have h : (if x.length ≤ sizeLine then some (x.length != 0) else none) = some b := h
      by_cases hz : x.length ≤ sizeLine
      · rw [if_pos hz] at h
        cases h
        refine ⟨hz, ?_⟩
        rw [Bool.eq_iff_iff]; simp
      · rw [if_neg hz] at h
        cases h
    | tup h1 h2 => cases h; exact .inr (.inl ⟨_, h1, (empty_of h2.length).symm⟩)
    | lst h1 h2 => cases h; exact .inl ⟨_, h1.seq, (empty_of h2.length).symm⟩
    | dct _ _ _ => cases h
  | lst h1 h2 => cases h; exact .inl ⟨_, SqL.of h1, (empty_of h2.length).symm⟩
  | dct _ _ _ => cases h
theorem zTru (ha : PE X a (tP X ma)) (he : ∀ whole, isTrue a X.env whole = (do let v ← whole; standAt a.pos; holding [v] (truthy v)) := by intro _; rfl) : PT X a (tTst X (mTru oTru ma)) :=
  PTimp (pt_truth ha he) fun σ H Q h => by
    obtain ⟨pv, ev, F, b, ev', r, nd, hm, q⟩ := h
    obtain ⟨o1, h1, h2⟩ := mTru_some hm
    exact oneP h1 r nd fun x H1 F1 A G r1 n1 s1 ro ng _ => ⟨b, tru_of ro h2, q H1 F1 r1 (nd_app.mp n1).1 (s1.sub fun a m => List.mem_append_left _ m)⟩
def mAnd (m m' : M Bool) : M Bool := fun ev => (m ev).bind fun p => if p.1 = true then m' p.2 else some (false, p.2)
def mOr (m m' : M Bool) : M Bool := fun ev => (m ev).bind fun p => if p.1 = true then some (true, p.2) else m' p.2
def mNot (m : M Bool) : M Bool := fun ev => (m ev).map fun p => (!p.1, p.2)
theorem tst_next {m : M Bool} {e1 : Ev} {b : Bool} {Q : Bool → Hp → Prop} (h : m ev = some (b, e1)) (r : Rp X H pv σ ev F) (nd : F.Nodup) (k : ∀ H1 F1, Rp X H1 pv σ e1 F1 → F1.Nodup → Stp F H F1 H1 → Q b H1) : tTst X m σ H Q :=
  ⟨pv, ev, F, b, e1, r, nd, h, k⟩
variable {m m' : M Bool} {rest : List Expr}
theorem zAnd1 (h : PT X a (tTst X m)) : PW X (.BoolOp .And [a] pos) (tTst X m) := pw_and1 h
theorem zOr1 (h : PT X a (tTst X m)) : PW X (.BoolOp .Or [a] pos) (tTst X m) := pw_or1 h
theorem zAnd (h : PT X a (tTst X m)) (h' : PW X (.BoolOp .And (b :: rest) pos) (tTst X m')) : PW X (.BoolOp .And (a :: b :: rest) pos) (tTst X (mAnd m m')) := PWimp (pw_and h h') fun σ H Q q => by
  obtain ⟨pv, ev, F, k, ev', r, nd, hm, q⟩ := q
  unfold mAnd at hm
  cases e : m ev with
  | none => rw [e] at hm; cases hm
  | some p =>
    obtain ⟨c, e1⟩ := p
    rw [e] at hm
    refine tst_next e r nd fun H1 F1 r1 n1 s1 => ?_
    cases c with
    | false =>
      cases (show some (false, e1) = some (k, ev') from hm)
      exact iteF (q H1 F1 r1 n1 s1)
    | true => exact iteT ⟨pv, e1, F1, k, ev', r1, n1, hm, fun H2 F2 r2 n2 s2 => q H2 F2 r2 n2 (s1.trans s2)⟩
theorem zOr (h : PT X a (tTst X m)) (h' : PW X (.BoolOp .Or (b :: rest) pos) (tTst X m')) : PW X (.BoolOp .Or (a :: b :: rest) pos) (tTst X (mOr m m')) := PWimp (pw_or h h') fun σ H Q q => by
  obtain ⟨pv, ev, F, k, ev', r, nd, hm, q⟩ := q
  unfold mOr at hm
  cases e : m ev with
  | none => rw [e] at hm; cases hm
  | some p =>
    obtain ⟨c, e1⟩ := p
    rw [e] at hm
    refine tst_next e r nd fun H1 F1 r1 n1 s1 => ?_
    cases c with
    | true =>
      cases (show some (true, e1) = some (k, ev') from hm)
      exact iteT (q H1 F1 r1 n1 s1)
    | false => exact iteF ⟨pv, e1, F1, k, ev', r1, n1, hm, fun H2 F2 r2 n2 s2 => q H2 F2 r2 n2 (s1.trans s2)⟩
theorem zNot (h : PT X a (tTst X m)) : PT X (.UnaryOp .Not a pos) (tTst X (mNot m)) := PTimp (pt_not h) fun σ H Q q => by
  obtain ⟨pv, ev, F, k, ev', r, nd, hm, q⟩ := q
  unfold mNot at hm
  cases e : m ev with
  | none => rw [e] at hm; cases hm
  | some p =>
    rw [e] at hm
    cases hm
    exact tst_next e r nd fun H1 F1 r1 n1 s1 => q H1 F1 r1 n1 s1
def mIf (m : M Bool) (ma mb : M O) : M O := fun ev => (m ev).bind fun p => if p.1 = true then ma p.2 else mb p.2
theorem zIfE {c : Expr} (h : PT X c (tTst X m)) (ha : PE X a (tM X ma)) (hb : PE X b (tM X mb)) : PE X (.IfExp c a b pos) (tM X (mIf m ma mb)) := PEimp (pe_ifExp h ha hb) fun σ H Q q => by
  obtain ⟨pv, ev, F, o, ev', r, nd, hm, q⟩ := q
  unfold mIf at hm
  cases e : m ev with
  | none => rw [e] at hm; cases hm
  | some p =>
    obtain ⟨c, e1⟩ := p
    rw [e] at hm
    refine tst_next e r nd fun H1 F1 r1 n1 s1 => ?_
    cases c with
    | true => exact iteT ⟨pv, e1, F1, o, ev', r1, n1, hm, fun v H2 F2 G r2 ro n2 s2 => q v H2 F2 G r2 ro n2 (s1.trans s2)⟩
    | false => exact iteF ⟨pv, e1, F1, o, ev', r1, n1, hm, fun v H2 F2 G r2 ro n2 s2 => q v H2 F2 G r2 ro n2 (s1.trans s2)⟩
end
end Z
set_option Elab.async false
set_option linter.all false
set_option maxRecDepth 100000
set_option maxHeartbeats 1000000
/-! Z4: argument lists, displays, subscripts, statements, loops. -/
namespace Z
open PySem PySem.Spec PyProof.Rows L2

section
variable {X : Cx} {pos : Pos} {a b e : Expr} {es : List Expr} {ma mb m : M O} {ms : M (List O)} {pv : Pv} {σ : L2.St} {H : Hp} {ev e1 e2 : Ev} {F : List Addr} {o1 o2 : O}
/-! ### rows of values -/
def mNil : M (List O) := fun ev => some ([], ev)
def mCons (m : M O) (ms : M (List O)) : M (List O) := fun ev => (m ev).bind fun p => (ms p.2).map fun q => (p.1 :: q.1, q.2)
theorem zNil : PA X [] (tMs X mNil) := PAimp pa_nil fun σ H Q h => by
  obtain ⟨pv, ev, F, os, ev', r, nd, hm, q⟩ := h
  cases hm
  exact q [] H F [] r .nil (by simpa using nd) (by simpa using Stp.refl F H)
theorem mCons_some {os : List O} {ev' : Ev} (h : mCons m ms ev = some (os, ev')) : ∃ o e1 os1, m ev = some (o, e1) ∧ ms e1 = some (os1, ev') ∧ os = o :: os1 := by
  unfold mCons at h
  cases q : m ev with
  | none => rw [q] at h; cases h
  | some p =>
    rw [q] at h
    cases q2 : ms p.2 with
    | none => simp only [Option.bind_some, q2] at h; cases h
    | some p2 => simp only [Option.bind_some, q2] at h; cases h; exact ⟨p.1, p.2, p2.1, rfl, q2, rfl⟩
theorem zCons (ha : PE X e (tM X m)) (hr : PA X es (tMs X ms)) (hs : starEach (e :: es) X.env = (false, eval e X.env) :: starEach es X.env := by rfl) : PA X (e :: es) (tMs X (mCons m ms)) := PAimp (pa_cons ha hr hs) fun σ H Q h => by
  obtain ⟨pv, ev, F, os, ev', r, nd, hm, q⟩ := h
  obtain ⟨o, e1, os1, h1, h2, rfl⟩ := mCons_some hm
  refine ⟨pv, ev, F, o, e1, r, nd, h1, fun v H1 F1 G1 r1 ro n1 s1 => ?_⟩
  obtain ⟨na, nb, nc⟩ := nd_app.mp n1
  refine ⟨pv, e1, F1, os1, ev', r1, na, h2, fun vs H2 F2 G2 r2 rs n2 s2 => ?_⟩
  have ap : ∀ a ∈ G1, a ∉ F1 := fun a m z => nc a z m
  have ro2 := ro.keep (s2.grow r1.mut) fun a m => s2.at (ap a m) (ro.mut a m)
  have ap2 : ∀ a ∈ G1, a ∉ F2 ++ G2 := fun a m => s2.apart (ap a m) (ro.mut a m)
  obtain ⟨k1, k2, k3⟩ := nd_app.mp n2
  refine q (v :: vs) H2 F2 (G1 ++ G2) r2 (.cons ro2 rs) (nd_app.mpr ⟨k1, nd_app.mpr ⟨nb, k2, fun a m z => ap2 a m (List.mem_append_right _ z)⟩, fun a m z => ?_⟩) ?_
  · rcases List.mem_append.mp z with z | z
    · exact ap2 a z (List.mem_append_left _ m)
    · exact k3 a m z
  · have := s1.trans ((s2.more G1).wide (F2 := F1 ++ G1) fun a m => by simpa [or_comm] using m)
    exact this.sub fun a m => by simp only [List.mem_append] at m ⊢; rcases m with m | m | m <;> simp [m]
/-- rows of lasting data -/
def tDs (X : Cx) (m : M (List PyData)) : TA := fun σ H Q => ∃ pv ev F ds ev', Rp X H pv σ ev F ∧ F.Nodup ∧ m ev = some (ds, ev') ∧
  ∀ vs H' F', Rp X H' pv σ ev' F' → TsX X H' vs ds → F'.Nodup → Stp F H F' H' → Q vs H'
def mDNil : M (List PyData) := fun ev => some ([], ev)
def mDCons (m : M O) (ms : M (List PyData)) : M (List PyData) := fun ev => (m ev).bind fun p => (ms p.2).map fun q => (p.1.data :: q.1, q.2)
theorem mDCons_some {ms : M (List PyData)} {os : List PyData} {ev' : Ev} (h : mDCons m ms ev = some (os, ev')) : ∃ o e1 os1, m ev = some (o, e1) ∧ ms e1 = some (os1, ev') ∧ os = o.data :: os1 := by
  unfold mDCons at h
  cases q : m ev with
  | none => rw [q] at h; cases h
  | some p =>
    rw [q] at h
    cases q2 : ms p.2 with
    | none => simp only [Option.bind_some, q2] at h; cases h
    | some p2 => simp only [Option.bind_some, q2] at h; cases h; exact ⟨p.1, p.2, p2.1, rfl, q2, rfl⟩
theorem zDNil : PA X [] (tDs X mDNil) := PAimp pa_nil fun σ H Q h => by
  obtain ⟨pv, ev, F, os, ev', r, nd, hm, q⟩ := h
  cases hm
  exact q [] H F r .nil nd (Stp.refl F H)
theorem zDCons {ms : M (List PyData)} (ha : PE X e (tM X m)) (hr : PA X es (tDs X ms)) (hs : starEach (e :: es) X.env = (false, eval e X.env) :: starEach es X.env := by rfl) : PA X (e :: es) (tDs X (mDCons m ms)) := PAimp (pa_cons (PEfz ha) hr hs) fun σ H Q h => by
  obtain ⟨pv, ev, F, os, ev', r, nd, hm, q⟩ := h
  obtain ⟨o, e1, os1, h1, h2, rfl⟩ := mDCons_some hm
  refine one h1 r nd fun x H1 F1 r1 n1 s1 t1 => ⟨pv, e1, F1, os1, ev', r1, n1, h2, fun vs H2 F2 r2 ts n2 s2 => ?_⟩
  exact q (x :: vs) H2 F2 r2 (.cons (t1.grow (s2.grow r1.mut)) ts) n2 (s1.trans s2)

/-! ### displays -/
theorem upd_stp {p : Addr} {u : HO} (n : H p = none) : Stp [] H [p] (upd H p u) := ⟨fun a v _ _ e => by rw [upd_ne (ne_of_none e n)]; exact e, fun a _ e => by
  by_cases q : a = p
  · rw [q]; exact n
  · rw [upd_ne q] at e; exact e, fun a ⟨ps, e, t⟩ => ⟨ps, by rw [upd_ne (ne_of_none e n)]; exact e, t⟩, fun a m => .inr (by rw [List.mem_singleton.mp m]; exact n)⟩
def mLst (ms : M (List O)) : M O := fun ev => (ms ev).bind fun p => if p.1.length ≤ sizeLine then some (.lst p.1, p.2) else none
theorem zLst (h : PA X es (tMs X ms)) : PE X (.List es pos) (tM X (mLst ms)) := PEimp (pe_lst h) fun σ H Q q => by
  obtain ⟨pv, ev, F, o, ev', r, nd, hm, q⟩ := q
  unfold mLst at hm
  cases e : ms ev with
  | none => rw [e] at hm; cases hm
  | some p =>
    rw [e] at hm
    simp only [Option.bind_some] at hm
    split at hm
    · rename_i hz
      cases hm
      refine ⟨pv, ev, F, p.1, p.2, r, nd, e, fun vs H1 F1 G1 r1 rs n1 s1 => ⟨by rw [rs.length]; exact hz, fun d hd => ?_⟩⟩
      have st : Stp [] H1 [d] (upd H1 d (.lst vs)) := upd_stp hd
      obtain ⟨na, nb, nc⟩ := nd_app.mp n1
      have ap : ∀ a, Mut (H1 a) → a ≠ d := fun a m z => by rw [z, hd] at m; exact m
      refine q (.ref d) _ F1 (d :: G1) (r1.stp st) (.lst upd_same (rs.keep (st.grow fun _ m => by cases m) fun a m => st.at (by simp) (rs.mut a m))) (nd_app.mpr ⟨na, List.nodup_cons.mpr ⟨fun z => ap d (rs.mut d z) rfl, nb⟩, fun a m z => ?_⟩) ?_
      · rcases List.mem_cons.mp z with z | z
        · exact ap a (r1.mut a m) z
        · exact nc a m z
      · have := s1.trans (st.frame (F := F1 ++ G1))
        exact this.sub fun a m => by simp only [List.mem_append, List.mem_cons, List.not_mem_nil, or_false] at m ⊢; rcases m with m | m | m <;> simp [m]
    · cases hm
def mTup (ms : M (List PyData)) : M O := fun ev => (ms ev).bind fun p => if p.1.length ≤ sizeLine then some (.dat (.tuple p.1), p.2) else none
theorem zTup {k : Nat} {ms : M (List PyData)} (h : PA X es (tDs X ms)) : PE X (.Tuple es k pos) (tM X (mTup ms)) := PEimp (pe_tup h) fun σ H Q q => by
  obtain ⟨pv, ev, F, o, ev', r, nd, hm, q⟩ := q
  unfold mTup at hm
  cases e : ms ev with
  | none => rw [e] at hm; cases hm
  | some p =>
    rw [e] at hm
    simp only [Option.bind_some] at hm
    split at hm
    · rename_i hz
      cases hm
      refine ⟨pv, ev, F, p.1, p.2, r, nd, e, fun vs H1 F1 r1 ts n1 s1 => ⟨by rw [ts.length]; exact hz, fun d hd => ?_⟩⟩
      have st : Stp [] H1 [] (upd H1 d (.tup vs)) := (upd_stp hd).sub fun _ m => by cases m
      exact fin_new (A := []) r1 (by simpa using n1) (by simpa using s1) q _ _ [] (.dat (.tup (.inl (.inl upd_same)) (ts.grow (st.grow fun _ m => by cases m)))) List.nodup_nil st
    · cases hm

/-! ### subscripts -/
def ixD : PyData → PyData → Option PyData
  | .list ds, .int i => atI ds i
  | .tuple ds, .int i => atI ds i
  | .str x, .int i => if x.length ≤ sizeLine then (atI x.cps.toList i).map fun c => .str ⟨#[c]⟩ else none
  | _, _ => none
def ixO : O → PyData → Option O
  | .dat d, k => (ixD d k).map .dat
  | .lst os, .int i => match atI os i with
    | some (.dat d) => some (.dat d)
    | _ => none
  | _, _ => none
theorem atI_same {α β : Type} {xs : List α} {ys : List β} (h : xs.length = ys.length) {i : Int} {y : β} (e : atI ys i = some y) : ∃ j : Nat, ys[j]? = some y ∧ atI xs i = xs[j]? := by
  unfold atI at e ⊢
  rw [h]
  cases q : ixN ys.length i with
  | none => rw [q] at e; cases e
  | some j => rw [q] at e; exact ⟨j, e, rfl⟩
theorem ixD_ok {v y : V} {d k r : PyData} {Q : VK} (t : TX X H v d) (tk : TX X H y k) (h : ixD d k = some r) (q : ∀ z, TX X H z r → Q z H) : rIx X.K v y H Q := by
  unfold ixD at h
  split at h
  · cases tk
    cases t with
    | lst hl ts =>
      obtain ⟨j, h1, h2⟩ := atI_same ts.length h
      obtain ⟨z, h3, h4⟩ := ts.get h1
      exact .inl ⟨_, _, _, z, rfl, rfl, hl.seq, h2.trans h3, q z h4⟩
  · cases tk
    cases t with
    | tup hl ts =>
      obtain ⟨j, h1, h2⟩ := atI_same ts.length h
      obtain ⟨z, h3, h4⟩ := ts.get h1
      exact .inr (.inl ⟨_, _, _, z, rfl, rfl, hl, h2.trans h3, q z h4⟩)
  · cases tk
    cases t with
    | str =>
      rename_i x i
      split at h
      · rename_i hz
        cases e : atI x.cps.toList i with
        | none => rw [e] at h; cases h
        | some c => rw [e] at h; cases h; exact .inr (.inr ⟨x, i, c, rfl, rfl, hz, e, q _ (.str _)⟩)
      · cases h
  · cases h
theorem ROs.get {P : Program} {w : World} {K : PySem.W.Frag} {H : Hp} : ∀ {vs : List V} {os : List O} {F : List Addr} {i : Nat} {o : O}, ROs P w K H vs os F → os[i]? = some o → ∃ v Fo, vs[i]? = some v ∧ RO P w K H v o Fo ∧ ∀ a ∈ Fo, a ∈ F
  | _, _, _, _, _, .nil, e => by simp at e
  | _, _, _, 0, _, .cons h _, e => by
    have e : _ = _ := Option.some.inj e
    subst e
    exact ⟨_, _, rfl, h, fun a m => List.mem_append_left _ m⟩
  | _, _, _, i + 1, _, .cons _ t, e => by
    obtain ⟨v, Fo, h1, h2, h3⟩ := ROs.get (i := i) t (by simpa using e)
    exact ⟨v, Fo, h1, h2, fun a m => List.mem_append_right _ (h3 a m)⟩
theorem ixO_ok {v y : V} {o : O} {k : PyData} {r : O} {G : List Addr} {Q : VK} (t : RX X H v o G) (tk : TX X H y k) (h : ixO o k = some r) (q : ∀ z d, r = .dat d → TX X H z d → Q z H) : rIx X.K v y H Q := by
  unfold ixO at h
  split at h
  · rename_i d
    obtain ⟨rfl, t'⟩ := RO.flat t
    cases e : ixD d k with
    | none => rw [e] at h; cases h
    | some z => rw [e] at h; cases h; exact ixD_ok t' tk e fun z hz => q z _ rfl hz
  · cases tk
    rename_i os i
    cases t with
    | lst hl ts =>
      split at h
      · rename_i d e
        cases h
        obtain ⟨j, h1, h2⟩ := atI_same ts.length e
        obtain ⟨z, Fo, h3, h4, _⟩ := ts.get h1
        exact .inl ⟨_, _, _, z, rfl, rfl, SqL.of hl, h2.trans h3, q z d rfl h4.flat.2⟩
      · cases h
  · cases h
def mIx (ma mb : M O) : M O := mOp (fun d k => (ixD d k).map .dat) ma mb
theorem zIx (ha : PE X a (tM X ma)) (hb : PE X b (tM X mb)) (hs : PlainIx b := by exact fun _ _ => rfl) : PE X (.Subscript a b pos) (tM X (mIx ma mb)) := PEimp (pe_ix ix_seq (PEfz ha) (PEfz hb) hs) fun σ H Q h => by
  obtain ⟨pv, ev, F, o, ev', r, nd, hm, q⟩ := h
  obtain ⟨o1, e1, o2, h1, h2, h3⟩ := mOp_some hm
  refine two h1 h2 r nd fun x y H2 F2 r2 n2 s2 t1 t2 => ?_
  cases e : ixD o1.data o2.data with
  | none => rw [e] at h3; cases h3
  | some z =>
    rw [e] at h3
    cases h3
    exact ixD_ok t1 t2 e fun v tv => (fin_new (A := []) r2 (by simpa using n2) (by simpa using s2) q).dat tv
/-- x[e]: x's own list read -/
def mIxN (i : Nat) (mb : M O) : M O := fun ev => (ev[i]?.bind Sl.see).bind fun _ => (mb ev).bind fun p => (p.2[i]?.bind Sl.see).bind fun o => (ixO o p.1.data).map fun r => (r, p.2)
theorem mIxN_some {i : Nat} {r : O} {ev' : Ev} (h : mIxN i mb ev = some (r, ev')) : ∃ o0 k o, ev[i]?.bind Sl.see = some o0 ∧ mb ev = some (k, ev') ∧ ev'[i]?.bind Sl.see = some o ∧ ixO o k.data = some r := by
  unfold mIxN at h
  cases q0 : ev[i]?.bind Sl.see with
  | none => rw [q0] at h; cases h
  | some o0 =>
    simp only [q0, Option.bind_some] at h
    cases q : mb ev with
    | none => rw [q] at h; cases h
    | some p =>
      simp only [q, Option.bind_some] at h
      cases q2 : p.2[i]?.bind Sl.see with
      | none => rw [q2] at h; cases h
      | some o =>
        simp only [q2, Option.bind_some] at h
        cases q3 : ixO o p.1.data with
        | none => rw [q3] at h; cases h
        | some z => rw [q3] at h; cases h; exact ⟨o0, p.1, o, rfl, rfl, q2, q3⟩
theorem ixO_dat {o r : O} {k : PyData} (h : ixO o k = some r) : ∃ d, r = .dat d := by
  unfold ixO at h
  split at h
  · rename_i d
    cases e : ixD d k with
    | none => rw [e] at h; cases h
    | some z => rw [e] at h; cases h; exact ⟨z, rfl⟩
  · split at h
    · cases h; exact ⟨_, rfl⟩
    · cases h
  · cases h
theorem zIxN {x : Str} {px : Pos} (i : Nat) (hb : PE X b (tM X mb)) (hN : X.N[i]? = some x := by rfl) (hv : Vis X.env.scope x := by first | exact Or.inl rfl | exact Or.inr (Or.inl rfl) | exact Or.inr (Or.inr rfl)) (hs : PlainIx b := by exact fun _ _ => rfl)
    (hd : (x == ("__debug__" : Str)) = false := by decide) (hcd : (x == ("__classdict__" : Str)) = false := by decide) : PE X (.Subscript (.Name x px) b pos) (tM X (mIxN i mb)) := PEimp (pe_ix ix_seq (pe_var hN hv hd hcd) (PEfz hb) hs) fun σ H Q h => by
  obtain ⟨pv, ev, F, o, ev', r, nd, hm, q⟩ := h
  obtain ⟨o0, k, oi, h0, h1, h2, h3⟩ := mIxN_some hm
  obtain ⟨v, _, hv', _⟩ := r.peek nd h0
  refine ⟨v, hv', one h1 r nd fun y H1 F1 r1 n1 s1 t1 => ?_⟩
  obtain ⟨v2, Fo, hv2, ro, _⟩ := r1.peek n1 h2
  rw [hv'] at hv2
  cases hv2
  refine ixO_ok ro t1 h3 fun z d e tz => ?_
  subst e
  exact (fin_new (A := []) r1 (by simpa using n1) (by simpa using s1) q).dat tz
end

/-! ### statements -/
section
variable {X : Cx} {pos : Pos} {e : Expr} {m : M O} {ms mt : M Out} {st : Stmt} {rest : List Stmt}
def mNx : M Out := fun ev => some (.nx, ev)
def mSeq (m m' : M Out) : M Out := fun ev => match m ev with
  | some (.nx, e1) => m' e1
  | r => r
theorem zNx : PSs X [] (tS X mNx) := PSsimp pss_nil fun D σ H h => by
  obtain ⟨pv, ev, F, out, ev', r, nd, hm, q⟩ := h
  cases hm
  exact q σ H F r nd (Stp.refl _ _)
theorem zSeq (h : PS X st (tS X ms)) (h' : PSs X rest (tS X mt)) : PSs X (st :: rest) (tS X (mSeq ms mt)) := PSsimp (pss_cons h h') fun D σ H q => by
  obtain ⟨pv, ev, F, out, ev', r, nd, hm, q⟩ := q
  unfold mSeq at hm
  cases e : ms ev with
  | none => rw [e] at hm; cases hm
  | some p =>
    obtain ⟨o1, e1⟩ := p
    rw [e] at hm
    refine ⟨pv, ev, F, o1, e1, r, nd, e, ?_⟩
    cases o1 with
    | nx => exact fun σ1 H1 F1 r1 n1 s1 => ⟨pv, e1, F1, out, ev', r1, n1, hm, q.trans s1⟩
    | bk => cases (show some (Out.bk, e1) = some (out, ev') from hm); exact q
    | ct => cases (show some (Out.ct, e1) = some (out, ev') from hm); exact q
    | rt o => cases (show some (Out.rt o, e1) = some (out, ev') from hm); exact q
theorem zEnd (h : PS X st (tS X ms)) : PSs X [st] (tS X ms) := pss_one h
def mOut (o : Out) : M Out := fun ev => some (o, ev)
theorem zPass : PS X (.Pass pos) (tS X (mOut .nx)) := PSimp ps_pass fun D σ H h => by
  obtain ⟨pv, ev, F, out, ev', r, nd, hm, q⟩ := h
  cases hm
  exact q σ H F r nd (Stp.refl _ _)
theorem zBreak : PS X (.Break pos) (tS X (mOut .bk)) := PSimp ps_break fun D σ H h => by
  obtain ⟨pv, ev, F, out, ev', r, nd, hm, q⟩ := h
  cases hm
  exact q σ H F r nd (Stp.refl _ _)
theorem zCont : PS X (.Continue pos) (tS X (mOut .ct)) := PSimp ps_continue fun D σ H h => by
  obtain ⟨pv, ev, F, out, ev', r, nd, hm, q⟩ := h
  cases hm
  exact q σ H F r nd (Stp.refl _ _)
def mNo : M Out := fun _ => none
theorem zNever : PS X st (tS X mNo) := PSimp ps_never fun D σ H h => by
  obtain ⟨pv, ev, F, out, ev', r, nd, hm, q⟩ := h
  cases hm
def mRet (m : M O) : M Out := fun ev => (m ev).map fun p => (.rt p.1, p.2)
theorem zRet (h : PE X e (tM X m)) : PS X (.Return (some e) pos) (tS X (mRet m)) := PSimp (ps_ret h) fun D σ H q => by
  obtain ⟨pv, ev, F, out, ev', r, nd, hm, q⟩ := q
  unfold mRet at hm
  cases e : m ev with
  | none => rw [e] at hm; cases hm
  | some p =>
    rw [e] at hm
    cases hm
    exact ⟨pv, ev, F, p.1, p.2, r, nd, e, fun v H1 F1 G r1 ro n1 s1 => q σ v H1 F1 G r1 ro n1 s1⟩
theorem zRetN : PS X (.Return none pos) (tS X (mRet (mC .none))) := PSimp ps_retN fun D σ H q => by
  obtain ⟨pv, ev, F, out, ev', r, nd, hm, q⟩ := q
  cases hm
  exact q σ .non H F [] r (.dat .non) (by simpa using nd) (by simpa using Stp.refl F H)
def mEx (m : M O) : M Out := fun ev => (m ev).map fun p => (.nx, p.2)
theorem zEx (h : PE X e (tM X m)) (hs : swapsWith e none pos.line X.env = pure false := by rfl) : PS X (.Expr e pos) (tS X (mEx m)) := PSimp (ps_expr h hs) fun D σ H q => by
  obtain ⟨pv, ev, F, out, ev', r, nd, hm, q⟩ := q
  unfold mEx at hm
  cases e : m ev with
  | none => rw [e] at hm; cases hm
  | some p =>
    rw [e] at hm
    cases hm
    exact ⟨pv, ev, F, p.1, p.2, r, nd, e, fun v H1 F1 G r1 ro n1 s1 => q σ H1 F1 r1 (nd_app.mp n1).1 (s1.sub fun a m => List.mem_append_left _ m)⟩
theorem zDoc {x : Str} {j : Nat} {pos' : Pos} : PS X (.Expr (.Constant (.str x) j pos) pos') (tS X mNx) := PSimp ps_doc fun D σ H h => by
  obtain ⟨pv, ev, F, out, ev', r, nd, hm, q⟩ := h
  cases hm
  exact q σ H F r nd (Stp.refl _ _)
/-- a slot stored anew -/
def mPut (i : Nat) (o : O) (ev : Ev) : Option Ev := match ev[i]? with
  | some .un => some (ev.set i (.var o))
  | some (.var _) => some (ev.set i (.var o))
  | _ => none
theorem mPut_some {i : Nat} {o : O} {ev ev' : Ev} (h : mPut i o ev = some ev') : ∃ sl, ev[i]? = some sl ∧ (∀ p, sl ≠ .par p) ∧ (∀ p, sl ≠ .ro p) ∧ ev' = ev.set i (.var o) := by
  unfold mPut at h
  split at h
  · rename_i e; cases h; exact ⟨_, e, (fun p z => nomatch z), (fun p z => nomatch z), rfl⟩
  · rename_i e; cases h; exact ⟨_, e, (fun p z => nomatch z), (fun p z => nomatch z), rfl⟩
  · cases h
def mAsg (i : Nat) (m : M O) : M Out := fun ev => (m ev).bind fun p => (mPut i p.1 p.2).map fun e => (.nx, e)
theorem put_read {i : Nat} {D : Ends} {σ : L2.St} {H : Hp} (h : tS X (mAsg i m) D σ H) : tM X m σ H fun x H1 => D.nx (σ.set i (some x)) H1 := by
  obtain ⟨pv, ev, F, out, ev', r, nd, hm, q⟩ := h
  unfold mAsg at hm
  cases e : m ev with
  | none => rw [e] at hm; cases hm
  | some p =>
    simp only [e, Option.bind_some] at hm
    cases e2 : mPut i p.1 p.2 with
    | none => rw [e2] at hm; cases hm
    | some ev2 =>
      rw [e2] at hm
      cases hm
      obtain ⟨sl, a1, a2, a3, rfl⟩ := mPut_some e2
      refine ⟨pv, ev, F, p.1, p.2, r, nd, e, fun v H1 F1 G r1 ro n1 s1 => ?_⟩
      obtain ⟨Fo, R, p1, _, p2⟩ := r1.store a1 a2 a3
      obtain ⟨na, nb, nc⟩ := nd_app.mp n1
      have nR := (nd_app.mp (p1.nodup_iff.mp na)).2.1
      have inR : ∀ a ∈ R, a ∈ F1 := fun a m => p1.mem_iff.mpr (List.mem_append_right _ m)
      refine q _ H1 (G ++ R) (p2 (fun a m z => r.wApart s1 a m (List.mem_append_right _ z)) ro) (nd_app.mpr ⟨nb, nR, fun a m z => nc a (inR a z) m⟩) (s1.sub fun a m => ?_)
      rcases List.mem_append.mp m with m | m
      · exact List.mem_append_right _ m
      · exact List.mem_append_left _ (inR a m)
theorem zAsg {x : Str} {pos' : Pos} (i : Nat) (he : PE X e (tM X m)) (hN : X.N.Nodup) (hi : X.N[i]? = some x := by rfl) (hx : Loc X.env.scope x := by first | exact Or.inl rfl | exact Or.inr rfl) (hs : swapsWith e (some (.Name x pos')) pos.line X.env = pure false := by rfl)
    (hf : X.fn x = true ∨ X.env.scope.names.lookup x = some .local := by first | exact .inl rfl | exact .inr rfl) : PS X (.Assign [.Name x pos'] e pos) (tS X (mAsg i m)) :=
  PSimp (ps_set hN hi hx he hs hf) fun D σ H h => put_read h
def mIfS (c : M Bool) (m m' : M Out) : M Out := fun ev => (c ev).bind fun p => if p.1 = true then m p.2 else m' p.2
theorem zIf {c : Expr} {sa sb : List Stmt} {mc : M Bool} {m1 m2 : M Out} (hc : PT X c (tTst X mc)) (ha : PSs X sa (tS X m1)) (hb : PSs X sb (tS X m2)) : PS X (.If c sa sb pos) (tS X (mIfS mc m1 m2)) := PSimp (ps_if hc ha hb) fun D σ H q => by
  obtain ⟨pv, ev, F, out, ev', r, nd, hm, q⟩ := q
  unfold mIfS at hm
  cases e : mc ev with
  | none => rw [e] at hm; cases hm
  | some p =>
    obtain ⟨b, e1⟩ := p
    rw [e] at hm
    refine tst_next e r nd fun H1 F1 r1 n1 s1 => ?_
    cases b with
    | true => exact iteT ⟨pv, e1, F1, out, ev', r1, n1, hm, q.trans s1⟩
    | false => exact iteF ⟨pv, e1, F1, out, ev', r1, n1, hm, q.trans s1⟩

/-! ### targets -/
def gM (X : Cx) (mt : PyData → Ev → Option Ev) : TG := fun v σ H Q => ∃ pv ev F d ev', Rp X H pv σ ev F ∧ F.Nodup ∧ TX X H v d ∧ mt d ev = some ev' ∧ ∀ σ' F', Rp X H pv σ' ev' F' → F'.Nodup → (∀ a ∈ F', a ∈ F) → Q σ' H
def gMs (X : Cx) (mt : List PyData → Ev → Option Ev) : TGs := fun vs σ H Q => ∃ pv ev F ds ev', Rp X H pv σ ev F ∧ F.Nodup ∧ TsX X H vs ds ∧ mt ds ev = some ev' ∧ ∀ σ' F', Rp X H pv σ' ev' F' → F'.Nodup → (∀ a ∈ F', a ∈ F) → Q σ' H
theorem PGimp {tg : Expr} {t t' : TG} (h : PG X tg t) (i : ∀ v σ H Q, t' v σ H Q → t v σ H Q) : PG X tg t' := ⟨fun pins s σ H v u Q I r q => h.run pins s σ H v u Q I r (i v σ H Q q)⟩
theorem PGsimp {tg : List Expr} {t t' : TGs} (h : PGs X tg t) (i : ∀ v σ H Q, t' v σ H Q → t v σ H Q) : PGs X tg t' := ⟨fun pins s σ H v u Q I r q => h.run pins s σ H v u Q I r (i v σ H Q q)⟩
def tgN (i : Nat) : PyData → Ev → Option Ev := fun d ev => mPut i (.dat d) ev
theorem zgN {x : Str} (i : Nat) (hN : X.N.Nodup) (hi : X.N[i]? = some x := by rfl) (hx : Loc X.env.scope x := by first | exact Or.inl rfl | exact Or.inr rfl) (hf : X.fn x = true ∨ X.env.scope.names.lookup x = some .local := by first | exact .inl rfl | exact .inr rfl) :
    PG X (.Name x pos) (gM X (tgN i)) := PGimp (pg_name hN hi hx hf) fun v σ H Q h => by
  obtain ⟨pv, ev, F, d, ev', r, nd, t, hm, q⟩ := h
  obtain ⟨sl, a1, a2, a3, rfl⟩ := mPut_some hm
  obtain ⟨Fo, R, p1, _, p2⟩ := r.store a1 a2 a3
  exact q _ R (p2 (fun a m z => by cases z) (.dat t)) (nd_app.mp (p1.nodup_iff.mp nd)).2.1 fun a m => p1.mem_iff.mpr (List.mem_append_right _ m)
def tgNil : List PyData → Ev → Option Ev
  | [], ev => some ev
  | _, _ => none
def tgCons (t : PyData → Ev → Option Ev) (u : List PyData → Ev → Option Ev) : List PyData → Ev → Option Ev
  | d :: ds, ev => (t d ev).bind (u ds)
  | _, _ => none
theorem zgNil : PGs X [] (gMs X tgNil) := PGsimp pgs_nil fun vs σ H Q h => by
  obtain ⟨pv, ev, F, ds, ev', r, nd, t, hm, q⟩ := h
  cases t with
  | nil => cases hm; exact ⟨rfl, q σ F r nd fun _ m => m⟩
  | cons _ _ => cases hm
theorem zgCons {tg : Expr} {tgs : List Expr} {t : PyData → Ev → Option Ev} {u : List PyData → Ev → Option Ev} (h : PG X tg (gM X t)) (h' : PGs X tgs (gMs X u)) (hs : (assignEach (tg :: tgs) X.env).map (·.2) = assign tg X.env :: (assignEach tgs X.env).map (·.2) := by rfl) :
    PGs X (tg :: tgs) (gMs X (tgCons t u)) := PGsimp (pgs_cons h h' hs) fun vs σ H Q q => by
  obtain ⟨pv, ev, F, ds, ev', r, nd, ts, hm, q⟩ := q
  cases ts with
  | nil => cases hm
  | cons t1 ts =>
    rename_i v d vs ds
    have hm : (t d ev).bind (u ds) = some ev' := hm
    cases e : t d ev with
    | none => rw [e] at hm; cases hm
    | some e1 =>
      rw [e] at hm
      exact ⟨v, vs, rfl, pv, ev, F, d, e1, r, nd, t1, e, fun σ1 F1 r1 n1 s1 => ⟨pv, e1, F1, ds, ev', r1, n1, ts, hm, fun σ2 F2 r2 n2 s2 => q σ2 F2 r2 n2 fun a m => s1 a (s2 a m)⟩⟩
def tgTup (n : Nat) (u : List PyData → Ev → Option Ev) : PyData → Ev → Option Ev
  | .tuple ds, ev => if ds.length = n then u ds ev else none
  | _, _ => none
theorem zgTup {tgs : List Expr} {k n : Nat} {u : List PyData → Ev → Option Ev} (hc : X.calm = true) (h : PGs X tgs (gMs X u)) (hn : (assignEach tgs X.env).length = n := by rfl) (hst : (assignEach tgs X.env).findIdx? (·.1) = none := by rfl) : PG X (.Tuple tgs k pos) (gM X (tgTup n u)) :=
  PGimp (pg_tup hc h hn hst) fun v σ H Q q => by
  obtain ⟨pv, ev, F, d, ev', r, nd, t, hm, q⟩ := q
  cases t with
  | tup hl ts =>
    rename_i a xs ds
    have hm : (if ds.length = n then u ds ev else none) = some ev' := hm
    split at hm
    · rename_i hlen
      exact ⟨a, xs, rfl, hl, ts.length.trans hlen, pv, ev, F, ds, ev', r, nd, ts, hm, q⟩
    · cases hm
  | _ => cases hm
def mAsgT (t : PyData → Ev → Option Ev) (m : M O) : M Out := fun ev => (m ev).bind fun p => (t p.1.data p.2).map fun e => (.nx, e)
theorem zAsgT {tg : Expr} {t : PyData → Ev → Option Ev} (he : PE X e (tM X m)) (hg : PG X tg (gM X t)) (hs : swapsWithSole [tg] e pos.line X.env = pure false := by rfl) (hw : swappedStores [tg] e X.env = pure none := by rfl)
    (h1 : (assignEach [tg] X.env).map (·.2) = [assign tg X.env] := by rfl) : PS X (.Assign [tg] e pos) (tS X (mAsgT t m)) := PSimp (ps_asg (PEfz he) hg hs hw h1) fun D σ H h => by
  obtain ⟨pv, ev, F, out, ev', r, nd, hm, q⟩ := h
  unfold mAsgT at hm
  cases e : m ev with
  | none => rw [e] at hm; cases hm
  | some p =>
    simp only [e, Option.bind_some] at hm
    cases e2 : t p.1.data p.2 with
    | none => rw [e2] at hm; cases hm
    | some ev2 =>
      rw [e2] at hm
      cases hm
      exact one e r nd fun x H1 F1 r1 n1 s1 t1 => ⟨pv, p.2, F1, _, _, r1, n1, t1, e2, fun σ2 F2 r2 n2 s2 => q σ2 H1 F2 r2 n2 (s1.sub s2)⟩

/-! ### for -/
/-- the walk yields these data -/
def Yl (X : Cx) (J : It) (H1 : Hp) (ds : List PyData) : Prop := ∀ i H2, Grow H1 H2 →
  (∀ d, ds[i]? = some d → J.go i H2 ∧ ∀ x H3, J.yld i H2 x H3 → TX X H3 x d ∧ Stp [] H2 [] H3) ∧ (ds.length ≤ i → J.stop i H2)
def tI (X : Cx) (m : M (List PyData)) : TI := fun σ H R => ∃ pv ev F ds ev', Rp X H pv σ ev F ∧ F.Nodup ∧ m ev = some (ds, ev') ∧
  ∀ J H' F', Rp X H' pv σ ev' F' → F'.Nodup → Stp F H F' H' → Yl X J H' ds → R J H'
theorem PIimp {tg it : Expr} {t t' : TI} (h : PI X tg it t) (i : ∀ σ H R, t' σ H R → t σ H R) : PI X tg it t' := ⟨fun pins s σ H R I q => h.run pins s σ H R I (i σ H R q)⟩
theorem PIor {tg it : Expr} {t t' : TI} (h : PI X tg it t) (h' : PI X tg it t') : PI X tg it (fun σ H R => t σ H R ∨ t' σ H R) :=
  ⟨fun pins s σ H R I q => q.elim (h.run pins s σ H R I) (h'.run pins s σ H R I)⟩
/-- a list or a tuple of data, walked -/
def itD : PyData → Option (List PyData)
  | .list ds => some ds
  | .tuple ds => some ds
  | _ => none
def mItD (m : M O) : M (List PyData) := fun ev => (m ev).bind fun p => (itD p.1.data).map fun ds => (ds, p.2)
theorem mItD_some {ev ev' : Ev} {ds : List PyData} (h : mItD m ev = some (ds, ev')) : ∃ o, m ev = some (o, ev') ∧ itD o.data = some ds := by
  unfold mItD at h
  cases q : m ev with
  | none => rw [q] at h; cases h
  | some p =>
    simp only [q, Option.bind_some] at h
    cases q2 : itD p.1.data with
    | none => rw [q2] at h; cases h
    | some z => rw [q2] at h; cases h; exact ⟨p.1, rfl, q2⟩
theorem yl_list {H : Hp} {a : Addr} {xs : List V} {ds : List PyData} (h : FzL X.K H a xs) (ts : TsX X H xs ds) : Yl X (Itl X.K a) H ds := fun i H2 g => by
  have h2 := (g.fzL h).seq
  refine ⟨fun d e => ?_, fun l => ⟨xs, h2, by rw [ts.length]; exact l⟩⟩
  obtain ⟨v, e1, e2⟩ := ts.get e
  refine ⟨⟨xs, v, h2, e1⟩, fun x H3 y => ?_⟩
  obtain ⟨rfl, y⟩ := y
  have := y xs h2
  rw [e1] at this
  cases this
  exact ⟨e2.grow g, Stp.refl _ _⟩
theorem yl_tup {H : Hp} {a : Addr} {xs : List V} {ds : List PyData} (h : SqT X.K H a xs) (ts : TsX X H xs ds) : Yl X (Itt X.K a) H ds := fun i H2 g => by
  have h2 := g.sqT h
  refine ⟨fun d e => ?_, fun l => ⟨xs, h2, by rw [ts.length]; exact l⟩⟩
  obtain ⟨v, e1, e2⟩ := ts.get e
  refine ⟨⟨xs, v, h2, e1⟩, fun x H3 y => ?_⟩
  obtain ⟨rfl, y⟩ := y
  have := y xs h2
  rw [e1] at this
  cases this
  exact ⟨e2.grow g, Stp.refl _ _⟩
theorem ziD {tg it : Expr} (h : PE X it (tM X m)) : PI X tg it (tI X (mItD m)) := PIimp (PIor (pi_list (tg := tg) (PEfz h)) (pi_tup (PEfz h))) fun σ H R q => by
  obtain ⟨pv, ev, F, ds, ev', r, nd, hm, q⟩ := q
  obtain ⟨o, h1, h2⟩ := mItD_some hm
  unfold itD at h2
  split at h2
  · cases h2
    rename_i e
    refine .inl (one h1 r nd fun x H1 F1 r1 n1 s1 t1 => ?_)
    rw [e] at t1
    cases t1 with
    | lst hl ts => exact ⟨_, rfl, ⟨_, hl.seq⟩, q _ H1 F1 r1 n1 s1 (yl_list hl ts)⟩
  · cases h2
    rename_i e
    refine .inr (one h1 r nd fun x H1 F1 r1 n1 s1 t1 => ?_)
    rw [e] at t1
    cases t1 with
    | tup hl ts => exact ⟨_, rfl, ⟨_, hl⟩, q _ H1 F1 r1 n1 s1 (yl_tup hl ts)⟩
  · cases h2
/-- the turns -/
def forL (t : PyData → Ev → Option Ev) (b : M Out) : List PyData → M Out
  | [] => fun ev => some (.nx, ev)
  | d :: ds => fun ev => (t d ev).bind fun e1 => match b e1 with
    | some (.nx, e2) => forL t b ds (mask ev e2)
    | some (.ct, e2) => forL t b ds (mask ev e2)
    | some (.bk, e2) => some (.nx, mask ev e2)
    | some (.rt o, e2) => some (.rt o, e2)
    | none => none
def mFor (mi : M (List PyData)) (t : PyData → Ev → Option Ev) (b : M Out) : M Out := fun ev => (mi ev).bind fun p => forL t b p.1 p.2
theorem zFor {tg it : Expr} {body : List Stmt} {mi : M (List PyData)} {t : PyData → Ev → Option Ev} {b : M Out} (hp : PassesOwn (model X.prog X.w) X.A X.env X.xe) (hc : X.calm = true) (hi : PI X tg it (tI X mi)) (hg : PG X tg (gM X t)) (hb : PSs X body (tS X b))
    (hs : ∀ x, foldedSetIterable it X.env x = pure x := by intro _; rfl) : PS X (.For tg it body [] pos) (tS X (mFor mi t b)) := PSimp (ps_for hp hc hi hg hb hs) fun D σ H q => by
  obtain ⟨pv, ev, F, out, ev', r, nd, hm, q⟩ := q
  unfold mFor at hm
  cases e : mi ev with
  | none => rw [e] at hm; cases hm
  | some p =>
    obtain ⟨ds, e0⟩ := p
    simp only [e, Option.bind_some] at hm
    refine ⟨pv, ev, F, ds, e0, r, nd, e, fun J H0 F0 r0 n0 s0 y => ?_⟩
    refine ⟨fun i m σ2 H2 => ∃ e2 F2, Rp X H2 pv σ2 e2 F2 ∧ F2.Nodup ∧ Stp F H F2 H2 ∧ Grow H0 H2 ∧ i ≤ ds.length ∧ m = ds.length - i ∧ forL t b (ds.drop i) e2 = some (out, ev'), ⟨_, e0, F0, r0, n0, s0, Grow.refl _, Nat.zero_le _, rfl, by simpa using hm⟩, ?_⟩
    rintro i m σ2 H2 ⟨e2, F2, r2, n2, s2, g2, hi, rfl, hf⟩
    by_cases hlt : i < ds.length
    · obtain ⟨d, hd⟩ : ∃ d, ds[i]? = some d := ⟨ds[i], List.getElem?_eq_getElem hlt⟩
      have hdrop : ds.drop i = d :: ds.drop (i + 1) := by
        rw [List.drop_eq_getElem_cons hlt]
        rw [List.getElem?_eq_getElem hlt] at hd
        cases hd
        rfl
      rw [hdrop] at hf
      simp only [forL] at hf
      obtain ⟨go, yl⟩ := (y i H2 g2).1 d hd
      cases et : t d e2 with
      | none => rw [et] at hf; cases hf
      | some e3 =>
        simp only [et, Option.bind_some] at hf
        cases eb : b e3 with
        | none => rw [eb] at hf; cases hf
        | some p3 =>
          obtain ⟨o3, e4⟩ := p3
          refine .inr ⟨go, fun σ' H' => ∃ e2 F2, Rp X H' pv σ' e2 F2 ∧ F2.Nodup ∧ Stp F H F2 H' ∧ Grow H0 H' ∧ forL t b (ds.drop (i + 1)) e2 = some (out, ev'), fun σ' H' hN => ?_, fun x H3 hy => ?_⟩
          · obtain ⟨e5, F5, a1, a2, a3, a4, a5⟩ := hN
            exact ⟨ds.length - (i + 1), by omega, e5, F5, a1, a2, a3, a4, hlt, rfl, a5⟩
          · obtain ⟨tx, st⟩ := yl x H3 hy
            have s3 : Stp F H F2 H3 := s2.trans ((st.frame (F := F2)).sub fun a m => by simpa using m)
            have g3 : Grow H0 H3 := g2.trans (st.grow fun _ m => by cases m)
            refine ⟨pv, e2, F2, d, e3, r2.stp st, n2, tx, et, fun σ4 F4 r4 n4 s4 => ⟨pv, e3, F4, o3, e4, r4, n4, eb, ?_⟩⟩
            have s4' : Stp F H F4 H3 := s3.sub s4
            have next : (forL t b (ds.drop (i + 1)) (mask e2 e4) = some (out, ev')) → ∀ σ' H' F', Rp X H' pv σ' e4 F' → F'.Nodup → Stp F4 H3 F' H' → ∃ e2 F2, Rp X H' pv σ' e2 F2 ∧ F2.Nodup ∧ Stp F H F2 H' ∧ Grow H0 H' ∧ forL t b (ds.drop (i + 1)) e2 = some (out, ev') := fun hf' σ' H' F' r' n' s' => by
              obtain ⟨F5, q1, q2, q3⟩ := r'.mask e2
              exact ⟨mask e2 e4, F5, q1, q3 n', (s4'.trans s').sub q2, g3.trans (s'.grow r4.mut), hf'⟩
            cases o3 with
            | nx => rw [eb] at hf; exact next hf
            | ct => rw [eb] at hf; exact next hf
            | bk =>
              rw [eb] at hf
              cases hf
              intro σ' H' F' r' n' s'
              obtain ⟨F5, q1, q2, q3⟩ := r'.mask e2
              exact q σ' H' F5 q1 (q3 n') ((s4'.trans s').sub q2)
            | rt o =>
              rw [eb] at hf
              cases hf
              exact fun σ' v H' F' G r' ro n' s' => q σ' v H' F' G r' ro n' (s4'.trans s')
    · have hi' : i = ds.length := by omega
      subst hi'
      rw [List.drop_length] at hf
      cases hf
      exact .inl ⟨(y _ H2 g2).2 (Nat.le_refl _), q σ2 H2 F2 r2 n2 s2⟩

/-! ### while -/
def whileN (c : M Bool) (b : M Out) : Nat → M Out
  | 0 => fun _ => none
  | n + 1 => fun ev => (c ev).bind fun p => if p.1 = true then (match b p.2 with
    | some (.nx, e2) => whileN c b n (mask ev e2)
    | some (.ct, e2) => whileN c b n (mask ev e2)
    | some (.bk, e2) => some (.nx, mask ev e2)
    | some (.rt o, e2) => some (.rt o, e2)
    | none => none) else some (.nx, p.2)
open Classical in
noncomputable def mWhile (c : M Bool) (b : M Out) : M Out := fun ev => if h : ∃ n r, whileN c b n ev = some r then some h.choose_spec.choose else none
theorem whileN_mono {c : M Bool} {b : M Out} : ∀ {n k : Nat} {ev : Ev} {r : Out × Ev}, n ≤ k → whileN c b n ev = some r → whileN c b k ev = some r
  | 0, _, _, _, _, h => by cases h
  | n + 1, 0, _, _, l, _ => by omega
  | n + 1, k + 1, ev, r, l, h => by
    simp only [whileN] at h ⊢
    cases e : c ev with
    | none => rw [e] at h; cases h
    | some p =>
      simp only [e, Option.bind_some] at h ⊢
      by_cases hb : p.1 = true
      · rw [if_pos hb] at h ⊢
        cases e2 : b p.2 with
        | none => rw [e2] at h; cases h
        | some p2 =>
          obtain ⟨o, e3⟩ := p2
          rw [e2] at h
          cases o with
          | nx => exact whileN_mono (by omega) h
          | ct => exact whileN_mono (by omega) h
          | bk => exact h
          | rt _ => exact h
      · rw [if_neg hb] at h ⊢
        exact h
theorem mWhile_of {c : M Bool} {b : M Out} {n : Nat} {ev : Ev} {r : Out × Ev} (h : whileN c b n ev = some r) : mWhile c b ev = some r := by
  have hx : ∃ n r, whileN c b n ev = some r := ⟨n, r, h⟩
  unfold mWhile
  rw [dif_pos hx]
  have e := hx.choose_spec.choose_spec
  have e1 := whileN_mono (Nat.le_max_left n hx.choose) h
  have e2 := whileN_mono (Nat.le_max_right n hx.choose) e
  rw [e1] at e2
  exact e2.symm
theorem mWhile_some {c : M Bool} {b : M Out} {ev : Ev} {r : Out × Ev} (h : mWhile c b ev = some r) : ∃ n, whileN c b n ev = some r := by
  unfold mWhile at h
  by_cases hx : ∃ n r, whileN c b n ev = some r
  · rw [dif_pos hx] at h
    cases h
    exact ⟨_, hx.choose_spec.choose_spec⟩
  · rw [dif_neg hx] at h
    cases h
theorem zWhile {c : Expr} {body : List Stmt} {mc : M Bool} {b : M Out} (hp : PassesOwn (model X.prog X.w) X.A X.env X.xe) (hc : PT X c (tTst X mc)) (hb : PSs X body (tS X b)) : PS X (.While c body [] pos) (tS X (mWhile mc b)) := PSimp (ps_while hp hc hb) fun D σ H q => by
  obtain ⟨pv, ev, F, out, ev', r, nd, hm, q⟩ := q
  obtain ⟨n0, hn0⟩ := mWhile_some hm
  refine ⟨fun m σ2 H2 => ∃ e2 F2, Rp X H2 pv σ2 e2 F2 ∧ F2.Nodup ∧ Stp F H F2 H2 ∧ whileN mc b m e2 = some (out, ev'), ⟨n0, ev, F, r, nd, Stp.refl _ _, hn0⟩, ?_⟩
  rintro m σ2 H2 ⟨e2, F2, r2, n2, s2, hf⟩
  cases m with
  | zero => cases hf
  | succ m =>
    simp only [whileN] at hf
    cases ec : mc e2 with
    | none => rw [ec] at hf; cases hf
    | some p =>
      obtain ⟨k, e3⟩ := p
      simp only [ec, Option.bind_some] at hf
      refine tst_next ec r2 n2 fun H3 F3 r3 n3 s3 => ?_
      cases k with
      | false =>
        rw [if_neg Bool.false_ne_true] at hf
        cases hf
        exact iteF (q σ2 H3 F3 r3 n3 (s2.trans s3))
      | true =>
        rw [if_pos rfl] at hf
        cases eb : b e3 with
        | none => rw [eb] at hf; cases hf
        | some p4 =>
          obtain ⟨o4, e4⟩ := p4
          refine iteT ⟨fun σ' H' => ∃ e2 F2, Rp X H' pv σ' e2 F2 ∧ F2.Nodup ∧ Stp F H F2 H' ∧ whileN mc b m e2 = some (out, ev'), fun σ' H' hN => ⟨m, Nat.lt_succ_self _, hN⟩, pv, e3, F3, o4, e4, r3, n3, eb, ?_⟩
          have s23 := s2.trans s3
          have next : (whileN mc b m (mask e2 e4) = some (out, ev')) → ∀ σ' H' F', Rp X H' pv σ' e4 F' → F'.Nodup → Stp F3 H3 F' H' → ∃ e2 F2, Rp X H' pv σ' e2 F2 ∧ F2.Nodup ∧ Stp F H F2 H' ∧ whileN mc b m e2 = some (out, ev') := fun hf' σ' H' F' r' n' s' => by
            obtain ⟨F5, q1, q2, q3⟩ := r'.mask e2
            exact ⟨mask e2 e4, F5, q1, q3 n', (s23.trans s').sub q2, hf'⟩
          cases o4 with
          | nx => rw [eb] at hf; exact next hf
          | ct => rw [eb] at hf; exact next hf
          | bk =>
            rw [eb] at hf
            cases hf
            intro σ' H' F' r' n' s'
            obtain ⟨F5, q1, q2, q3⟩ := r'.mask e2
            exact q σ' H' F5 q1 (q3 n') ((s23.trans s').sub q2)
          | rt o =>
            rw [eb] at hf
            cases hf
            exact fun σ' v H' F' G r' ro n' s' => q σ' v H' F' G r' ro n' (s23.trans s')
end
end Z
set_option Elab.async false
set_option linter.all false
set_option maxRecDepth 100000
set_option maxHeartbeats 1000000
/-! Z5: defs and their calls. -/
namespace Z
open PySem PySem.Spec PyProof.Rows L2

/-- the parameters' trees handed back (none: lost) -/
inductive Bk (P : Program) (w : World) (K : PySem.W.Frag) (H : Hp) : List V → List (Option O) → List Addr → Prop
  | nil : Bk P w K H [] [] []
  | gone {v : V} {vs : List V} {os : List (Option O)} {F : List Addr} : Bk P w K H vs os F → Bk P w K H (v :: vs) (none :: os) F
  | back {v : V} {o : O} {vs : List V} {os : List (Option O)} {F G : List Addr} : RO P w K H v o F → Bk P w K H vs os G → Bk P w K H (v :: vs) (some o :: os) (F ++ G)
/-- a def as a function of trees: its value, the parameters' trees behind it -/
abbrev Fn := List O → Option (O × List (Option O))
def spF (base : Heap) (P : Program) (w : World) (K : PySem.W.Frag) (n : Nat) (m : Fn) : Sp := fun vs H Q _ => ∃ os F r bs, ROs P w K H vs os F ∧ F.Nodup ∧ os.length = n ∧ m os = some (r, bs) ∧ Tabs base H ∧
  ∀ v H' G B, RO P w K H' v r G → Bk P w K H' vs bs B → (B ++ G).Nodup → Stp F H (B ++ G) H' → Q v H'
theorem spF.len {base : Heap} {P : Program} {w : World} {K : PySem.W.Frag} {n : Nat} {m : Fn} {vs : List V} {H : Hp} {Q : VK} {E : XK} (h : spF base P w K n m vs H Q E) : vs.length = n := by
  obtain ⟨os, F, r, bs, h1, h2, h3, h4⟩ := h
  exact h1.length.trans h3

/-- how a parameter's slot begins: kept (true) or free to be stored anew -/
def enter : List Bool → List O → Ev
  | k :: ks, o :: os => (if k = true then .par o else .var o) :: enter ks os
  | _, _ => []
def leave : List Bool → Ev → List (Option O)
  | _ :: ks, .par o :: ev => some o :: leave ks ev
  | _ :: ks, _ :: ev => none :: leave ks ev
  | _ :: ks, [] => none :: leave ks []
  | [], _ => []
/-- a def by its body: ks the parameters, l further slots -/
def runF (ks : List Bool) (l : Nat) (b : M Out) : Fn := fun os => if os.length = ks.length then (match b (enter ks os ++ List.replicate l .un) with
  | some (.rt r, e) => some (r, leave ks e)
  | some (.nx, e) => some (.dat .none, leave ks e)
  | _ => none) else none
theorem runF_len {ks : List Bool} {l : Nat} {b : M Out} {os : List O} {r : O × List (Option O)} (h : runF ks l b os = some r) : os.length = ks.length := by
  unfold runF at h
  split at h
  · assumption
  · cases h
theorem re_none {P : Program} {w : World} {K : PySem.W.Frag} {H : Hp} : ∀ l : Nat, RE P w K H (List.replicate l none) (List.replicate l none) (List.replicate l .un) []
  | 0 => .nil
  | l + 1 => .un (re_none l)
theorem re_enter {P : Program} {w : World} {K : PySem.W.Frag} {H : Hp} {l : Nat} : ∀ {ks : List Bool} {vs : List V} {os : List O} {F : List Addr}, ROs P w K H vs os F → os.length = ks.length →
    RE P w K H (vs.map some ++ List.replicate l none) (vs.map some ++ List.replicate l none) (enter ks os ++ List.replicate l .un) F
  | [], _, _, _, .nil, _ => re_none l
  | k :: ks, _, _, _, .nil, h => by cases h
  | [], _, _, _, .cons _ _, h => by cases h
  | k :: ks, _, _, _, .cons h t, hl => by
    have ih := re_enter (l := l) (ks := ks) t (by simpa using hl)
    cases k with
    | true => exact .par h ih
    | false => exact .var h ih
theorem bk_leave {P : Program} {w : World} {K : PySem.W.Frag} {H : Hp} {l : Nat} : ∀ {ks : List Bool} {vs : List V} {σ : L2.St} {ev : Ev} {F : List Addr}, vs.length = ks.length → RE P w K H (vs.map some ++ List.replicate l none) σ ev F → ∃ B, Bk P w K H vs (leave ks ev) B ∧ B.Sublist F
  | [], [], _, _, F, _, _ => ⟨[], .nil, List.nil_sublist _⟩
  | [], _ :: _, _, _, _, h, _ => by cases h
  | _ :: _, [], _, _, _, h, _ => by cases h
  | k :: ks, v :: vs, _, _, _, h, .un t => by
    obtain ⟨B, q, s⟩ := bk_leave (l := l) (ks := ks) (vs := vs) (by simpa using h) t
    exact ⟨B, .gone q, s⟩
  | k :: ks, v :: vs, _, _, _, h, .var r t => by
    obtain ⟨B, q, s⟩ := bk_leave (l := l) (ks := ks) (vs := vs) (by simpa using h) t
    exact ⟨B, .gone q, s.trans (List.sublist_append_right _ _)⟩
  | k :: ks, v :: vs, _, _, _, h, .par r t => by
    obtain ⟨B, q, s⟩ := bk_leave (l := l) (ks := ks) (vs := vs) (by simpa using h) t
    exact ⟨_, .back r q, (List.Sublist.refl _).append s⟩
theorem leave_core : ∀ (ks : List Bool) (ev : Ev), leave ks (ev.map Sl.core) = leave ks ev
  | [], ev => by simp [leave]
  | k :: ks, [] => rfl
  | k :: ks, s :: ev => by cases s <;> simp [leave, Sl.core, leave_core ks ev]
theorem bk_leave' {P : Program} {w : World} {K : PySem.W.Frag} {H : Hp} {l : Nat} {ks : List Bool} {vs : List V} {σ : L2.St} {ev : Ev} {F : List Addr} (h : vs.length = ks.length) (r : RE P w K H (vs.map some ++ List.replicate l none) σ (ev.map Sl.core) F) : ∃ B, Bk P w K H vs (leave ks ev) B ∧ B.Sublist F := by
  rw [← leave_core]
  exact bk_leave h r
theorem enter_core {l : Nat} : ∀ {ks : List Bool} {os : List O}, (enter ks os ++ List.replicate l Sl.un).map Sl.core = enter ks os ++ List.replicate l Sl.un
  | [], _ => by simp [enter, Sl.core]
  | _ :: _, [] => by simp [enter, Sl.core]
  | k :: ks, o :: os => by
    have ih := enter_core (l := l) (ks := ks) (os := os)
    rw [enter, List.cons_append, List.map_cons, ih]
    cases k <;> rfl
theorem enter_ro {l : Nat} : ∀ {ks : List Bool} {os : List O} (i : Nat) (o : O), ¬ (enter ks os ++ List.replicate l Sl.un)[i]? = some (.ro o)
  | [], os, i, o, h => by
    have := List.mem_of_getElem? h
    simp [enter] at this
  | _ :: _, [], i, o, h => by
    have := List.mem_of_getElem? h
    simp [enter] at this
  | k :: ks, o' :: os, 0, o, h => by
    rw [enter, List.cons_append] at h
    cases k <;> cases Option.some.inj h
  | k :: ks, o' :: os, i + 1, o, h => by
    rw [enter, List.cons_append] at h
    exact enter_ro (ks := ks) i o (by simpa using h)
theorem start_eq (N : List Str) (vs : List V) : start N vs = vs.map some ++ List.replicate (N.length - vs.length) none := rfl
/-- a def of the text stands at f: its object, whatever its defaults -/
structure FunZ (K : PySem.W.Frag) (x qual : Str) (st : Stmt) (f : Addr) (fd : FuncData) : Prop where
  kp : PySem.W.keepIn K (.ref f) = true
  ob : ∃ (cdv dV kV doc pm ct oc : Value) (od an : Option Addr) (sl : Array (Option Value)), PySem.W.codeIn K cdv qual = true ∧ K.lookup f = some ⟨oc, od, .func fd, sl⟩ ∧ fd = PySem.W.fnOf x qual (defArgs st) (defBody st) (defScope st) dV kV doc pm an cdv ct
/-- a def runs as its spec says, where no repr is under way -/
structure FnZ (P : Program) (w : World) (K : PySem.W.Frag) (mg : Str → Option Value) (base : Heap) (CX : CXT) (k : Nat) (f : Addr) (fd : FuncData) (ps : List Str) (sp : Sp) : Prop where
  len : ∀ vs H Q E, sp vs H Q E → vs.length = ps.length
  run : ∀ (A : Around) (outer : List Env) (s : Shared) (H : Hp) (args : Args) (us : List Value) (vs : List V) (Q : VK) (E : XK), Room k A → A.guards = some [] → Env0 P w K mg base A outer s H → BindsTo s fd args (ps.zip us) → Vals vs us → sp vs H Q E →
    codeAny (model P w) A (.call (.ref f) args) (CR CX outer P w H s Q E) s
theorem FnZ.mono {P : Program} {w : World} {K : PySem.W.Frag} {mg : Str → Option Value} {base : Heap} {CX : CXT} {j k : Nat} {f : Addr} {fd : FuncData} {ps : List Str} {sp : Sp} (F : FnZ P w K mg base CX j f fd ps sp) (h : j ≤ k) : FnZ P w K mg base CX k f fd ps sp :=
  ⟨F.len, fun A outer s H args us vs Q E r => F.run A outer s H args us vs Q E (r.mono h)⟩
theorem fnz_of {CX : CXT} {P : Program} {w : World} {K : PySem.W.Frag} {mg : Str → Option Value} {base : Heap} {x qual : Str} {st : Stmt} {f : Addr} {fd : FuncData} {N ps : List Str} {k : Nat} {sp : Sp} (F : FunZ K x qual st f fd) (S : FnScope N ps (defScope st)) (len : ∀ vs H Q E, sp vs H Q E → vs.length = ps.length)
    (hbody : ∀ (cdv : Value) (_ : fd.code = cdv) (A : Around) (outer : List Env) (s : Shared) (H : Hp) (vs : List V) (Q : VK) (E : XK), Room k (A.deeper (envOfC qual (defScope st) s.heap.objs.size f cdv)) → A.guards = some [] → sp vs H Q E →
      ∃ t, PSs (cxOf CX P w K mg base N qual (defScope st) f cdv A outer s H E) (defBody st) t ∧ t { nx := fun _ H' => Q .non H', rt := Q } (start N vs) H) : FnZ P w K mg base CX (k + 1) f fd ps sp := by
  obtain ⟨cdv, dV, kV, doc, pm, ct, oc, od, an, sl, hcd, lk, rfl⟩ := F.ob
  refine ⟨len, fun A outer s H args us vs Q E hr hG e0 hb r hsp => ?_⟩
  have hl := len vs H Q E hsp
  have keep0 : ∀ b o, base.get? b = some o → s.heap.get? b = some o := fun b o e => (e0.bs b o e).1
  have KX := e0.mod.kin.keeps keep0
  have lim := e0.mod.nolimit.keeps keep0
  refine codeAny_call_function hr.depth (KX _ _ lk) rfl S.co S.gen rfl (PySem.W.codeRec_of KX hcd) (hb _ _ _ _ (wpAny_newFunctionEnv_cells S.kind (fun y hy => ?_) fun env he s1 z => ?_))
  · obtain ⟨n, v⟩ := y
    refine (S.par n (List.of_mem_zip hy).1).imp id fun q => ⟨q, PySem.W.cellsFrom_some _ _ _ (.inl q)⟩
  · subst he
    refine ⟨lim.keeps z.toInCall.keep, codeAny_func ?_⟩
    obtain ⟨t, ht, hq⟩ := hbody cdv rfl A outer s H vs Q E (hr.deeper _) hG hsp
    have I := inv_start (CX := CX) (E := E) S hr.hd e0 hl r z
    refine wpAny_mono (ht.run [] s1 (start N vs) H _ I hq) (fun fl s' hs => ?_) fun _ _ hs => hs
    cases fl with
    | ret u =>
      obtain ⟨v, σ', H', J, rv, q⟩ := hs
      exact ⟨v, H', J.os, J.bare, J.base, J.hok, rv, q⟩
    | next =>
      obtain ⟨σ', H', J, q⟩ := hs
      exact ⟨V.non, H', J.os, J.bare, J.base, J.hok, rfl, q⟩
    | brk => exact (let ⟨_, _, _, q⟩ := hs; q : False).elim
    | cont => exact (let ⟨_, _, _, q⟩ := hs; q : False).elim
/-- THE RULE for a def -/
theorem zFun {P : Program} {w : World} {K : PySem.W.Frag} {mg : Str → Option Value} {base : Heap} {x qual : Str} {st : Stmt} {f : Addr} {fd : FuncData} {N ps : List Str} {k l : Nat} {ks : List Bool} {b : M Out}
    (F : FunZ K x qual st f fd) (S : FnScope N ps (defScope st)) (hk : ks.length = ps.length) (hl : N.length = ps.length + l)
    (hbody : ∀ (cdv : Value) (_ : fd.code = cdv) (A : Around) (outer : List Env) (s : Shared) (H : Hp) (E : XK), Room k (A.deeper (envOfC qual (defScope st) s.heap.objs.size f cdv)) → A.guards = some [] →
      PSs (cxOf CX0 P w K mg base N qual (defScope st) f cdv A outer s H E).nox (defBody st) (tS (cxOf CX0 P w K mg base N qual (defScope st) f cdv A outer s H E).nox b)) :
    FnZ P w K mg base CX0 (k + 1) f fd ps (spF base P w K ps.length (runF ks l b)) := by
  refine fnz_of F S (fun vs H Q E h => h.len) fun cdv hc A outer s H vs Q E hr hG h => ⟨_, (hbody cdv hc A outer s H E hr hG).nox, ?_⟩
  obtain ⟨os, F, r, bs, h1, h2, h3, h4, tb, q⟩ := h
  have hv : vs.length = ps.length := h1.length.trans h3
  have hst : start N vs = vs.map some ++ List.replicate l none := by rw [start_eq, hv, hl, Nat.add_sub_cancel_left]
  rw [hst]
  unfold runF at h4
  rw [if_pos (h3.trans hk.symm)] at h4
  have re := re_enter (l := l) (ks := ks) h1 (h3.trans hk.symm)
  have fin : ∀ {σ' : L2.St} {v : V} {H' : Hp} {F' G : List Addr} {ev' : Ev} {o : O}, some (o, leave ks ev') = some (r, bs) → Rp (cxOf CX0 P w K mg base N qual (defScope st) f cdv A outer s H E).nox H' ⟨vs.map some ++ List.replicate l none, ⟨fun _ => []⟩⟩ σ' ev' F' → RO P w K H' v o G → (F' ++ G).Nodup → Stp F H (F' ++ G) H' → Q v H' := by
    intro σ' v H' F' G ev' o he r' ro n' s'
    cases he
    obtain ⟨F0, r0, p0, _⟩ := r'
    obtain ⟨B, q1, q2⟩ := bk_leave' (ks := ks) (hv.trans hk.symm) r0
    have sub : ∀ a ∈ B, a ∈ F' := fun a m => p0.mem_iff.mp (q2.subset m)
    obtain ⟨na, nb, nc⟩ := nd_app.mp n'
    exact q v H' G B ro q1 (nd_app.mpr ⟨(p0.nodup_iff.mpr na).sublist q2, nb, fun a m => nc a (sub a m)⟩) (s'.sub fun a m => by
      rcases List.mem_append.mp m with m | m
      · exact List.mem_append_left _ (sub a m)
      · exact List.mem_append_right _ m)
  cases e : b (enter ks os ++ List.replicate l .un) with
  | none => rw [e] at h4; cases h4
  | some p =>
    obtain ⟨o, ev'⟩ := p
    rw [e] at h4
    refine ⟨⟨vs.map some ++ List.replicate l none, ⟨fun _ => []⟩⟩, _, F, o, ev', ⟨F, by rw [enter_core]; exact re, List.Perm.refl _, fun a ⟨_, m⟩ => by (cases m), fun a ⟨_, m⟩ => by (cases m), tb, fun i o z => absurd z (enter_ro i o)⟩, h2, e, ?_⟩
    cases o with
    | rt o => exact fun σ' v H' F' G r' ro n' s' => fin h4 r' ro n' s'
    | nx => exact fun σ' H' F' r' n' s' => fin (v := .non) (G := []) h4 r' (.dat .non) (by simpa using n') (by simpa using s')
    | bk => cases h4
    | ct => cases h4

/-! ### arguments: lent slots and values -/
inductive Ag (P : Program) (w : World) (K : PySem.W.Frag) (H : Hp) (σ : L2.St) : List V → List (Sum Nat O) → List Addr → Prop
  | nil : Ag P w K H σ [] [] []
  | lend {v : V} {i : Nat} {vs : List V} {as : List (Sum Nat O)} {F : List Addr} : σ[i]? = some (some v) → Ag P w K H σ vs as F → Ag P w K H σ (v :: vs) (.inl i :: as) F
  | val {v : V} {o : O} {vs : List V} {as : List (Sum Nat O)} {F G : List Addr} : RO P w K H v o F → Ag P w K H σ vs as G → Ag P w K H σ (v :: vs) (.inr o :: as) (F ++ G)
theorem Ag.mut {P : Program} {w : World} {K : PySem.W.Frag} {H : Hp} {σ : L2.St} : ∀ {vs : List V} {as : List (Sum Nat O)} {F : List Addr}, Ag P w K H σ vs as F → ∀ a ∈ F, Mut (H a)
  | _, _, _, .nil, a, m => by cases m
  | _, _, _, .lend _ t, a, m => Ag.mut t a m
  | _, _, _, .val h t, a, m => (List.mem_append.mp m).elim (h.mut a) (Ag.mut t a)
def tAs (X : Cx) (m : M (List (Sum Nat O))) : TA := fun σ H Q => ∃ pv ev F as ev', Rp X H pv σ ev F ∧ F.Nodup ∧ m ev = some (as, ev') ∧
  ∀ vs H' F' G, Rp X H' pv σ ev' F' → Ag X.prog X.w X.K H' σ vs as G → (F' ++ G).Nodup → Stp F H (F' ++ G) H' → Q vs H'
section
variable {X : Cx} {pos : Pos} {e : Expr} {es : List Expr} {m : M O} {ms : M (List (Sum Nat O))} {pv : Pv} {σ : L2.St} {H : Hp} {ev e1 : Ev} {F : List Addr}
def mANil : M (List (Sum Nat O)) := fun ev => some ([], ev)
def mAVal (m : M O) (ms : M (List (Sum Nat O))) : M (List (Sum Nat O)) := fun ev => (m ev).bind fun p => (ms p.2).map fun q => (.inr p.1 :: q.1, q.2)
/-- a name: its data, or its own tree lent -/
def mALend (i : Nat) (ms : M (List (Sum Nat O))) : M (List (Sum Nat O)) := fun ev => (ev[i]?.bind Sl.see).bind fun o => (ms ev).map fun q => ((match o with
  | .dat d => .inr (.dat d)
  | _ => .inl i) :: q.1, q.2)
theorem zANil : PA X [] (tAs X mANil) := PAimp pa_nil fun σ H Q h => by
  obtain ⟨pv, ev, F, os, ev', r, nd, hm, q⟩ := h
  cases hm
  exact q [] H F [] r .nil (by simpa using nd) (by simpa using Stp.refl F H)
theorem zAVal (ha : PE X e (tM X m)) (hr : PA X es (tAs X ms)) (hs : starEach (e :: es) X.env = (false, eval e X.env) :: starEach es X.env := by rfl) : PA X (e :: es) (tAs X (mAVal m ms)) := PAimp (pa_cons ha hr hs) fun σ H Q h => by
  obtain ⟨pv, ev, F, os, ev', r, nd, hm, q⟩ := h
  unfold mAVal at hm
  cases h1 : m ev with
  | none => rw [h1] at hm; cases hm
  | some p =>
    simp only [h1, Option.bind_some] at hm
    cases h2 : ms p.2 with
    | none => rw [h2] at hm; cases hm
    | some p2 =>
      rw [h2] at hm
      cases hm
      refine ⟨pv, ev, F, p.1, p.2, r, nd, h1, fun v H1 F1 G1 r1 ro n1 s1 => ?_⟩
      obtain ⟨na, nb, nc⟩ := nd_app.mp n1
      refine ⟨pv, p.2, F1, p2.1, p2.2, r1, na, h2, fun vs H2 F2 G2 r2 rs n2 s2 => ?_⟩
      have ap : ∀ a ∈ G1, a ∉ F1 := fun a m z => nc a z m
      have ro2 := ro.keep (s2.grow r1.mut) fun a m => s2.at (ap a m) (ro.mut a m)
      have ap2 : ∀ a ∈ G1, a ∉ F2 ++ G2 := fun a m => s2.apart (ap a m) (ro.mut a m)
      obtain ⟨k1, k2, k3⟩ := nd_app.mp n2
      refine q (v :: vs) H2 F2 (G1 ++ G2) r2 (.val ro2 rs) (nd_app.mpr ⟨k1, nd_app.mpr ⟨nb, k2, fun a m z => ap2 a m (List.mem_append_right _ z)⟩, fun a m z => ?_⟩) ?_
      · rcases List.mem_append.mp z with z | z
        · exact ap2 a z (List.mem_append_left _ m)
        · exact k3 a m z
      · have := s1.trans ((s2.more G1).wide (F2 := F1 ++ G1) fun a m => by simpa [or_comm] using m)
        exact this.sub fun a m => by simp only [List.mem_append] at m ⊢; rcases m with m | m | m <;> simp [m]
theorem zALend {x : Str} (i : Nat) (hr : PA X es (tAs X ms)) (hN : X.N[i]? = some x := by rfl) (hv : Vis X.env.scope x := by first | exact Or.inl rfl | exact Or.inr (Or.inl rfl) | exact Or.inr (Or.inr rfl)) (hd : (x == ("__debug__" : Str)) = false := by decide)
    (hcd : (x == ("__classdict__" : Str)) = false := by decide) (hs : starEach (.Name x pos :: es) X.env = (false, eval (.Name x pos) X.env) :: starEach es X.env := by rfl) : PA X (.Name x pos :: es) (tAs X (mALend i ms)) := PAimp (pa_cons (pe_var hN hv hd hcd) hr hs) fun σ H Q h => by
  obtain ⟨pv, ev, F, os, ev', r, nd, hm, q⟩ := h
  unfold mALend at hm
  cases h1 : ev[i]?.bind Sl.see with
  | none => rw [h1] at hm; cases hm
  | some o =>
    simp only [h1, Option.bind_some] at hm
    cases h2 : ms ev with
    | none => rw [h2] at hm; cases hm
    | some p2 =>
      rw [h2] at hm
      cases hm
      obtain ⟨v, Fo, hv1, ro, _⟩ := r.peek nd h1
      refine ⟨v, hv1, pv, ev, F, p2.1, p2.2, r, nd, h2, fun vs H2 F2 G2 r2 rs n2 s2 => ?_⟩
      cases o with
      | dat d =>
        have t := ro.flat.2.grow (s2.grow r.mut)
        exact q (v :: vs) H2 F2 G2 r2 (by simpa using Ag.val (.dat t) rs) n2 s2
      | lst _ => exact q (v :: vs) H2 F2 G2 r2 (.lend hv1 rs) n2 s2
      | dct _ => exact q (v :: vs) H2 F2 G2 r2 (.lend hv1 rs) n2 s2

/-- the lent slots emptied -/
def lendAll : List (Sum Nat O) → Ev → Option (List O × Ev)
  | [], ev => some ([], ev)
  | .inr o :: as, ev => (lendAll as ev).map fun p => (o :: p.1, p.2)
  | .inl i :: as, ev => (ev[i]?.bind Sl.tree).bind fun o => (lendAll as (ev.set i .un)).map fun p => (o :: p.1, p.2)
/-- and filled again: ev0 the slots ahead of the call -/
def giveAll : List (Sum Nat O) → List (Option O) → Ev → Ev → Ev
  | .inl i :: as, b :: bs, ev0, ev => match b with
    | some o => (giveAll as bs (ev0.set i .un) ev).set i ((ev0.getD i .un).put o)
    | none => giveAll as bs (ev0.set i .un) ev
  | .inr _ :: as, _ :: bs, ev0, ev => giveAll as bs ev0 ev
  | _, _, _, ev => ev
/-- a slot is filled again -/
theorem RE.fill {P : Program} {w : World} {K : PySem.W.Frag} {H : Hp} {v : V} {o : O} {Fo : List Addr} (ro : RO P w K H v o Fo) : ∀ {pv : List (Option V)} {σ : L2.St} {ev : Ev} {F : List Addr} {i : Nat}, RE P w K H pv σ ev F → ev[i]? = some .un → σ[i]? = some (some v) →
    (∃ F2, RE P w K H pv σ (ev.set i (.var o)) F2 ∧ F2.Perm (Fo ++ F)) ∧ (pv[i]? = some (some v) → ∃ F2, RE P w K H pv σ (ev.set i (.par o)) F2 ∧ F2.Perm (Fo ++ F))
  | _, _, _, _, i, .nil, e, _ => by simp at e
  | _, _, _, _, 0, .un t, _, hv => by
    have hv : _ = _ := Option.some.inj hv
    subst hv
    refine ⟨⟨_, .var ro t, List.Perm.refl _⟩, fun hp => ?_⟩
    have hp : _ = _ := Option.some.inj hp
    subst hp
    exact ⟨_, .par ro t, List.Perm.refl _⟩
  | _, _, _, _, 0, .var _ _, e, _ => by cases Option.some.inj e
  | _, _, _, _, 0, .par _ _, e, _ => by cases Option.some.inj e
  | _, _, _, _, i + 1, .un t, e, hv => by
    obtain ⟨⟨F2, a1, a2⟩, b⟩ := RE.fill ro (i := i) t (by simpa using e) (by simpa using hv)
    refine ⟨⟨F2, .un a1, a2⟩, fun hp => ?_⟩
    obtain ⟨F3, b1, b2⟩ := b (by simpa using hp)
    exact ⟨F3, .un b1, b2⟩
  | _, _, _, _, i + 1, @RE.var _ _ _ _ p v1 o1 pv σ ev F G q t, e, hv => by
    obtain ⟨⟨F2, a1, a2⟩, b⟩ := RE.fill ro (i := i) t (by simpa using e) (by simpa using hv)
    have pm : ∀ {F2 : List Addr}, F2.Perm (Fo ++ G) → (F ++ F2).Perm (Fo ++ (F ++ G)) := fun a2 => by
      refine (a2.append_left F).trans ?_
      rw [← List.append_assoc, ← List.append_assoc]
      exact List.perm_append_comm.append_right G
    refine ⟨⟨F ++ F2, .var q a1, pm a2⟩, fun hp => ?_⟩
    obtain ⟨F3, b1, b2⟩ := b (by simpa using hp)
    exact ⟨F ++ F3, .var q b1, pm b2⟩
  | _, _, _, _, i + 1, @RE.par _ _ _ _ v1 o1 pv σ ev F G q t, e, hv => by
    obtain ⟨⟨F2, a1, a2⟩, b⟩ := RE.fill ro (i := i) t (by simpa using e) (by simpa using hv)
    have pm : ∀ {F2 : List Addr}, F2.Perm (Fo ++ G) → (F ++ F2).Perm (Fo ++ (F ++ G)) := fun a2 => by
      refine (a2.append_left F).trans ?_
      rw [← List.append_assoc, ← List.append_assoc]
      exact List.perm_append_comm.append_right G
    refine ⟨⟨F ++ F2, .par q a1, pm a2⟩, fun hp => ?_⟩
    obtain ⟨F3, b1, b2⟩ := b (by simpa using hp)
    exact ⟨F ++ F3, .par q b1, pm b2⟩
theorem RE.pinned {P : Program} {w : World} {K : PySem.W.Frag} {H : Hp} {o : O} : ∀ {pv : List (Option V)} {σ : L2.St} {ev : Ev} {F : List Addr} {i : Nat}, RE P w K H pv σ ev F → ev[i]? = some (.par o) → ∃ v, pv[i]? = some (some v) ∧ σ[i]? = some (some v)
  | _, _, _, _, i, .nil, e => by simp at e
  | _, _, _, _, 0, .un _, e => by cases Option.some.inj e
  | _, _, _, _, 0, .var _ _, e => by cases Option.some.inj e
  | _, _, _, _, 0, .par _ _, e => ⟨_, rfl, rfl⟩
  | _, _, _, _, i + 1, .un t, e => by simpa using RE.pinned (i := i) t (by simpa using e)
  | _, _, _, _, i + 1, .var _ t, e => by simpa using RE.pinned (i := i) t (by simpa using e)
  | _, _, _, _, i + 1, .par _ t, e => by simpa using RE.pinned (i := i) t (by simpa using e)
theorem Rp.fill {H' : Hp} {v : V} {sl : Sl} {o' o : O} {i : Nat} {ev0 ev' : Ev} {F0 F' Fo : List Addr} (r0 : Rp X H pv σ ev0 F0) (e0 : ev0[i]? = some sl) (ht : sl.tree = some o') (hv : σ[i]? = some (some v)) (r : Rp X H' pv σ ev' F') (eu : ev'[i]? = some .un) (nw : ∀ a ∈ pv.W, a ∉ Fo) (ro : RX X H' v o Fo) :
    Rp X H' pv σ (ev'.set i (sl.put o)) (Fo ++ F') := by
  obtain ⟨G0, a0, _⟩ := r0
  obtain ⟨G, a, p, w⟩ := r
  obtain ⟨f1, f2⟩ := RE.fill ro a (core_get eu) hv
  have w' : ∀ sl' : Sl, (∀ o, sl' ≠ .ro o) → Vw X H' pv σ (ev'.set i sl') (Fo ++ F') := fun sl' h => by
    have := w.set (i := i) (sl := sl') (fun o z => absurd z (h o)) σ fun _ _ _ => rfl
    exact ⟨fun a m z => (List.mem_append.mp z).elim (nw a m) (w.off a m), this.mu, this.tb, this.see⟩
  cases sl with
  | un => cases ht
  | ro _ => cases ht
  | var _ =>
    obtain ⟨F2, b1, b2⟩ := f1
    exact ⟨F2, by rw [core_set]; exact b1, b2.trans (p.append_left Fo), w' _ fun o z => nomatch z⟩
  | par _ =>
    obtain ⟨v', h1, h2⟩ := a0.pinned (core_get e0)
    rw [hv] at h2
    cases h2
    obtain ⟨F2, b1, b2⟩ := f2 h1
    exact ⟨F2, by rw [core_set]; exact b1, b2.trans (p.append_left Fo), w' _ fun o z => nomatch z⟩
theorem giveAll_get {j : Nat} : ∀ {as : List (Sum Nat O)} {bs : List (Option O)} {ev0 ev : Ev}, (∀ i, .inl i ∈ as → i ≠ j) → (giveAll as bs ev0 ev)[j]? = ev[j]?
  | [], _, _, _, _ => by unfold giveAll; rfl
  | .inl i :: as, [], _, _, _ => by unfold giveAll; rfl
  | .inr _ :: as, [], _, _, _ => by unfold giveAll; rfl
  | .inr _ :: as, b :: bs, ev0, ev, h => by
    unfold giveAll
    exact giveAll_get fun i m => h i (List.mem_cons_of_mem _ m)
  | .inl i :: as, b :: bs, ev0, ev, h => by
    unfold giveAll
    cases b with
    | none => exact giveAll_get fun i m => h i (List.mem_cons_of_mem _ m)
    | some o =>
      show (List.set _ i _)[j]? = _
      rw [List.getElem?_set_ne (h i List.mem_cons_self)]
      exact giveAll_get fun i m => h i (List.mem_cons_of_mem _ m)
theorem lend_not {i : Nat} : ∀ {as : List (Sum Nat O)} {ev : Ev} {p : List O × Ev}, ev[i]? = some .un → lendAll as ev = some p → ∀ j, .inl j ∈ as → j ≠ i
  | [], _, _, _, _, j, m => by cases m
  | .inr o :: as, ev, p, hu, h, j, m => by
    simp only [lendAll] at h
    cases q : lendAll as ev with
    | none => rw [q] at h; cases h
    | some p2 =>
      rcases List.mem_cons.mp m with m | m
      · cases m
      · exact lend_not hu q j m
  | .inl i' :: as, ev, p, hu, h, j, m => by
    simp only [lendAll] at h
    cases q : ev[i']?.bind Sl.tree with
    | none => rw [q] at h; cases h
    | some o =>
      simp only [q, Option.bind_some] at h
      cases q2 : lendAll as (ev.set i' .un) with
      | none => rw [q2] at h; cases h
      | some p2 =>
        have ne : i' ≠ i := fun z => by
          subst z
          rw [hu] at q
          cases q
        rcases List.mem_cons.mp m with m | m
        · cases m; exact ne
        · exact lend_not (by rw [List.getElem?_set_ne ne]; exact hu) q2 j m
theorem lend_un {i : Nat} : ∀ {as : List (Sum Nat O)} {ev : Ev} {p : List O × Ev}, ev[i]? = some .un → lendAll as ev = some p → p.2[i]? = some .un
  | [], _, _, hu, h => by cases h; exact hu
  | .inr o :: as, ev, p, hu, h => by
    simp only [lendAll] at h
    cases q : lendAll as ev with
    | none => rw [q] at h; cases h
    | some p2 => rw [q] at h; cases h; exact lend_un (p := p2) hu q
  | .inl j :: as, ev, p, hu, h => by
    simp only [lendAll] at h
    cases q : ev[j]?.bind Sl.tree with
    | none => rw [q] at h; cases h
    | some o =>
      simp only [q, Option.bind_some] at h
      cases q2 : lendAll as (ev.set j .un) with
      | none => rw [q2] at h; cases h
      | some p2 =>
        rw [q2] at h
        cases h
        have ne : j ≠ i := fun z => by
          subst z
          rw [hu] at q
          cases q
        exact lend_un (p := p2) (by rw [List.getElem?_set_ne ne]; exact hu) q2
/-- the slots are emptied, and what comes back fills them -/
theorem lend_ok : ∀ {as : List (Sum Nat O)} {vs : List V} {ev ev1 : Ev} {os : List O} {F G : List Addr}, Ag X.prog X.w X.K H σ vs as G → Rp X H pv σ ev F → (F ++ G).Nodup → lendAll as ev = some (os, ev1) →
    ∃ L R, RsX X H vs os L ∧ Rp X H pv σ ev1 R ∧ (F ++ G).Perm (L ++ R) ∧ os.length = vs.length ∧
      ∀ {H' : Hp} {bs : List (Option O)} {B : List Addr}, Bk X.prog X.w X.K H' vs bs B → Rp X H' pv σ ev1 R → (B ++ R).Nodup → (∀ a ∈ pv.W, a ∉ B) → ∃ F', Rp X H' pv σ (giveAll as bs ev ev1) F' ∧ F'.Nodup ∧ ∀ a ∈ F', a ∈ B ++ R
  | _, _, ev, ev1, os, F, _, .nil, r, nd, h => by
    cases h
    refine ⟨[], F, .nil, r, by simp, rfl, fun {H' bs B} bk r' n' nw => ?_⟩
    cases bk with
    | nil => exact ⟨F, by simpa [giveAll] using r', by simpa using n', fun a m => by simpa using m⟩
  | _, _, ev, ev1, os, F, _, @Ag.val _ _ _ _ _ v o vs as G1 G2 ro t, r, nd, h => by
    simp only [lendAll] at h
    cases q : lendAll as ev with
    | none => rw [q] at h; cases h
    | some p =>
      rw [q] at h
      cases h
      obtain ⟨na, nb, nc⟩ := nd_app.mp nd
      have n2 : (F ++ G2).Nodup := nd_app.mpr ⟨na, (nd_app.mp nb).2.1, fun a m z => nc a m (List.mem_append_right _ z)⟩
      obtain ⟨L, R, h1, h2, h3, h4, h5⟩ := lend_ok t r n2 q
      refine ⟨G1 ++ L, R, .cons ro h1, h2, ?_, by simp [h4], fun {H' bs B} bk r' n' nw => ?_⟩
      · have : (F ++ (G1 ++ G2)).Perm (G1 ++ (F ++ G2)) := by
          rw [← List.append_assoc, ← List.append_assoc]
          exact List.perm_append_comm.append_right G2
        refine this.trans ((h3.append_left G1).trans ?_)
        rw [List.append_assoc]
      · cases bk with
        | gone bk =>
          obtain ⟨F', a1, a2, a3⟩ := h5 bk r' n' nw
          exact ⟨F', by simpa [giveAll] using a1, a2, a3⟩
        | @back _ o' _ bs B1 B2 ro' bk =>
          have n3 : (B2 ++ R).Nodup := by
            rw [List.append_assoc] at n'
            exact (nd_app.mp n').2.1
          obtain ⟨F', a1, a2, a3⟩ := h5 bk r' n3 (fun a m z => nw a m (List.mem_append_right _ z))
          refine ⟨F', by simpa [giveAll] using a1, a2, fun a m => ?_⟩
          rw [List.append_assoc]
          exact List.mem_append_right _ (a3 a m)
  | _, _, ev, ev1, os, F, G, @Ag.lend _ _ _ _ _ v i vs as _ hv t, r, nd, h => by
    simp only [lendAll] at h
    cases q : ev[i]?.bind Sl.tree with
    | none => rw [q] at h; cases h
    | some o =>
      simp only [q, Option.bind_some] at h
      cases q2 : lendAll as (ev.set i .un) with
      | none => rw [q2] at h; cases h
      | some p =>
        rw [q2] at h
        cases h
        obtain ⟨sl, e1, e2, e3⟩ := slot_of q
        obtain ⟨v', Fo, R0, hv', ro, p1, r1, _⟩ := r.focus e1 e2
        rw [hv] at hv'
        cases hv'
        have pF : (F ++ G).Perm (Fo ++ (R0 ++ G)) := by
          rw [← List.append_assoc]
          exact p1.append_right G
        obtain ⟨ma, mb, mc⟩ := nd_app.mp (pF.nodup_iff.mp nd)
        obtain ⟨L, R, h1, h2, h3, h4, h5⟩ := lend_ok t r1 mb q2
        have hlt : i < ev.length := (List.getElem?_eq_some_iff.mp e1).1
        have hu : (ev.set i Sl.un)[i]? = some .un := List.getElem?_set_self hlt
        refine ⟨Fo ++ L, R, .cons ro h1, h2, ?_, by simp [h4], fun {H' bs B} bk r' n' nw => ?_⟩
        · refine pF.trans ((h3.append_left Fo).trans ?_)
          rw [List.append_assoc]
        · have hu1 : p.2[i]? = some .un := lend_un hu q2
          have ug : ∀ {bs : List (Option O)}, (giveAll as bs (ev.set i .un) p.2)[i]? = some .un := fun {bs} => by
            rw [giveAll_get fun j m => lend_not hu q2 j m]
            exact hu1
          cases bk with
          | gone bk =>
            obtain ⟨F', a1, a2, a3⟩ := h5 bk r' n' nw
            exact ⟨F', by simpa [giveAll] using a1, a2, a3⟩
          | @back _ o' _ bs B1 B2 ro' bk =>
            rw [List.append_assoc] at n'
            obtain ⟨m1, m2, m3⟩ := nd_app.mp n'
            obtain ⟨F', a1, a2, a3⟩ := h5 bk r' m2 (fun a m z => nw a m (List.mem_append_right _ z))
            refine ⟨B1 ++ F', ?_, nd_app.mpr ⟨m1, a2, fun a m z => m3 a m (a3 a z)⟩, fun a m => ?_⟩
            · have := r.fill e1 e2 hv a1 ug (fun a m z => nw a m (List.mem_append_left _ z)) ro'
              show Rp X H' pv σ ((giveAll as bs (ev.set i .un) p.2).set i ((ev.getD i .un).put o')) (B1 ++ F')
              rw [e3]
              exact this
            · rw [List.append_assoc]
              rcases List.mem_append.mp m with m | m
              · exact List.mem_append_left _ m
              · exact List.mem_append_right _ (a3 a m)
theorem Ag.length {P : Program} {w : World} {K : PySem.W.Frag} : ∀ {vs : List V} {as : List (Sum Nat O)} {F : List Addr}, Ag P w K H σ vs as F → vs.length = as.length
  | _, _, _, .nil => rfl
  | _, _, _, .lend _ t => congrArg (· + 1) (Ag.length t)
  | _, _, _, .val _ t => congrArg (· + 1) (Ag.length t)
/-- a def's call -/
def mCall (f : Fn) (ms : M (List (Sum Nat O))) (ds : List PyData := []) : M O := fun ev => (ms ev).bind fun p => (lendAll (p.1 ++ ds.map fun d => .inr (.dat d)) p.2).bind fun q => (f q.1).map fun z => (z.1, giveAll (p.1 ++ ds.map fun d => .inr (.dat d)) z.2 p.2 q.2)
theorem Ag.append {P : Program} {w : World} {K : PySem.W.Frag} : ∀ {vs : List V} {as : List (Sum Nat O)} {F : List Addr} {us : List V} {bs : List (Sum Nat O)} {G : List Addr}, Ag P w K H σ vs as F → Ag P w K H σ us bs G → Ag P w K H σ (vs ++ us) (as ++ bs) (F ++ G)
  | _, _, _, _, _, _, .nil, s => s
  | _, _, _, _, _, _, .lend h t, s => .lend h (Ag.append t s)
  | _, _, _, _, _, _, .val h t, s => by
    rw [List.append_assoc]
    exact .val h (Ag.append t s)
theorem Ag.of_data {P : Program} {w : World} {K : PySem.W.Frag} : ∀ {vs : List V} {ds : List PyData}, Ts P w K H vs ds → Ag P w K H σ vs (ds.map fun d => .inr (.dat d)) []
  | _, _, .nil => .nil
  | _, _, .cons h t => by simpa using Ag.val (.dat h) (Ag.of_data t)
theorem call_read {n : Nat} {f : Fn} {ds : List PyData} {dvs : List V} {E : XK} {Q : VK} {σ : L2.St} {H : Hp} (td : ∀ H, TsX X H dvs ds) (hn : ∀ os r, f os = some r → os.length = n) (h : tM X (mCall f ms ds) σ H Q) : tCall (spF X.base X.prog X.w X.K n f) dvs E (tAs X ms) σ H Q := by
  obtain ⟨pv, ev, F, o, ev', r, nd, hm, q⟩ := h
  unfold mCall at hm
  cases h1 : ms ev with
  | none => rw [h1] at hm; cases hm
  | some p =>
    simp only [h1, Option.bind_some] at hm
    cases h2 : lendAll (p.1 ++ ds.map fun d => .inr (.dat d)) p.2 with
    | none => rw [h2] at hm; cases hm
    | some p2 =>
      simp only [h2, Option.bind_some] at hm
      cases h3 : f p2.1 with
      | none => rw [h3] at hm; cases hm
      | some z =>
        rw [h3] at hm
        cases hm
        refine ⟨pv, ev, F, p.1, p.2, r, nd, h1, fun vs H1 F1 G1 r1 ag n1 s1 => ?_⟩
        have ag2 := ag.append (Ag.of_data (td H1))
        rw [List.append_nil] at ag2
        obtain ⟨L, R, a1, a2, a3, a4, a5⟩ := lend_ok ag2 r1 n1 h2
        have nLR := a3.nodup_iff.mp n1
        obtain ⟨nL, nR, nx⟩ := nd_app.mp nLR
        refine ⟨p2.1, L, z.1, z.2, a1, nL, hn _ _ h3, h3, r1.vw.tb, fun v H2 G B ro bk n2 s2 => ?_⟩
        have apR : ∀ a ∈ R, a ∉ L := fun a m z => nx a z m
        have wL : ∀ a ∈ pv.W, a ∉ L := fun a m z => r.wApart s1 a m (a3.mem_iff.mpr (List.mem_append_left _ z))
        have wM : ∀ a ∈ pv.W, Mut (H1 a) := fun a m => r1.vw.mu a m
        have r2 : Rp X H2 pv σ p2.2 R := a2.keep (s2.grow a1.mut) (fun a m => s2.at (apR a m) (a2.mut a m)) fun a m => s2.at (wL a m) (wM a m)
        have apB : ∀ a ∈ R, a ∉ B ++ G := fun a m => s2.apart (apR a m) (a2.mut a m)
        obtain ⟨nB, nG, nBG⟩ := nd_app.mp n2
        obtain ⟨F', b1, b2, b3⟩ := a5 bk r2 (nd_app.mpr ⟨nB, nR, fun a m z => apB a z (List.mem_append_left _ m)⟩) (fun a m z => s2.apart (wL a m) (wM a m) (List.mem_append_left _ z))
        refine q v H2 F' G b1 ro (nd_app.mpr ⟨b2, nG, fun a m z => ?_⟩) ?_
        · rcases List.mem_append.mp (b3 a m) with m | m
          · exact nBG a m z
          · exact apB a m (List.mem_append_right _ z)
        · have := s1.trans ((s2.more R).wide (F2 := F1 ++ G1) fun a m => a3.mem_iff.mpr (by simpa [or_comm] using m))
          exact this.sub fun a m => by
            rcases List.mem_append.mp m with m | m
            · rcases List.mem_append.mp (b3 a m) with m | m
              · exact List.mem_append_right _ (List.mem_append_left _ m)
              · exact List.mem_append_left _ m
            · exact List.mem_append_right _ (List.mem_append_right _ m)
theorem run_fnz {k : Nat} {f : Addr} {fd : FuncData} {ps : List Str} {sp : Sp} {ds : List Value} {dvs : List V} {pins : List (Addr × Obj)} {σ : L2.St} {H : Hp} {s : Shared} {Q : VK} {us : List Value} {vs : List V} (F : FnZ X.prog X.w X.K X.mg X.base CX0 k f fd ps sp) (hr : Room k X.A) (hG : X.A.guards = some []) (hb : Binds X.K fd ps ds) (hd : Vals dvs ds)
    (I : Inv X pins σ H s) (r : Vals vs us) (h : sp (vs ++ dvs) H Q fun _ _ _ => False) : wpAny (model X.prog X.w) X.A (call (.ref f) us) (EP X pins σ Q) X.xe s := by
  have r2 := r.append hd
  have hl : (us ++ ds).length = ps.length := r2.length.symm.trans (F.len _ _ _ _ h)
  refine wpAny_call (codeAny_mono (F.run X.A X.stack s H ⟨us, []⟩ _ _ Q (fun _ _ _ => False) hr hG I.env0 (hb s us I.kIn hl) r2 h) fun o s' hq => ?_)
  match o, hq with
  | .error e, hq => exact pass0 pins σ H s e s' I hq
  | .ok (.ret u), hq => exact I.after hq
/-- a def of the module, as a function of trees (ds: the defaults at its end) -/
structure ZC (P : Program) (w : World) (K : PySem.W.Frag) (mg : Str → Option Value) (base : Heap) (k : Nat) (x : Str) (fn : Fn) (ds : List PyData) : Prop where
  ex : ∃ f fd ps vds dvs, mg x = some (.ref f) ∧ PySem.W.keepIn K (.ref f) = true ∧ Binds K fd ps vds ∧ Vals dvs vds ∧ (∀ H, Ts P w K H dvs ds) ∧ FnZ P w K mg base CX0 k f fd ps (spF base P w K ps.length fn) ∧ ∀ os r, fn os = some r → os.length = ps.length
theorem zC {j k : Nat} {fn : Fn} {x : Str} {p : Pos} {ds : List PyData} (c : ZC X.prog X.w X.K X.mg X.base k x fn ds) (hr : Room j X.A) (hG : X.A.guards = some []) (ha : PA X (e :: es) (tAs X ms)) (hk : k ≤ j := by decide) (hg : Gl X x := by rfl) (hdb : (x == ("__debug__" : Str)) = false := by decide)
    (he : starEach (e :: es) X.env = (false, eval e X.env) :: starEach es X.env := by rfl) (hpl : (backTo pos (starEach es X.env)).any (·.1) = false := by rfl) : PE X (.Call (.Name x p) (e :: es) [] pos) (tM X (mCall fn ms ds)) := by
  obtain ⟨f, fd, ps, vds, dvs, hm, kp, hb, hd, td, F, hn⟩ := c.ex
  refine PEimp (t := tCall (spF X.base X.prog X.w X.K ps.length fn) dvs (fun _ _ _ => False) (tAs X ms)) ⟨fun pins s σ H Q I h => ?_⟩ fun σ H Q h => call_read td hn h
  refine wpAny_Call_Name_kw (ld_glob I hg hm (PySem.W.callWith_K (h₀ := X.base) I.ok.mod.kin kp (thn (ha.run pos pins s σ H _ I h) fun us s1 hq => ?_) he hpl) hdb)
  obtain ⟨vs, H1, I1, r, q⟩ := hq
  exact ⟨I1.kIn, run_fnz F (hr.mono hk) hG hb hd I1 r q⟩
end
section
variable {P : Program} {w : World} {K : PySem.W.Frag} {mg : Str → Option Value} {base : Heap}
/-- a def that is called with all its arguments -/
theorem ZC.all {k : Nat} {x : Str} {f : Addr} {fd : FuncData} {ps : List Str} {fn : Fn} (hm : mg x = some (.ref f)) (kp : PySem.W.keepIn K (.ref f) = true) (F : FnZ P w K mg base CX0 k f fd ps (spF base P w K ps.length fn)) (hn : ∀ os r, fn os = some r → os.length = ps.length)
    (hb : ∀ us : List Value, us.length = ps.length → bindArgs fd ⟨us, []⟩ = pure (ps.zip us)) : ZC P w K mg base k x fn [] :=
  ⟨f, fd, ps, [], [], hm, kp, .all hb, .nil, fun _ => .nil, F, hn⟩
end
end Z
set_option Elab.async false
set_option linter.all false
set_option maxRecDepth 100000
set_option maxHeartbeats 1000000
/-! Z6: operators on data. -/
namespace Z
open PySem PySem.Spec PyProof.Rows L2 SeqAt

section
variable {X : Cx}
theorem T.int_of {P : Program} {w : World} {K : PySem.W.Frag} {H : Hp} {v : V} {i : Int} (t : T P w K H v (.int i)) : v = .int i := by cases t; rfl
theorem T.str_of {P : Program} {w : World} {K : PySem.W.Frag} {H : Hp} {v : V} {x : Str} (t : T P w K H v (.str x)) : v = .str x := by cases t; rfl
theorem T.none_of {P : Program} {w : World} {K : PySem.W.Frag} {H : Hp} {v : V} (t : T P w K H v .none) : v = .non := by cases t; rfl
theorem T.tup_of {P : Program} {w : World} {K : PySem.W.Frag} {H : Hp} {v : V} {ds : List PyData} (t : T P w K H v (.tuple ds)) : ∃ a xs, v = .ref a ∧ SqT K H a xs ∧ Ts P w K H xs ds := by cases t with | tup h t => exact ⟨_, _, rfl, h, t⟩
theorem T.lst_of {P : Program} {w : World} {K : PySem.W.Frag} {H : Hp} {v : V} {ds : List PyData} (t : T P w K H v (.list ds)) : ∃ a xs, v = .ref a ∧ FzL K H a xs ∧ Ts P w K H xs ds := by cases t with | lst h t => exact ⟨_, _, rfl, h, t⟩
/-- the answers' forms -/
def oI (i : Int) : Option O := some (.dat (.int i))
def oB (b : Bool) : Option O := some (.dat (.bool b))
def oS (x : Str) : Option O := some (.dat (.str x))
theorem opI2 {f : Value → Value → Sem Value} {C : Int → Int → Prop} {g : Int → Int → V} {g' : PyData → PyData → Option O} (h : OpR X f (rI C g)) (hg : ∀ d e r, g' d e = some r → ∃ i j z, d = .int i ∧ e = .int j ∧ C i j ∧ r = .dat z ∧ ∀ H, TX X H (g i j) z) : OpD X f g' :=
  fun pins s σ H x y v u Q I rx ry ⟨d1, d2, o, t1, t2, e, n⟩ => by
  obtain ⟨i, j, z, rfl, rfl, hc, rfl, t⟩ := hg _ _ _ e
  exact h pins s σ H x y v u Q I rx ry ⟨i, j, t1.int_of, t2.int_of, hc, n.dat (t H)⟩
theorem opI20 {f : Value → Value → Sem Value} {g : Int → Int → V} {g' : PyData → PyData → Option O} (h : OpR X f (rI0 g)) (hg : ∀ d e r, g' d e = some r → ∃ i j z, d = .int i ∧ e = .int j ∧ r = .dat z ∧ ∀ H, TX X H (g i j) z) : OpD X f g' :=
  fun pins s σ H x y v u Q I rx ry ⟨d1, d2, o, t1, t2, e, n⟩ => by
  obtain ⟨i, j, z, rfl, rfl, rfl, t⟩ := hg _ _ _ e
  exact h pins s σ H x y v u Q I rx ry ⟨i, j, t1.int_of, t2.int_of, n.dat (t H)⟩
/-- two functions side by side -/
theorem OpD.or {f : Value → Value → Sem Value} {g g1 g2 : PyData → PyData → Option O} (h1 : OpD X f g1) (h2 : OpD X f g2) (h : ∀ d e r, g d e = some r → g1 d e = some r ∨ g2 d e = some r) : OpD X f g :=
  fun pins s σ H x y v u Q I rx ry ⟨d1, d2, o, t1, t2, e, n⟩ => by
  rcases h _ _ _ e with q | q
  · exact h1 pins s σ H x y v u Q I rx ry ⟨d1, d2, o, t1, t2, q, n⟩
  · exact h2 pins s σ H x y v u Q I rx ry ⟨d1, d2, o, t1, t2, q, n⟩
def onI (f : Int → Int → Option O) : PyData → PyData → Option O
  | .int i, .int j => f i j
  | _, _ => none
theorem onI_some {f : Int → Int → Option O} {d e : PyData} {r : O} (h : onI f d e = some r) : ∃ i j, d = .int i ∧ e = .int j ∧ f i j = some r := by
  unfold onI at h
  split at h
  · exact ⟨_, _, rfl, rfl, h⟩
  · cases h
theorem zsub : OpD X (binaryOp .Sub) (onI fun i j => oI (i - j)) := opI20 op_sub fun d e r h => by
  obtain ⟨i, j, rfl, rfl, h2⟩ := onI_some h
  cases h2
  exact ⟨i, j, _, rfl, rfl, rfl, fun _ => .int _⟩
/-- one factor is small -/
def small (i : Int) : Bool := decide (-(2 ^ 64) < i ∧ i < 2 ^ 64)
theorem zmul : OpD X (binaryOp .Mult) (onI fun i j => if small i || small j then oI (i * j) else none) := opI2 op_mul fun d e r h => by
  obtain ⟨i, j, rfl, rfl, h2⟩ := onI_some h
  split at h2
  · rename_i hs
    cases h2
    refine ⟨i, j, _, rfl, rfl, ?_, rfl, fun _ => .int _⟩
    rw [Bool.or_eq_true] at hs
    exact hs.imp of_decide_eq_true of_decide_eq_true
  · cases h2
theorem zfdiv : OpD X (binaryOp .FloorDiv) (onI fun i j => if 0 < j ∧ j < 1073741824 then oI (i / j) else none) := opI2 op_fdiv fun d e r h => by
  obtain ⟨i, j, rfl, rfl, h2⟩ := onI_some h
  split at h2
  · rename_i hs
    cases h2
    exact ⟨i, j, _, rfl, rfl, hs, rfl, fun _ => .int _⟩
  · cases h2
theorem zmod : OpD X (binaryOp .Mod) (onI fun i j => if 0 < j then oI (i % j) else none) := opI2 op_mod fun d e r h => by
  obtain ⟨i, j, rfl, rfl, h2⟩ := onI_some h
  split at h2
  · rename_i hs
    cases h2
    exact ⟨i, j, _, rfl, rfl, hs, rfl, fun _ => .int _⟩
  · cases h2
theorem zpow : OpD X (binaryOp .Pow) (onI fun i j => if 0 ≤ j ∧ j ≤ 1000000 ∧ i.natAbs < 2 ^ 64 then oI (i ^ j.toNat) else none) := opI2 op_pow fun d e r h => by
  obtain ⟨i, j, rfl, rfl, h2⟩ := onI_some h
  split at h2
  · rename_i hs
    cases h2
    exact ⟨i, j, _, rfl, rfl, hs, rfl, fun _ => .int _⟩
  · cases h2
theorem zadd1 : OpD X (binaryOp .Add) (onI fun i j => oI (i + j)) := opI20 op_add fun d e r h => by
  obtain ⟨i, j, rfl, rfl, h2⟩ := onI_some h
  cases h2
  exact ⟨i, j, _, rfl, rfl, rfl, fun _ => .int _⟩
def addS : PyData → PyData → Option O
  | .str x, .str y => if x.length + y.length ≤ sizeLine then oS (x ++ y) else none
  | _, _ => none
theorem zadd2 : OpD X (binaryOp .Add) addS := fun pins s σ H x y v u Q I rx ry ⟨d1, d2, o, t1, t2, e, n⟩ => by
  unfold addS at e
  split at e
  · split at e
    · rename_i hz
      cases e
      exact op_add_str pins s σ H x y v u Q I rx ry ⟨_, _, t1.str_of, t2.str_of, hz, n.dat (.str _)⟩
    · cases e
  · cases e
theorem New.tup {H : Hp} {xs : List V} {ds : List PyData} {Q : VK} (n : New X H (.dat (.tuple ds)) Q) (ts : TsX X H xs ds) : ∀ p, H p = none → Q (.ref p) (upd H p (.tup xs)) := fun p hp => by
  have st : Stp [] H [] (upd H p (.tup xs)) := (upd_stp hp).sub fun _ m => by cases m
  exact n _ _ [] (.dat (.tup (.inl (.inl upd_same)) (ts.grow (st.grow fun _ m => by cases m)))) List.nodup_nil st
theorem New.lst {H : Hp} {xs : List V} {ds : List PyData} {Q : VK} (n : New X H (.lst (ds.map .dat)) Q) (ts : TsX X H xs ds) : ∀ p, H p = none → Q (.ref p) (upd H p (.lst xs)) := fun p hp => by
  have st : Stp [] H [p] (upd H p (.lst xs)) := upd_stp hp
  exact n _ _ [p] (by simpa using RO.lst upd_same (ROs.of_data (ts.grow (st.grow fun _ m => by cases m)))) (by simp) st
def addT : PyData → PyData → Option O
  | .tuple xs, .tuple ys => if xs.length + ys.length ≤ sizeLine then some (.dat (.tuple (xs ++ ys))) else none
  | _, _ => none
theorem Ts.nil_iff {P : Program} {w : World} {K : PySem.W.Frag} {H : Hp} {xs : List V} {ds : List PyData} (t : Ts P w K H xs ds) : xs = [] ↔ ds = [] := by
  have := t.length
  constructor
  · intro h; subst h; exact List.eq_nil_of_length_eq_zero this.symm
  · intro h; subst h; exact List.eq_nil_of_length_eq_zero this
theorem zadd3 : OpD X (binaryOp .Add) addT := fun pins s σ H x y v u Q I rx ry ⟨d1, d2, o, t1, t2, e, n⟩ => by
  unfold addT at e
  split at e
  · split at e
    · rename_i hz
      cases e
      obtain ⟨a, xs, rfl, h1, ts1⟩ := t1.tup_of
      obtain ⟨b, ys, rfl, h2, ts2⟩ := t2.tup_of
      refine op_catA pins s σ H _ _ v u Q I rx ry ⟨a, b, xs, ys, rfl, rfl, h1, h2, by rw [ts1.length, ts2.length]; exact hz, fun hx => ?_, fun hx hy => ?_, fun hx hy => n.tup (ts1.append ts2)⟩
      · rw [ts1.nil_iff.mp hx, List.nil_append] at n
        exact n.dat (.tup h2 ts2)
      · rw [ts2.nil_iff.mp hy, List.append_nil] at n
        exact n.dat (.tup h1 ts1)
    · cases e
  · cases e
def addL : PyData → PyData → Option O
  | .list xs, .list ys => if xs.length + ys.length ≤ sizeLine then some (.lst ((xs ++ ys).map .dat)) else none
  | _, _ => none
theorem zadd4 : OpD X (binaryOp .Add) addL := fun pins s σ H x y v u Q I rx ry ⟨d1, d2, o, t1, t2, e, n⟩ => by
  unfold addL at e
  split at e
  · split at e
    · rename_i hz
      cases e
      obtain ⟨a, xs, rfl, h1, ts1⟩ := t1.lst_of
      obtain ⟨b, ys, rfl, h2, ts2⟩ := t2.lst_of
      cases rx
      cases ry
      obtain ⟨its, r1, ⟨o1, n1, g1, c1, dd1, e1⟩, _⟩ := I.list h1.seq
      obtain ⟨its2, r2, ⟨o2, n2, g2, c2, dd2, e2⟩, _⟩ := I.list h2.seq
      have len1 := r1.length
      have len2 := r2.length
      have k1 := ts1.length
      have k2 := ts2.length
      obtain ⟨cls1, dct1, dat1, sl1⟩ := o1
      obtain ⟨cls2, dct2, dat2, sl2⟩ := o2
      simp only at c1 dd1 e1 c2 dd2 e2
      subst c1 e1 c2 e2
      have ea : its.toArray ++ its2.toArray = (its ++ its2).toArray := by simp
      have hsz : its.toArray.size + its2.toArray.size ≤ sizeLine := by simp only [List.size_toArray]; omega
      refine concat_meets ⟨_, g1, rfl⟩ ⟨_, g2, rfl⟩ noFill_list_add seq_list_add PySem.F.slot_list_add PySem.F.entry_list_add (PySem.F.args_list_add_2 _ _) (list_addW a b its.toArray its2.toArray n1 n2 dct1 dct2 sl1 sl2 hsz) ⟨g1, g2, ?_⟩
      rw [ea]
      exact ⟨.ref _, _, I.lnew (t' := s.toks) (r1.append r2) (by rw [List.length_append]; omega), rfl, n.lst (ts1.append ts2) _ I.fresh⟩
    · cases e
  · cases e
/-- a + b -/
def addD : PyData → PyData → Option O
  | .int i, .int j => oI (i + j)
  | .str x, .str y => if x.length + y.length ≤ sizeLine then oS (x ++ y) else none
  | .tuple xs, .tuple ys => if xs.length + ys.length ≤ sizeLine then some (.dat (.tuple (xs ++ ys))) else none
  | .list xs, .list ys => if xs.length + ys.length ≤ sizeLine then some (.lst ((xs ++ ys).map .dat)) else none
  | _, _ => none
theorem zadd : OpD X (binaryOp .Add) addD := by
  refine OpD.or (g2 := fun d e => (addS d e).or ((addT d e).or (addL d e))) zadd1 (OpD.or (g2 := fun d e => (addT d e).or (addL d e)) zadd2 (OpD.or zadd3 zadd4 ?_) ?_) ?_
  · intro d e r h
    cases q : addT d e with
    | none => rw [q] at h; exact .inr h
    | some z => rw [q] at h; cases h; exact .inl rfl
  · intro d e r h
    cases q : addS d e with
    | none => rw [q] at h; exact .inr h
    | some z => rw [q] at h; cases h; exact .inl rfl
  · intro d e r h
    unfold addD at h
    split at h
    · exact .inl h
    · refine .inr ?_
      rw [show addS (.str _) (.str _) = some r from h]; rfl
    · refine .inr ?_
      rw [show addT (.tuple _) (.tuple _) = some r from h]; rfl
    · refine .inr ?_
      rw [show addL (.list _) (.list _) = some r from h]; rfl
    · cases h

/-! ### comparisons -/
/-- data that == can be asked of -/
def pl (d : PyData) : Bool := d.plain && decide (d.depth ≤ 40)
theorem pl_ok {d : PyData} (h : pl d = true) : d.plain = true ∧ d.depth ≤ 40 := by
  unfold pl at h
  rw [Bool.and_eq_true] at h
  exact ⟨h.1, of_decide_eq_true h.2⟩
theorem opPure {f : Value → Value → Sem Value} {g : PyData → PyData → Option O} (h : ∀ d e r, g d e = some r → ∃ b, r = .dat (.bool b) ∧ pl d = true ∧ pl e = true ∧
    ∀ (pins : List (Addr × Obj)) (s : Shared) (σ : L2.St) (H : Hp) (v u : Value) (as bs : List Addr) (Q : Value → Shared → Prop), Inv X pins σ H s → Reads s.heap v d as → Reads s.heap u e bs → Q (.bool b) s → wpAny (model X.prog X.w) X.A (f v u) Q X.xe s) : OpD X f g :=
  fun pins s σ H x y v u Q I rx ry ⟨d1, d2, o, t1, t2, e, n⟩ => by
  obtain ⟨b, rfl, p1, p2, k⟩ := h _ _ _ e
  obtain ⟨as, r1⟩ := t1.reads I (pl_ok p1).1 rx
  obtain ⟨bs, r2⟩ := t2.reads I (pl_ok p2).1 ry
  exact k pins s σ H v u as bs _ I r1 r2 ⟨.bl b, H, I, rfl, n.dat (.bl b)⟩
def eqD (d e : PyData) : Option O := if pl d && pl e then oB (PyData.eqv d e) else none
def neD (d e : PyData) : Option O := if pl d && pl e then oB (!PyData.eqv d e) else none
theorem rm {A : Around} {n m : Nat} (hu : A.units + 64 < cLine) (h : n ≤ 40) : A.units + min n m < cLine := by
  have := Nat.min_le_left n m
  omega
theorem zeq (hu : X.A.units + 64 < cLine) : OpD X (compareOp .Eq) eqD := opPure fun d e r h => by
  unfold eqD at h
  split at h
  · rename_i hp
    rw [Bool.and_eq_true] at hp
    cases h
    exact ⟨_, rfl, hp.1, hp.2, fun pins s σ H v u as bs Q I r1 r2 q => eq_plain r1 r2 (pl_ok hp.1).1 (pl_ok hp.2).1 (rm hu (pl_ok hp.1).2) q⟩
  · cases h
theorem zne (hu : X.A.units + 64 < cLine) : OpD X (compareOp .NotEq) neD := opPure fun d e r h => by
  unfold neD at h
  split at h
  · rename_i hp
    rw [Bool.and_eq_true] at hp
    cases h
    exact ⟨_, rfl, hp.1, hp.2, fun pins s σ H v u as bs Q I r1 r2 q => ne_plain r1 r2 (pl_ok hp.1).1 (pl_ok hp.2).1 (rm hu (pl_ok hp.1).2) q⟩
  · cases h
/-- one order: for whole numbers, else for alike data -/
def ordD (fi : Int → Int → Bool) (fd : PyData → PyData → Bool) : PyData → PyData → Option O
  | .int i, .int j => oB (fi i j)
  | .none, _ => none
  | d, e => if PySem.W.alike d e && (pl d && pl e) then oB (fd d e) else none
theorem ordD_some {fi : Int → Int → Bool} {fd : PyData → PyData → Bool} {d e : PyData} {r : O} (hi : ∀ i j, fd (.int i) (.int j) = fi i j) (h : ordD fi fd d e = some r) : r = .dat (.bool (fd d e)) ∧ PySem.W.alike d e = true ∧ pl d = true ∧ pl e = true ∧ d ≠ .none := by
  unfold ordD at h
  split at h
  · cases h
    exact ⟨by rw [hi], rfl, rfl, rfl, by simp⟩
  · cases h
  · split at h
    · rename_i hp
      rw [Bool.and_eq_true, Bool.and_eq_true] at hp
      cases h
      rename_i hn
      exact ⟨rfl, hp.1, hp.2.1, hp.2.2, by assumption⟩
    · cases h
def ltD : PyData → PyData → Option O := ordD (fun i j => decide (i < j)) PySem.W.dataLt
def gtD : PyData → PyData → Option O := ordD (fun i j => decide (j < i)) fun d e => PySem.W.dataLt e d
def leD : PyData → PyData → Option O := ordD (fun i j => decide (i ≤ j)) fun d e => !PySem.W.dataLt e d
def geD : PyData → PyData → Option O := ordD (fun i j => decide (j ≤ i)) fun d e => !PySem.W.dataLt d e
theorem nlt (i j : Int) : (!decide (i < j)) = decide (j ≤ i) := by
  rw [← decide_not]; exact decide_eq_decide.mpr Int.not_lt
theorem zlt (hu : X.A.units + 64 < cLine) : OpD X (compareOp .Lt) ltD := opPure fun d e r h => by
  obtain ⟨rfl, ha, p1, p2, hn⟩ := ordD_some (fun i j => PySem.W.dataLt_int i j) h
  exact ⟨_, rfl, p1, p2, fun pins s σ H v u as bs Q I r1 r2 q => PySem.W.lt_data r1 r2 ha hn (rm hu (pl_ok p1).2) q⟩
theorem zgt (hu : X.A.units + 64 < cLine) : OpD X (compareOp .Gt) gtD := opPure fun d e r h => by
  obtain ⟨rfl, ha, p1, p2, hn⟩ := ordD_some (fun i j => PySem.W.dataLt_int j i) h
  exact ⟨_, rfl, p1, p2, fun pins s σ H v u as bs Q I r1 r2 q => PySem.W.gt_data r1 r2 ha hn (rm hu (pl_ok p1).2) q⟩
theorem zle (hu : X.A.units + 64 < cLine) : OpD X (compareOp .LtE) leD := opPure fun d e r h => by
  obtain ⟨rfl, ha, p1, p2, hn⟩ := ordD_some (fun i j => by rw [PySem.W.dataLt_int, nlt]) h
  exact ⟨_, rfl, p1, p2, fun pins s σ H v u as bs Q I r1 r2 q => PySem.W.le_data r1 r2 ha hn (rm hu (pl_ok p1).2) q⟩
theorem zge (hu : X.A.units + 64 < cLine) : OpD X (compareOp .GtE) geD := opPure fun d e r h => by
  obtain ⟨rfl, ha, p1, p2, hn⟩ := ordD_some (fun i j => by rw [PySem.W.dataLt_int, nlt]) h
  exact ⟨_, rfl, p1, p2, fun pins s σ H v u as bs Q I r1 r2 q => PySem.W.ge_data r1 r2 ha hn (rm hu (pl_ok p1).2) q⟩
def isNone : PyData → Bool
  | .none => true
  | _ => false
theorem T.isNone {P : Program} {w : World} {K : PySem.W.Frag} {H : Hp} {v : V} {d : PyData} (t : T P w K H v d) : decide (v = .non) = Z.isNone d := by cases t <;> simp [Z.isNone]
def isD : PyData → PyData → Option O
  | d, .none => oB (isNone d)
  | _, _ => none
def isNotD : PyData → PyData → Option O
  | d, .none => oB (!isNone d)
  | _, _ => none
theorem zis : OpD X (compareOp .Is) isD := fun pins s σ H x y v u Q I rx ry ⟨d1, d2, o, t1, t2, e, n⟩ => by
  unfold isD at e
  split at e
  · cases e
    exact op_isN pins s σ H x y v u Q I rx ry ⟨t2.none_of, by rw [t1.isNone]; exact n.dat (.bl _)⟩
  · cases e
theorem zisNot : OpD X (compareOp .IsNot) isNotD := fun pins s σ H x y v u Q I rx ry ⟨d1, d2, o, t1, t2, e, n⟩ => by
  unfold isNotD at e
  split at e
  · cases e
    exact op_notN pins s σ H x y v u Q I rx ry ⟨t2.none_of, by rw [t1.isNone]; exact n.dat (.bl _)⟩
  · cases e

/-! ### in -/
/-- the data of a tree's items -/
def datsO : List O → Option (List PyData)
  | [] => some []
  | .dat d :: os => (datsO os).map (d :: ·)
  | _ :: _ => none
theorem datsO_ok {P : Program} {w : World} {K : PySem.W.Frag} {H : Hp} : ∀ {vs : List V} {os : List O} {F : List Addr} {ds : List PyData}, ROs P w K H vs os F → datsO os = some ds → Ts P w K H vs ds
  | _, _, _, _, .nil, h => by cases h; exact .nil
  | _, _, _, _, @ROs.cons _ _ _ _ v o vs os F G r t, h => by
    cases o with
    | dat d =>
      have h : (datsO os).map (d :: ·) = some _ := h
      cases q : datsO os with
      | none => rw [q] at h; cases h
      | some z => rw [q] at h; cases h; exact .cons r.flat.2 (datsO_ok t q)
    | lst _ => cases h
    | dct _ => cases h
/-- the items of a list or a tuple -/
def items : O → Option (List PyData)
  | .dat (.list ds) => some ds
  | .dat (.tuple ds) => some ds
  | .lst os => datsO os
  | _ => none
/-- x in a row -/
def inO (d : PyData) (o : O) : Option O := (items o).bind fun ds => if pl d && PyData.plainAll ds then oB (ds.any fun y => PyData.eqv y d) else none
def ninO (d : PyData) (o : O) : Option O := (items o).bind fun ds => if pl d && PyData.plainAll ds then oB (!ds.any fun y => PyData.eqv y d) else none
/-- the row of a tree: a list's or a tuple's -/
theorem items_ok {H : Hp} {v : V} {o : O} {G : List Addr} {ds : List PyData} (r : RX X H v o G) (h : items o = some ds) :
    (∃ a xs, v = .ref a ∧ SqL X.K H a xs ∧ TsX X H xs ds) ∨ (∃ a xs, v = .ref a ∧ SqT X.K H a xs ∧ TsX X H xs ds) := by
  unfold items at h
  split at h
  · cases h
    obtain ⟨a, xs, rfl, h1, h2⟩ := r.flat.2.lst_of
    exact .inl ⟨a, xs, rfl, h1.seq, h2⟩
  · cases h
    obtain ⟨a, xs, rfl, h1, h2⟩ := r.flat.2.tup_of
    exact .inr ⟨a, xs, rfl, h1, h2⟩
  · cases r with
    | lst h1 h2 => exact .inl ⟨_, _, rfl, SqL.of h1, datsO_ok h2 h⟩
  · cases h
theorem rm2 {A : Around} {n m : Nat} (hu : A.units + 64 < cLine) (h : n ≤ 40) : A.units + 1 + min m n < cLine := by
  have := Nat.min_le_right m n
  omega
theorem zin (hu : X.A.units + 64 < cLine) : OpP X (compareOp .In) inO := fun pins s σ H x y v u Q I rx ry ⟨d1, o2, o, G, t1, r2, ng, e, n⟩ => by
  unfold inO at e
  cases q : items o2 with
  | none => rw [q] at e; cases e
  | some ds =>
    simp only [q, Option.bind_some] at e
    split at e
    · rename_i hp
      rw [Bool.and_eq_true] at hp
      cases e
      obtain ⟨as, ra⟩ := t1.reads I (pl_ok hp.1).1 rx
      have fin : EP X pins σ Q (.bool (ds.any fun y => PyData.eqv y d1)) s := ⟨.bl _, H, I, rfl, n.dat (.bl _)⟩
      rcases items_ok r2 q with ⟨a, xs, rfl, h1, h2⟩ | ⟨a, xs, rfl, h1, h2⟩
      · cases ry
        obtain ⟨its, rv, ⟨ob, m, e1, e2, e3, e4⟩, _⟩ := I.list h1
        obtain ⟨bs, rb⟩ := h2.reads I hp.2 rv
        exact in_list_data (.list e1 e2 e4 (by simpa using rb)) ra hp.2 (pl_ok hp.1).1 (rm2 hu (pl_ok hp.1).2) fin
      · cases ry
        obtain ⟨its, rv, ⟨ob, e1, e2, m, e4⟩, _⟩ := I.tuple h1
        obtain ⟨bs, rb⟩ := h2.reads I hp.2 rv
        exact in_tuple_data (.tuple e1 e2 e4 (by simpa using rb)) ra hp.2 (pl_ok hp.1).1 (rm2 hu (pl_ok hp.1).2) fin
    · cases e
theorem znin (hu : X.A.units + 64 < cLine) : OpP X (compareOp .NotIn) ninO := fun pins s σ H x y v u Q I rx ry ⟨d1, o2, o, G, t1, r2, ng, e, n⟩ => by
  unfold ninO at e
  cases q : items o2 with
  | none => rw [q] at e; cases e
  | some ds =>
    simp only [q, Option.bind_some] at e
    split at e
    · rename_i hp
      rw [Bool.and_eq_true] at hp
      cases e
      obtain ⟨as, ra⟩ := t1.reads I (pl_ok hp.1).1 rx
      have fin : EP X pins σ Q (.bool (!ds.any fun y => PyData.eqv y d1)) s := ⟨.bl _, H, I, rfl, n.dat (.bl _)⟩
      rcases items_ok r2 q with ⟨a, xs, rfl, h1, h2⟩ | ⟨a, xs, rfl, h1, h2⟩
      · cases ry
        obtain ⟨its, rv, ⟨ob, m, e1, e2, e3, e4⟩, _⟩ := I.list h1
        obtain ⟨bs, rb⟩ := h2.reads I hp.2 rv
        exact notIn_list_data (.list e1 e2 e4 (by simpa using rb)) ra hp.2 (pl_ok hp.1).1 (rm2 hu (pl_ok hp.1).2) fin
      · cases ry
        obtain ⟨its, rv, ⟨ob, e1, e2, m, e4⟩, _⟩ := I.tuple h1
        obtain ⟨bs, rb⟩ := h2.reads I hp.2 rv
        exact notIn_tuple_data (.tuple e1 e2 e4 (by simpa using rb)) ra hp.2 (pl_ok hp.1).1 (rm2 hu (pl_ok hp.1).2) fin
    · cases e
end
end Z
set_option Elab.async false
set_option linter.all false
set_option maxRecDepth 100000
set_option maxHeartbeats 1000000
/-! Z7: dicts. -/
namespace Z
open PySem PySem.Spec PyProof.Rows L2

abbrev Es := List (NestedKey × V × V)
def isTup : NestedKey → Bool
  | .tup _ => true
  | _ => false
/-- the key may be asked of a dict with these keys -/
def okKey {α : Type} (es : List (NestedKey × α)) (k : NestedKey) : Bool := match k with
  | .num _ => es.all fun p => !isTup p.1
  | .text _ => es.all fun p => !isTup p.1
  | .tup ks => (es.all fun p => isTup p.1) && decide ((NestedKey.tup ks).depth ≤ 8)
  | .none => false
def look {α : Type} (es : List (NestedKey × α)) (k : NestedKey) : Option α := (es.find? fun p => decide (p.1 = k)).map (·.2)
def store {α : Type} (es : List (NestedKey × α)) (k : NestedKey) (z : α) (g : α → α) : List (NestedKey × α) :=
  if (es.any fun p => decide (p.1 = k)) = true then es.map (fun p => if p.1 = k then (p.1, g p.2) else p) else es ++ [(k, z)]
/-- the entries behind d[k] = v -/
def eput (es : Es) (k : NestedKey) (y v : V) : Es := store es k (y, v) fun q => (q.1, v)
def DAt (X : Cx) (H : Hp) (a : Addr) (es : Es) : Prop := ∃ u, Rd H a u ∧ Ent X.prog X.w a u es
def Keys (X : Cx) (H : Hp) (es : Es) : Prop := ∀ p ∈ es, TX X H p.2.1 p.1.data
theorem look_nil {α : Type} {k : NestedKey} : look ([] : List (NestedKey × α)) k = none := rfl
theorem look_pos {α : Type} {p : NestedKey × α} {r : List (NestedKey × α)} {k : NestedKey} (e : p.1 = k) : look (p :: r) k = some p.2 := by simp [look, List.find?_cons, e]
theorem look_neg {α : Type} {p : NestedKey × α} {r : List (NestedKey × α)} {k : NestedKey} (e : ¬ p.1 = k) : look (p :: r) k = look r k := by simp [look, List.find?_cons, e]
theorem look_any {α : Type} (k : NestedKey) : ∀ es : List (NestedKey × α), (es.any fun p => decide (p.1 = k)) = (look es k).isSome
  | [] => rfl
  | p :: r => by
    rw [List.any_cons]
    by_cases e : p.1 = k
    · simp only [look_pos e, decide_eq_true e, Bool.true_or, Option.isSome_some]
    · rw [look_neg e, decide_eq_false e, Bool.false_or]; exact look_any k r

/-! ### by value -/
def kK : NestedKey → Option L2.Key
  | .num i => some (.inl i)
  | .text x => some (.inr x)
  | _ => none
theorem kK_nk {k : NestedKey} {q : L2.Key} (h : kK k = some q) : nkK q = k := by
  cases k <;> simp only [kK] at h <;> cases h <;> rfl
theorem nk_tup (q : L2.Key) : isTup (nkK q) = false := by cases q <;> rfl
theorem nk_inj {q r : L2.Key} : nkK q = nkK r ↔ q = r := by
  constructor
  · intro h
    cases q <;> cases r <;> simp only [nkK] at h <;> cases h <;> rfl
  · intro h; rw [h]
section
variable {X : Cx} {pins : List (Addr × Obj)} {σ : L2.St} {H : Hp} {s : Shared} {a : Addr} {es : Es} {k : NestedKey} {y v : V} {uy uv : Value}
theorem key_v (t : TX X H y k.data) {q : L2.Key} (h : kK k = some q) : y = kV q := by
  cases k with
  | num i => cases h; exact t.int_of
  | text x => cases h; exact t.str_of
  | none => cases h
  | tup _ => cases h
/-- whole numbers and texts -/
theorem ent_k {u : HO} (e : Ent X.prog X.w a u es) (h : (es.all fun p => !isTup p.1) = true) : ∃ kvs, u = .dK kvs ∧ es = kvs.map fun p => (nkK p.1, kV p.1, p.2) := by
  cases e with
  | dK kvs => exact ⟨kvs, rfl, rfl⟩
  | dN kvs h0 h1 _ =>
    cases kvs with
    | nil => exact absurd rfl h0
    | cons p r =>
      obtain ⟨ks, e⟩ := h1 p List.mem_cons_self
      rw [List.map_cons, List.all_cons, Bool.and_eq_true, e] at h
      exact absurd h.1 (by simp [isTup])
theorem look_k (q : L2.Key) : ∀ kvs : List (L2.Key × V), (look (kvs.map fun p => (nkK p.1, kV p.1, p.2)) (nkK q)).map (·.2) = valV kvs q
  | [] => rfl
  | p :: r => by
    have ih := look_k q r
    rw [List.map_cons]
    by_cases e : p.1 = q
    · rw [look_pos (p := (nkK p.1, kV p.1, p.2)) (nk_inj.mpr e), valV_pos e]; rfl
    · rw [look_neg (p := (nkK p.1, kV p.1, p.2)) (fun z => e (nk_inj.mp z)), valV_neg e, ih]
theorem eput_k (q : L2.Key) (v : V) (kvs : List (L2.Key × V)) : eput (kvs.map fun p => (nkK p.1, kV p.1, p.2)) (nkK q) (kV q) v = (putK kvs q v).map fun p => (nkK p.1, kV p.1, p.2) := by
  unfold eput store putK
  have e : ((kvs.map fun p => (nkK p.1, kV p.1, p.2)).any fun p => decide (p.1 = nkK q)) = kvs.any fun kv => decide (kv.1 = q) := by
    rw [List.any_map]
    congr 1
    funext p
    exact decide_eq_decide.mpr nk_inj
  rw [e]
  split
  · rw [List.map_map, List.map_map]
    refine List.map_congr_left fun p _ => ?_
    simp only [Function.comp]
    by_cases z : p.1 = q
    · rw [if_pos (nk_inj.mpr z), if_pos z]
    · rw [if_neg (fun t => z (nk_inj.mp t)), if_neg z]
  · rw [List.map_append]; rfl

/-! ### tuples -/
mutual
theorem T.nested {H : Hp} (I : Inv X pins σ H s) : ∀ (k : NestedKey) {v : V} {u : Value}, TX X H v k.data → RelV v u → NestedIs s.heap k u
  | .none, _, _, t, r => by rw [t.none_of] at r; cases r; exact .none
  | .num i, _, _, t, r => by rw [t.int_of] at r; obtain ⟨t', rfl⟩ := r; exact .int i t'
  | .text x, _, _, t, r => by rw [t.str_of] at r; obtain ⟨t', rfl⟩ := r; exact .text x t'
  | .tup ks, _, _, t, r => by
    obtain ⟨a, xs, rfl, h1, h2⟩ := t.tup_of
    cases r
    obtain ⟨its, rv, ⟨o, e1, e2, n, e3⟩, _⟩ := I.tuple h1
    exact .tup e1 e2 e3 (by simpa using Ts.nested I ks h2 rv)
theorem Ts.nested {H : Hp} (I : Inv X pins σ H s) : ∀ (ks : List NestedKey) {vs : List V} {us : List Value}, TsX X H vs (NestedKey.datas ks) → Vals vs us → NestedAll s.heap ks us
  | [], _, _, t, r => by cases t; cases r; exact .nil
  | k :: ks, _, _, t, r => by
    cases t with
    | cons t ts =>
      cases r with
      | cons r rs => exact .cons (T.nested I k t r) (Ts.nested I ks ts rs)
end
abbrev EZ : Es → List (NestedKey × Addr × Value) → Prop := Paired fun (p : NestedKey × V × V) (q : NestedKey × Addr × Value) => p.1 = q.1 ∧ p.2.1 = V.ref q.2.1 ∧ RelV p.2.2 q.2.2
theorem EZ.look : ∀ {es : Es} {zs : List (NestedKey × Addr × Value)} (k : NestedKey), EZ es zs → RelO ((Z.look es k).map (·.2)) ((atKey zs k).map (·.2))
  | _, _, _, .nil => True.intro
  | _, _, k, @Paired.cons _ _ _ p q ps qs h t => by
    by_cases e : p.1 = k
    · rw [look_pos e]
      have e' : q.1 = k := h.1.symm.trans e
      simp only [atKey, List.find?_cons, e', decide_true, Option.map_some]
      exact h.2.2
    · rw [look_neg e]
      have e' : ¬ q.1 = k := fun z => e (h.1.trans z)
      have : atKey (q :: qs) k = atKey qs k := by simp [atKey, List.find?_cons, e']
      rw [this]
      exact EZ.look k t
theorem EZ.any (k : NestedKey) {es : Es} {zs : List (NestedKey × Addr × Value)} (h : EZ es zs) : (es.any fun p => decide (p.1 = k)) = (atKey zs k).isSome := by
  rw [look_any]
  have := (EZ.look k h).isSome_eq
  simpa using this
theorem EZ.store {b : Addr} (k : NestedKey) (rv : RelV v uv) {es : Es} {zs : List (NestedKey × Addr × Value)} (h : EZ es zs) : EZ (eput es k (.ref b) v) (storedH zs k b uv) := by
  unfold eput Z.store storedH
  rw [h.any k]
  split
  · rename_i hany
    clear hany
    induction h with
    | nil => exact .nil
    | @cons p q ps qs r t ih =>
      rw [List.map_cons, List.map_cons]
      refine .cons ?_ ih
      by_cases e : p.1 = k
      · rw [if_pos e]
        have e' : q.1 = k := r.1.symm.trans e
        simp only [putAt, e', if_true]
        exact ⟨e, r.2.1, rv⟩
      · rw [if_neg e]
        have e' : ¬ q.1 = k := fun z => e (r.1.trans z)
        simp only [putAt, e', if_false]
        exact r
  · exact Paired.snoc h ⟨rfl, rfl, rv⟩
theorem ez_of {kvs : List (NestedKey × Addr × V)} {zs : List (NestedKey × Addr × Value)} (h : Paired (fun (p : NestedKey × Addr × V) (q : NestedKey × Addr × Value) => p.1 = q.1 ∧ p.2.1 = q.2.1 ∧ RelV p.2.2 q.2.2) kvs zs) : EZ (kvs.map fun p => (p.1, .ref p.2.1, p.2.2)) zs := by
  induction h with
  | nil => exact .nil
  | cons r t ih => exact .cons ⟨r.1, congrArg V.ref r.2.1, r.2.2⟩ ih
theorem of_ez : ∀ {es : Es} {zs : List (NestedKey × Addr × Value)}, EZ es zs → ∃ kvs : List (NestedKey × Addr × V), es = (kvs.map fun p => (p.1, .ref p.2.1, p.2.2)) ∧ Paired (fun (p : NestedKey × Addr × V) (q : NestedKey × Addr × Value) => p.1 = q.1 ∧ p.2.1 = q.2.1 ∧ RelV p.2.2 q.2.2) kvs zs
  | _, _, .nil => ⟨[], rfl, .nil⟩
  | _, _, @Paired.cons _ _ _ p q ps qs h t => by
    obtain ⟨kvs, e, r⟩ := of_ez t
    obtain ⟨k, y, v⟩ := p
    obtain ⟨h1, h2, h3⟩ := h
    have h2 : y = .ref q.2.1 := h2
    subst h2
    exact ⟨(k, q.2.1, v) :: kvs, by rw [List.map_cons, e], .cons ⟨h1, rfl, h3⟩ r⟩
/-- all keys are tuples: the model's own words -/
theorem entH {u : HO} (I : Inv X pins σ H s) (d : Rd H a u) (e : Ent X.prog X.w a u es) (h : (es.all fun p => isTup p.1) = true) (tk : Keys X H es) :
    ∃ zs, s.heap.DictOfH (nestedKind X.prog X.w) a zs ∧ EZ es zs ∧ (a == sysModules) = false ∧ es.length ≤ sizeLine := by
  cases e with
  | dK kvs =>
    obtain ⟨z, hd, vs, rel, dd⟩ := dk_rd I.hok d
    cases kvs with
    | cons p r =>
      rw [List.map_cons, List.all_cons, nk_tup] at h
      simp at h
    | nil =>
      cases rel
      obtain ⟨o, es, ep, h1, h2, h3, h4, h5, h6⟩ := dd
      have : es.toList = [] := by
        have := h5.length
        exact List.eq_nil_of_length_eq_zero this
      exact ⟨[], ⟨o, es, ep, h1, h2, h3, by simpa using this, (fun x hx => by cases hx), List.nodup_nil⟩, .nil, hd, Nat.zero_le _⟩
  | dN kvs h0 hk h8 =>
    obtain ⟨⟨z, hd, zs, rel, o, es, ep, h1, h2, h3, h4, h5⟩, _⟩ := (show ObjOk X.prog X.w H s.heap a (HoN X.prog X.w a kvs) from d.ok I.hok)
    refine ⟨zs, ⟨o, es, ep, h1, h2, h3, h4, ?_, h5⟩, ez_of rel, hd, by rw [List.length_map]; exact z⟩
    have all : ∀ {l : List (NestedKey × Addr × V)} {m : List (NestedKey × Addr × Value)}, (∀ p ∈ l, p ∈ kvs) → Paired (fun (p : NestedKey × Addr × V) (q : NestedKey × Addr × Value) => p.1 = q.1 ∧ p.2.1 = q.2.1 ∧ RelV p.2.2 q.2.2) l m → ∀ x ∈ m, (nestedKind X.prog X.w).is s.heap x.1 x.2.1 := by
      intro l m hl q
      induction q with
      | nil => intro x hx; cases hx
      | @cons p q ps qs hq t ih =>
        intro x hx
        rcases List.mem_cons.mp hx with rfl | hx
        · have mp : p ∈ kvs := hl p List.mem_cons_self
          have t1 := tk (p.1, .ref p.2.1, p.2.2) (List.mem_map.mpr ⟨p, mp, rfl⟩)
          have n1 := T.nested I p.1 t1 rfl
          exact ⟨by rw [← hq.1, ← hq.2.1]; exact n1, by rw [← hq.1]; exact h8 p mp⟩
        · exact ih (fun p m => hl p (List.mem_cons_of_mem _ m)) x hx
    exact all (fun _ m => m) rel
theorem room8 {A : Around} (hu : A.units + 64 < cLine) : (nestedKind X.prog X.w).room A.in1 := by show A.units + 1 + 8 < cLine; omega
theorem key_is (I : Inv X pins σ H s) {ks : List NestedKey} (t : TX X H y (NestedKey.tup ks).data) (h8 : (NestedKey.tup ks).depth ≤ 8) (r : RelV y uy) : ∃ b, y = .ref b ∧ uy = .ref b ∧ (nestedKind X.prog X.w).is s.heap (.tup ks) b := by
  have n := T.nested I _ t r
  obtain ⟨b, xs, rfl, _, _⟩ := t.tup_of
  cases r
  exact ⟨b, rfl, rfl, n, h8⟩
theorem ok_cases (h : okKey es k = true) : (∃ q, kK k = some q ∧ (es.all fun p => !isTup p.1) = true) ∨ ∃ ks, k = .tup ks ∧ (es.all fun p => isTup p.1) = true ∧ (NestedKey.tup ks).depth ≤ 8 := by
  unfold okKey at h
  cases k with
  | num i => exact .inl ⟨_, rfl, h⟩
  | text x => exact .inl ⟨_, rfl, h⟩
  | tup ks =>
    have h : ((es.all fun p => isTup p.1) && decide ((NestedKey.tup ks).depth ≤ 8)) = true := h
    rw [Bool.and_eq_true] at h
    exact .inr ⟨ks, rfl, h.1, of_decide_eq_true h.2⟩
  | none => cases h

/-! ### the operations by values -/
variable {A : Around} {E : Value → Shared → Prop}
theorem n_in {Q : Value → Shared → Prop} (hu : A.units + 64 < cLine) (I : Inv X pins σ H s) (d : DAt X H a es) (tk : Keys X H es) (t : TX X H y k.data) (ry : RelV y uy) (ok : okKey es k = true) (h : ∀ s', Inv X pins σ H s' → Q (.bool (look es k).isSome) s') :
    wpAny (model X.prog X.w) A (compareOp .In uy (.ref a)) Q E s := by
  obtain ⟨u, d, e⟩ := d
  rcases ok_cases ok with ⟨q, hq, al⟩ | ⟨ks, rfl, al, h8⟩
  · obtain ⟨kvs, rfl, rfl⟩ := ent_k e al
    have ey := key_v t hq
    subst ey
    refine d_in (by omega) I (.inl ⟨kvs, q, d, rfl, rfl⟩) ry fun s' I' => ?_
    have := h s' I'
    rwa [← kK_nk hq, ← Option.isSome_map, look_k] at this
  · obtain ⟨zs, dd, ez, hd, hz⟩ := entH I d e al tk
    obtain ⟨b, rfl, rfl, ki⟩ := key_is I t h8 ry
    refine wpAny_in_heap (room8 hu) ki hd dd ?_
    have e1 := (ez.look (.tup ks)).isSome_eq
    rw [Option.isSome_map, Option.isSome_map] at e1
    rw [← e1]
    exact h _ (I.tok _)
theorem n_notIn {Q : Value → Shared → Prop} (hu : A.units + 64 < cLine) (I : Inv X pins σ H s) (d : DAt X H a es) (tk : Keys X H es) (t : TX X H y k.data) (ry : RelV y uy) (ok : okKey es k = true) (h : ∀ s', Inv X pins σ H s' → Q (.bool (!(look es k).isSome)) s') :
    wpAny (model X.prog X.w) A (compareOp .NotIn uy (.ref a)) Q E s := by
  obtain ⟨u, d, e⟩ := d
  rcases ok_cases ok with ⟨q, hq, al⟩ | ⟨ks, rfl, al, h8⟩
  · obtain ⟨kvs, rfl, rfl⟩ := ent_k e al
    have ey := key_v t hq
    subst ey
    refine d_notIn (by omega) I (.inl ⟨kvs, q, d, rfl, rfl⟩) ry fun s' I' => ?_
    have := h s' I'
    rwa [← kK_nk hq, ← Option.isSome_map, look_k] at this
  · obtain ⟨zs, dd, ez, hd, hz⟩ := entH I d e al tk
    obtain ⟨b, rfl, rfl, ki⟩ := key_is I t h8 ry
    refine wpAny_notIn_heap (room8 hu) ki hd dd ?_
    have e1 := (ez.look (.tup ks)).isSome_eq
    rw [Option.isSome_map, Option.isSome_map] at e1
    rw [← e1]
    exact h _ (I.tok _)
theorem n_get {z : V × V} {Q : Value → Shared → Prop} (hu : A.units + 64 < cLine) (I : Inv X pins σ H s) (d : DAt X H a es) (tk : Keys X H es) (t : TX X H y k.data) (ry : RelV y uy) (ok : okKey es k = true) (l : look es k = some z) (h : ∀ w' s', Inv X pins σ H s' → RelV z.2 w' → Q w' s') :
    wpAny (model X.prog X.w) A (getItem (.ref a) uy) Q E s := by
  obtain ⟨u, d, e⟩ := d
  rcases ok_cases ok with ⟨q, hq, al⟩ | ⟨ks, rfl, al, h8⟩
  · obtain ⟨kvs, rfl, rfl⟩ := ent_k e al
    have ey := key_v t hq
    subst ey
    refine d_getItem (v := z.2) (by omega) I (.inl ⟨kvs, q, d, rfl, ?_⟩) ry h
    rw [← look_k, kK_nk hq, l]; rfl
  · obtain ⟨zs, dd, ez, hd, hz⟩ := entH I d e al tk
    obtain ⟨b, rfl, rfl, ki⟩ := key_is I t h8 ry
    have e1 := ez.look (.tup ks)
    rw [l] at e1
    obtain ⟨w', hw, rw'⟩ := RelO.some_of (v := z.2) e1
    obtain ⟨p, hp, hp2⟩ := Option.map_eq_some_iff.mp hw
    refine wpAny_getItem_heap (room8 hu) ki dd hp ?_
    rw [hp2]
    exact h w' _ (I.tok _) rw'
/-- the dict behind a store -/
theorem n_new {h' : Heap} {ks : List NestedKey} {b : Addr} {zs : List (NestedKey × Addr × Value)} {u : HO} {t' : Nat} (I : Inv X pins σ H s) (d : H a = some u) (e : Ent X.prog X.w a u es) (al : (es.all fun p => isTup p.1) = true) (h8 : (NestedKey.tup ks).depth ≤ 8) (ez : EZ es zs) (hd : (a == sysModules) = false) (hz : es.length < sizeLine) (rv : RelV v uv)
    (hm' : h'.DictOfH (nestedKind X.prog X.w) a (storedH zs (.tup ks) b uv)) (hs : Heap.SameBut a s.heap h') : ∃ u', Ent X.prog X.w a u' (eput es (.tup ks) (.ref b) v) ∧ Inv X pins σ (upd H a u') { s with heap := h', toks := t' } := by
  have ez' := ez.store (b := b) (.tup ks) rv
  obtain ⟨kvs, ek, rel⟩ := of_ez ez'
  obtain ⟨o, es2, ep, h1, h2, h3, h4, h5, h6⟩ := hm'
  have hl : (eput es (.tup ks) (.ref b) v).length ≤ sizeLine := by
    unfold eput store
    split
    · rw [List.length_map]; omega
    · rw [List.length_append]; exact hz
  have tup : ∀ p ∈ eput es (.tup ks) (.ref b) v, (∃ l, p.1 = .tup l) ∧ p.1.depth ≤ 8 := by
    have old : ∀ p ∈ es, (∃ l, p.1 = .tup l) ∧ p.1.depth ≤ 8 := by
      intro p hp
      have q := List.all_eq_true.mp al p hp
      cases e with
      | dK kvs =>
        obtain ⟨x, hx, rfl⟩ := List.mem_map.mp hp
        rw [nk_tup] at q
        cases q
      | dN kvs _ g1 g2 =>
        obtain ⟨x, hx, rfl⟩ := List.mem_map.mp hp
        exact ⟨g1 x hx, g2 x hx⟩
    intro p hp
    unfold eput store at hp
    split at hp
    · obtain ⟨x, hx, rfl⟩ := List.mem_map.mp hp
      by_cases z : x.1 = .tup ks
      · rw [if_pos z]; exact old x hx
      · rw [if_neg z]; exact old x hx
    · rcases List.mem_append.mp hp with hp | hp
      · exact old p hp
      · rw [List.mem_singleton.mp hp]; exact ⟨⟨ks, rfl⟩, h8⟩
  rw [ek] at tup hl
  have ne : kvs ≠ [] := by
    intro z
    rw [z] at ek
    have : (eput es (.tup ks) (.ref b) v).length = 0 := by rw [ek]; rfl
    unfold eput store at this
    split at this
    · rename_i hany
      rw [List.length_map] at this
      rw [List.eq_nil_of_length_eq_zero this] at hany
      cases hany
    · rw [List.length_append] at this
      simp at this
  refine ⟨HoN X.prog X.w a kvs, by rw [ek]; exact .dN kvs ne (fun p hp => (tup _ (List.mem_map.mpr ⟨p, hp, rfl⟩)).1) (fun p hp => (tup (p.1, .ref p.2.1, p.2.2) (List.mem_map.mpr ⟨p, hp, rfl⟩)).2), ?_⟩
  refine d_write I (by rw [d]; exact e.mut) hs ⟨o, h1⟩ ?_
  have phi : ∀ g : Heap, (∀ x, h'.get? a = some x → g.get? a = some x) → (fun h : Heap => kvs.length ≤ sizeLine ∧ (a == sysModules) = false ∧ ∃ zs : List (NestedKey × Addr × Value), Paired (fun (p : NestedKey × Addr × V) (q : NestedKey × Addr × Value) => p.1 = q.1 ∧ p.2.1 = q.2.1 ∧ RelV p.2.2 q.2.2) kvs zs ∧
      ∃ o es ep, h.get? a = some o ∧ o.ExactDict ∧ o.data = .dict es ep ∧ es.toList = zs.map (entryOfKey (nestedKind X.prog X.w)) ∧ (zs.map (·.1)).Nodup) g := fun g hg => ⟨by simpa using hl, hd, _, rel, o, es2, ep, hg o h1, h2, h3, h4, h6⟩
  refine ⟨phi h' fun _ q => q, ⟨o, h1⟩, ?_⟩
  rintro g1 g2 ⟨p1, p2, zs', p3, o', es', ep', q1, q2⟩ hg
  exact ⟨p1, p2, zs', p3, o', es', ep', hg o' q1, q2⟩
theorem n_set {u : HO} {Q : Unit → Shared → Prop} (hu : A.units + 64 < cLine) (I : Inv X pins σ H s) (d : H a = some u) (e : Ent X.prog X.w a u es) (tk : Keys X H es) (t : TX X H y k.data) (ry : RelV y uy) (rv : RelV v uv) (ok : okKey es k = true) (hz : es.length < sizeLine)
    (h : ∀ u' s', Ent X.prog X.w a u' (eput es k y v) → Inv X pins σ (upd H a u') s' → Q () s') : wpAny (model X.prog X.w) A (setItem (.ref a) uy uv) Q E s := by
  rcases ok_cases ok with ⟨q, hq, al⟩ | ⟨ks, rfl, al, h8⟩
  · obtain ⟨kvs, rfl, rfl⟩ := ent_k e al
    have ey := key_v t hq
    subst ey
    rw [List.length_map] at hz
    refine d_setItem (by omega) I (DPut.k d hz) ry rv fun s' I' => h (.dK (putK kvs q v)) s' ?_ I'
    rw [← kK_nk hq, eput_k]
    exact .dK _
  · obtain ⟨zs, dd, ez, hd, hz'⟩ := entH I (.inl d) e al tk
    obtain ⟨b, rfl, rfl, ki⟩ := key_is I t h8 ry
    have hzz : zs.length ≤ sizeLine := by rw [← Paired.length ez]; exact hz'
    refine wpAny_setItem_heap (hsz := hzz) (room8 hu) ki dd fun h' hm' hs => ?_
    obtain ⟨u', e', I'⟩ := n_new (t' := s.toks + _) I d e al h8 ez hd hz rv hm' hs
    exact h u' _ e' I'
/-- d.setdefault(k, x) -/
theorem n_setd {u : HO} {Q : Value → Shared → Prop} (hu : A.units + 64 < cLine) (I : Inv X pins σ H s) (d : H a = some u) (e : Ent X.prog X.w a u es) (tk : Keys X H es) (t : TX X H y k.data) (ry : RelV y uy) (rv : RelV v uv) (ok : okKey es k = true) (hz : es.length < sizeLine) {ks : List NestedKey} (hk : k = .tup ks)
    (h1 : ∀ z w' s', look es k = some z → Inv X pins σ H s' → RelV z.2 w' → Q w' s') (h2 : ∀ u' s', look es k = none → Ent X.prog X.w a u' (eput es k y v) → Inv X pins σ (upd H a u') s' → Q uv s') : wpAny (model X.prog X.w) A (call (.builtin "dict.setdefault") [.ref a, uy, uv]) Q E s := by
  subst hk
  rcases ok_cases ok with ⟨q, hq, al⟩ | ⟨ks', hk', al, h8⟩
  · cases hq
  · cases hk'
    obtain ⟨zs, dd, ez, hd, hz'⟩ := entH I (.inl d) e al tk
    obtain ⟨b, rfl, rfl, ki⟩ := key_is I t h8 ry
    have hzz : zs.length ≤ sizeLine := by rw [← Paired.length ez]; exact hz'
    have el := ez.look (.tup ks)
    refine call_setdefault_heap (hsz := hzz) (room8 hu) ki hd dd (fun p hp => ?_) fun hn h' hm' hs => ?_
    · rw [hp] at el
      cases q : look es (.tup ks) with
      | none => rw [q] at el; cases el
      | some z => rw [q] at el; exact h1 z p.2 _ q (I.tok _) el
    · rw [hn] at el
      cases q : look es (.tup ks) with
      | some z => rw [q] at el; cases el
      | none =>
        obtain ⟨u', e', I'⟩ := n_new (t' := s.toks + _) I d e al h8 ez hd hz rv hm' hs
        exact h2 u' _ q e' I'
end
end Z
set_option Elab.async false
set_option linter.all false
set_option maxRecDepth 100000
set_option maxHeartbeats 1000000
/-! Z8: keys as data, children of trees, subscripts of any container. -/
namespace Z
open PySem PySem.Spec PyProof.Rows L2

/-! ### keys -/
mutual
def nkD : PyData → Option NestedKey
  | .none => some .none
  | .int i => some (.num i)
  | .str x => some (.text x)
  | .tuple ds => (nkDs ds).map .tup
  | _ => Option.none
def nkDs : List PyData → Option (List NestedKey)
  | [] => some []
  | d :: ds => (nkD d).bind fun k => (nkDs ds).map fun ks => k :: ks
end
mutual
theorem nkD_ok : ∀ {d : PyData} {k : NestedKey}, nkD d = some k → k.data = d
  | .none, _, h => by simp only [nkD] at h; cases h; rfl
  | .int i, _, h => by simp only [nkD] at h; cases h; rfl
  | .str x, _, h => by simp only [nkD] at h; cases h; rfl
  | .tuple ds, _, h => by
    simp only [nkD] at h
    cases e : nkDs ds with
    | none => rw [e] at h; cases h
    | some ks =>
      rw [e] at h
      cases h
      simp only [NestedKey.data, nkDs_ok e]
  | .bool _, _, h => by simp only [nkD] at h; cases h
  | .list _, _, h => by simp only [nkD] at h; cases h
  | .dict _, _, h => by simp only [nkD] at h; cases h
theorem nkDs_ok : ∀ {ds : List PyData} {ks : List NestedKey}, nkDs ds = some ks → NestedKey.datas ks = ds
  | [], _, h => by simp only [nkDs] at h; cases h; rfl
  | d :: ds, _, h => by
    simp only [nkDs] at h
    cases e : nkD d with
    | none => rw [e] at h; cases h
    | some k =>
      simp only [e, Option.bind_some] at h
      cases e2 : nkDs ds with
      | none => rw [e2] at h; cases h
      | some ks =>
        rw [e2] at h
        cases h
        simp only [NestedKey.datas, nkD_ok e, nkDs_ok e2]
end
mutual
theorem nkD_data : ∀ k : NestedKey, nkD k.data = some k
  | .none => rfl
  | .num _ => rfl
  | .text _ => rfl
  | .tup ks => by simp only [NestedKey.data, nkD, nkDs_data ks, Option.map_some]
theorem nkDs_data : ∀ ks : List NestedKey, nkDs (NestedKey.datas ks) = some ks
  | [] => rfl
  | k :: ks => by simp only [NestedKey.datas, nkDs, nkD_data k, nkDs_data ks, Option.bind_some, Option.map_some]
end
theorem data_inj {j k : NestedKey} (h : j.data = k.data) : j = k := by
  have := nkD_data j
  rw [h, nkD_data k] at this
  exact (Option.some.inj this).symm
/-- a lasting dict's entries -/
def thawK : List (PyData × PyData) → Option (List (NestedKey × O))
  | [] => some []
  | p :: r => (nkD p.1).bind fun k => (thawK r).map fun r' => (k, .dat p.2) :: r'
/-- a dict's entries -/
def asD : O → Option (List (NestedKey × O))
  | .dct kvs => some kvs
  | .dat (.dict ds) => thawK ds
  | _ => none
def dget (kvs : List (NestedKey × O)) (d : PyData) : Option O := (nkD d).bind fun k => if okKey kvs k = true then look kvs k else none
/-- the value replaced at the first of the keys k -/
def putF {α : Type} (k : NestedKey) (o : α) : List (NestedKey × α) → List (NestedKey × α)
  | [] => []
  | p :: r => if p.1 = k then (p.1, o) :: r else p :: putF k o r
theorem putF_self {α : Type} {k : NestedKey} {o : α} : ∀ {es : List (NestedKey × α)}, look es k = some o → putF k o es = es
  | [], h => by cases h
  | p :: r, h => by
    by_cases e : p.1 = k
    · rw [look_pos e] at h
      cases h
      simp [putF, e]
      rw [← e]
    · rw [look_neg e] at h
      simp only [putF, e, if_false]
      rw [putF_self h]

section
variable {P : Program} {w : World} {K : PySem.W.Frag} {H H' : Hp}
theorem Tk.thaw : ∀ {es : Es} {ds : List (PyData × PyData)} {kvs : List (NestedKey × O)}, Tk P w K H es ds → thawK ds = some kvs → ROk P w K H es kvs []
  | _, _, _, .nil, h => by cases h; exact .nil
  | _, _, _, @Tk.cons _ _ _ _ k kv v d es ds a b t, h => by
    simp only [thawK, nkD_data, Option.bind_some] at h
    cases e : thawK ds with
    | none => rw [e] at h; cases h
    | some r =>
      rw [e] at h
      cases h
      exact .cons a (.dat b) (Tk.thaw t e)
theorem ROk.names : ∀ {es : Es} {kvs : List (NestedKey × O)} {F : List Addr}, ROk P w K H es kvs F → es.map (·.1) = kvs.map (·.1)
  | _, _, _, .nil => rfl
  | _, _, _, .cons _ _ t => congrArg (_ :: ·) (ROk.names t)
theorem okKey_map {α : Type} (es : List (NestedKey × α)) (k : NestedKey) : okKey es k = okKey ((es.map (·.1)).map fun k => (k, ())) k := by
  have h1 : ∀ f : NestedKey → Bool, (es.all fun p => f p.1) = (((es.map (·.1)).map fun k => (k, ())).all fun p => f p.1) := fun f => by simp [List.all_map, Function.comp_def]
  unfold okKey
  cases k with
  | num _ => exact h1 fun k => !isTup k
  | text _ => exact h1 fun k => !isTup k
  | tup ks => exact congrArg (· && _) (h1 isTup)
  | none => rfl
theorem ROk.okKey {es : Es} {kvs : List (NestedKey × O)} {F : List Addr} (r : ROk P w K H es kvs F) (k : NestedKey) : Z.okKey es k = Z.okKey kvs k := by
  rw [okKey_map es, okKey_map kvs, r.names]
theorem ROk.keys : ∀ {es : Es} {kvs : List (NestedKey × O)} {F : List Addr}, ROk P w K H es kvs F → ∀ p ∈ es, T P w K H p.2.1 p.1.data
  | _, _, _, .nil, p, m => by cases m
  | _, _, _, .cons a _ t, p, m => by
    rcases List.mem_cons.mp m with rfl | m
    · exact a
    · exact ROk.keys t p m
theorem ROk.lookN : ∀ {es : Es} {kvs : List (NestedKey × O)} {F : List Addr} {k : NestedKey}, ROk P w K H es kvs F → (look es k).isSome = (look kvs k).isSome
  | _, _, _, _, .nil => rfl
  | _, _, _, k, @ROk.cons _ _ _ _ q kv v o es kvs F G a b t => by
    by_cases e : q = k
    · rw [look_pos (p := (q, kv, v)) e, look_pos (p := (q, o)) e]; rfl
    · rw [look_neg (p := (q, kv, v)) e, look_neg (p := (q, o)) e]; exact ROk.lookN t
theorem ROk.length : ∀ {es : Es} {kvs : List (NestedKey × O)} {F : List Addr}, ROk P w K H es kvs F → es.length = kvs.length
  | _, _, _, .nil => rfl
  | _, _, _, .cons _ _ t => congrArg (· + 1) (ROk.length t)
theorem perm_in {A B C D : List Addr} (h : B.Perm (C ++ D)) : (A ++ B).Perm (C ++ (A ++ D)) := by
  refine (h.append_left A).trans ?_
  rw [← List.append_assoc, ← List.append_assoc]
  exact List.perm_append_comm.append_right D
/-- a dict's value in the hand -/
theorem ROk.get : ∀ {es : Es} {kvs : List (NestedKey × O)} {F : List Addr} {k : NestedKey} {c : O}, ROk P w K H es kvs F → look kvs k = some c → ∃ kv z Fo R, look es k = some (kv, z) ∧ RO P w K H z c Fo ∧ F.Perm (Fo ++ R) ∧
    ∀ {H' : Hp} {z' : V} {c' : O} {F' : List Addr}, Grow H H' → (∀ a ∈ R, H' a = H a) → RO P w K H' z' c' F' → ∃ F2, ROk P w K H' (putF k (kv, z') es) (putF k c' kvs) F2 ∧ F2.Perm (F' ++ R)
  | _, _, _, _, _, .nil, h => by cases h
  | _, _, _, k, c, @ROk.cons _ _ _ _ q kv v o es kvs F G a b t, h => by
    by_cases e : q = k
    · rw [look_pos (p := (q, o)) e] at h
      cases h
      refine ⟨kv, v, F, G, look_pos (p := (q, kv, v)) e, b, List.Perm.refl _, fun g kp r => ⟨_, ?_, List.Perm.refl _⟩⟩
      simp only [putF, e, if_true]
      subst e
      exact .cons (a.grow g) r (t.keep g kp)
    · rw [look_neg (p := (q, o)) e] at h
      obtain ⟨kv', z, Fo, R, h1, h2, h3, h4⟩ := ROk.get t h
      refine ⟨kv', z, Fo, F ++ R, by rw [look_neg (p := (q, kv, v)) e]; exact h1, h2, perm_in h3, fun g kp r => ?_⟩
      obtain ⟨F2, r2, p2⟩ := h4 g (fun x m => kp x (List.mem_append_right _ m)) r
      simp only [putF, e, if_false]
      exact ⟨F ++ F2, .cons (a.grow g) (b.keep g fun x m => kp x (List.mem_append_left _ m)) r2, perm_in p2⟩
/-- a list's item in the hand -/
theorem ROs.at : ∀ {vs : List V} {os : List O} {F : List Addr} {j : Nat} {c : O}, ROs P w K H vs os F → os[j]? = some c → ∃ z Fo R, vs[j]? = some z ∧ RO P w K H z c Fo ∧ F.Perm (Fo ++ R) ∧
    ∀ {H' : Hp} {z' : V} {c' : O} {F' : List Addr}, Grow H H' → (∀ a ∈ R, H' a = H a) → RO P w K H' z' c' F' → ∃ F2, ROs P w K H' (vs.set j z') (os.set j c') F2 ∧ F2.Perm (F' ++ R)
  | _, _, _, _, _, .nil, h => by simp at h
  | _, _, _, 0, c, @ROs.cons _ _ _ _ v o vs os F G b t, h => by
    have h : _ = _ := Option.some.inj h
    subst h
    exact ⟨v, F, G, rfl, b, List.Perm.refl _, fun g kp r => ⟨_, .cons r (t.keep g kp), List.Perm.refl _⟩⟩
  | _, _, _, j + 1, c, @ROs.cons _ _ _ _ v o vs os F G b t, h => by
    obtain ⟨z, Fo, R, h1, h2, h3, h4⟩ := ROs.at (j := j) t (by simpa using h)
    refine ⟨z, Fo, F ++ R, by simpa using h1, h2, perm_in h3, fun g kp r => ?_⟩
    obtain ⟨F2, r2, p2⟩ := h4 g (fun x m => kp x (List.mem_append_right _ m)) r
    exact ⟨F ++ F2, .cons (b.keep g fun x m => kp x (List.mem_append_left _ m)) r2, perm_in p2⟩
end

/-! ### a child of a container -/
/-- an own container's child -/
def at1 : O → PyData → Option O
  | .lst os, .int i => atI os i
  | .dct kvs, d => dget kvs d
  | _, _ => none
def put1 : O → PyData → O → O
  | .lst os, .int i, o => match ixN os.length i with
    | some j => .lst (os.set j o)
    | none => .lst os
  | .dct kvs, d, o => match nkD d with
    | some k => .dct (putF k o kvs)
    | none => .dct kvs
  | t, _, _ => t
/-- x[k] of any container -/
def ixA (o : O) (d : PyData) : Option O := match o with
  | .lst os => at1 (.lst os) d
  | .dct kvs => dget kvs d
  | .dat (.dict ds) => (thawK ds).bind fun kvs => dget kvs d
  | .dat e => (ixD e d).map .dat
section
variable {X : Cx} {H : Hp}
def rIxDc (X : Cx) : R2 := fun x y H Q => ∃ a es k z, x = .ref a ∧ DAt X H a es ∧ Keys X H es ∧ TX X H y (NestedKey.data k) ∧ okKey es k = true ∧ look es k = some z ∧ Q z.2 H
theorem dat_type {pins : List (Addr × Obj)} {σ : L2.St} {s : Shared} {a : Addr} {es : Es} (I : Inv X pins σ H s) (d : DAt X H a es) : s.TypeIs (.ref a) "dict" ∧ ∀ b, Value.ref a = .ref b → ∃ ob, s.heap.get? b = some ob ∧ ob.dict = none := by
  obtain ⟨u, d, e⟩ := d
  have z : ∃ o, s.heap.get? a = some o ∧ o.ExactDict := by
    cases e with
    | dK kvs =>
      obtain ⟨_, _, _, _, o, _, _, e, ex, _⟩ := dk_rd I.hok d
      exact ⟨o, e, ex⟩
    | dN kvs _ _ _ =>
      obtain ⟨⟨_, _, _, _, o, _, _, e, ex, _⟩, _⟩ := (show ObjOk X.prog X.w H s.heap a (HoN X.prog X.w a kvs) from d.ok I.hok)
      exact ⟨o, e, ex⟩
  obtain ⟨o, e, ex⟩ := z
  refine ⟨⟨o, e, ex.1⟩, fun b e2 => ?_⟩
  cases e2
  exact ⟨o, e, ex.2.1⟩
theorem ix_dct (hu : X.A.units + 64 < cLine) : IxR X (rIxDc X) := by
  intro value slice pins s σ H x y v u Q I rx ry h hs
  obtain ⟨a, es, k, z, rfl, d, tk, t, ok, l, q⟩ := h
  cases rx
  exact tail_any (dat_type I d).1 PySem.F.slot_dict_getitem.lookup (n_get hu I d tk t ry ok l fun w' s3 I3 rw' => ⟨z.2, H, I3, rw', q⟩) hs
def rIxA (X : Cx) : R2 := fun x y H Q => rIx X.K x y H Q ∨ rIxDc X x y H Q
theorem ix_any (hu : X.A.units + 64 < cLine) : IxR X (rIxA X) := ix_seq.or (ix_dct hu)
/-- a dict read -/
theorem asD_at {v : V} {o : O} {G : List Addr} {kvs : List (NestedKey × O)} (r : RX X H v o G) (h : asD o = some kvs) : ∃ a es G', v = .ref a ∧ DAt X H a es ∧ ROk X.prog X.w X.K H es kvs G' ∧ (∀ x ∈ G', x ∈ G) ∧ (G.Nodup → G'.Nodup) := by
  cases r with
  | dct h1 e t =>
    cases h
    exact ⟨_, _, _, rfl, ⟨_, .inl h1, e⟩, t, fun x m => List.mem_cons_of_mem _ m, fun n => (List.nodup_cons.mp n).2⟩
  | lst _ _ => cases h
  | dat t =>
    cases t with
    | dct h1 e t => exact ⟨_, _, [], rfl, ⟨_, .inr ⟨_, h1⟩, e⟩, t.thaw h, (fun x m => by cases m), fun _ => List.nodup_nil⟩
    | _ => cases h
theorem dget_some {kvs : List (NestedKey × O)} {d : PyData} {r : O} (h : dget kvs d = some r) : ∃ k, nkD d = some k ∧ k.data = d ∧ okKey kvs k = true ∧ look kvs k = some r := by
  unfold dget at h
  cases e : nkD d with
  | none => rw [e] at h; cases h
  | some k =>
    simp only [e, Option.bind_some] at h
    split at h
    · rename_i z; exact ⟨k, rfl, nkD_ok e, z, h⟩
    · cases h
theorem dget_ok {v y : V} {o r : O} {k : PyData} {G : List Addr} {kvs : List (NestedKey × O)} {Q : VK} (t : RX X H v o G) (tk : TX X H y k) (ha : asD o = some kvs) (h : dget kvs k = some r) (q : ∀ z Go, RX X H z r Go → (∀ a ∈ Go, a ∈ G) → (G.Nodup → Go.Nodup) → Q z H) : rIxDc X v y H Q := by
  obtain ⟨a, es, G', rfl, d, rk, sub, nd⟩ := asD_at t ha
  obtain ⟨k', e1, e2, e3, e4⟩ := dget_some h
  obtain ⟨kv, z, Fo, R, h1, h2, h3, _⟩ := rk.get e4
  exact ⟨a, es, k', (kv, z), rfl, d, rk.keys, by rw [e2]; exact tk, by rw [rk.okKey]; exact e3, h1, q z Fo h2 (fun x m => sub x (h3.mem_iff.mpr (List.mem_append_left _ m))) fun n => (nd_app.mp (h3.nodup_iff.mp (nd n))).1⟩
theorem ixA_ok {v y : V} {o r : O} {k : PyData} {G : List Addr} {Q : VK} (t : RX X H v o G) (tk : TX X H y k) (h : ixA o k = some r) (q : ∀ z Go, RX X H z r Go → (∀ a ∈ Go, a ∈ G) → (G.Nodup → Go.Nodup) → Q z H) : rIxA X v y H Q := by
  unfold ixA at h
  split at h
  · rename_i os
    cases t with
    | lst hl ts =>
      cases k with
      | int i =>
        cases tk
        have h : atI os i = some r := h
        obtain ⟨j, h1, h2⟩ := atI_same ts.length h
        obtain ⟨z, Fo, R, h3, h4, h5, _⟩ := ts.at h1
        exact .inl (.inl ⟨_, _, _, z, rfl, rfl, SqL.of hl, h2.trans h3, q z Fo h4 (fun x m => List.mem_cons_of_mem _ (h5.mem_iff.mpr (List.mem_append_left _ m))) fun n => (nd_app.mp (h5.nodup_iff.mp (List.nodup_cons.mp n).2)).1⟩)
      | _ => cases h
  · exact .inr (dget_ok t tk rfl h q)
  · rename_i ds
    cases e : thawK ds with
    | none => rw [e] at h; cases h
    | some kvs =>
      simp only [e, Option.bind_some] at h
      exact .inr (dget_ok (o := .dat (.dict ds)) t tk e h q)
  · rename_i e _
    obtain ⟨rfl, t'⟩ := RO.flat t
    cases e2 : ixD e k with
    | none => rw [e2] at h; cases h
    | some z =>
      rw [e2] at h
      cases h
      exact .inl (ixD_ok t' tk e2 fun x hx => q x [] (.dat hx) (fun _ m => m) id)
theorem atI_at {α : Type} {os : List α} {i : Int} {c : α} (h : atI os i = some c) : ∃ j, ixN os.length i = some j ∧ os[j]? = some c := by
  unfold atI at h
  cases q : ixN os.length i with
  | none => rw [q] at h; cases h
  | some j => rw [q] at h; exact ⟨j, rfl, h⟩
theorem atI_of {α : Type} {xs : List α} {i : Int} {j : Nat} (h : ixN xs.length i = some j) : atI xs i = xs[j]? := by
  unfold atI; rw [h]; rfl
/-- a list's item -/
theorem RO.item {v : V} {os : List O} {c : O} {F : List Addr} {i : Int} {j : Nat} (r : RX X H v (.lst os) F) (h1 : ixN os.length i = some j) (h2 : os[j]? = some c) : ∃ a xs z Fo R, v = .ref a ∧ H a = some (.lst xs) ∧ xs.length = os.length ∧ xs[j]? = some z ∧ RX X H z c Fo ∧ F.Perm (Fo ++ R) ∧ a ∈ R ∧
    (∀ {H' : Hp} {c' : O} {z' : V} {F' : List Addr}, Grow H H' → (∀ x ∈ R, x ≠ a → H' x = H x) → H' a = some (.lst (xs.set j z')) → F.Nodup → RX X H' z' c' F' → ∃ F2, RX X H' v (.lst (os.set j c')) F2 ∧ F2.Perm (F' ++ R)) := by
  cases r with
  | @lst a xs os F hl ts =>
    obtain ⟨z, Fo, R, h3, h4, h5, h6⟩ := ts.at h2
    refine ⟨a, xs, z, Fo, a :: R, rfl, hl, ts.length, h3, h4, ?_, List.mem_cons_self, fun {H' c' z' F'} g kp ha nd q => ?_⟩
    · exact (List.Perm.cons a h5).trans (List.perm_middle.symm)
    · rw [List.nodup_cons] at nd
      obtain ⟨F2, r2, p2⟩ := h6 g (fun x m => kp x (List.mem_cons_of_mem _ m) fun e => nd.1 (e ▸ h5.mem_iff.mpr (List.mem_append_right _ m))) q
      exact ⟨a :: F2, .lst ha r2, (List.Perm.cons a p2).trans List.perm_middle.symm⟩
/-- a dict's value -/
theorem RO.entry {v : V} {kvs : List (NestedKey × O)} {c : O} {F : List Addr} {k : NestedKey} (r : RX X H v (.dct kvs) F) (h : look kvs k = some c) : ∃ a u es kv z Fo R G, v = .ref a ∧ H a = some u ∧ Ent X.prog X.w a u es ∧ ROk X.prog X.w X.K H es kvs G ∧ F = a :: G ∧ look es k = some (kv, z) ∧ RX X H z c Fo ∧ F.Perm (Fo ++ R) ∧ a ∈ R ∧
    (∀ {H' : Hp} {c' : O} {z' : V} {F' : List Addr} {u' : HO}, Grow H H' → (∀ x ∈ R, x ≠ a → H' x = H x) → H' a = some u' → Ent X.prog X.w a u' (putF k (kv, z') es) → F.Nodup → RX X H' z' c' F' → ∃ F2, RX X H' v (.dct (putF k c' kvs)) F2 ∧ F2.Perm (F' ++ R)) := by
  cases r with
  | @dct a u es kvs F hl e ts =>
    obtain ⟨kv, z, Fo, R, h3, h4, h5, h6⟩ := ts.get h
    refine ⟨a, u, es, kv, z, Fo, a :: R, F, rfl, hl, e, ts, rfl, h3, h4, ?_, List.mem_cons_self, fun {H' c' z' F' u'} g kp ha e' nd q => ?_⟩
    · exact (List.Perm.cons a h5).trans (List.perm_middle.symm)
    · rw [List.nodup_cons] at nd
      obtain ⟨F2, r2, p2⟩ := h6 g (fun x m => kp x (List.mem_cons_of_mem _ m) fun e => nd.1 (e ▸ h5.mem_iff.mpr (List.mem_append_right _ m))) q
      exact ⟨a :: F2, .dct ha e' r2, (List.Perm.cons a p2).trans List.perm_middle.symm⟩
/-- the child in the hand -/
theorem RO.child {v : V} {t c : O} {F : List Addr} {k : PyData} (r : RX X H v t F) (nd : F.Nodup) (h : at1 t k = some c) : ∃ z Fo R, RX X H z c Fo ∧ F.Perm (Fo ++ R) ∧ (∀ H' y Q, Grow H H' → (∀ a ∈ R, H' a = H a) → RX X H' z c Fo → TX X H' y k → Q z H' → rIxA X v y H' Q) ∧
    ∀ {H' : Hp} {c' : O} {F' : List Addr}, Grow H H' → (∀ a ∈ R, H' a = H a) → RX X H' z c' F' → ∃ F2, RX X H' v (put1 t k c') F2 ∧ F2.Perm (F' ++ R) := by
  cases t with
  | dat _ => cases h
  | lst os =>
    cases k with
    | int i =>
      obtain ⟨j, h1, h2⟩ := atI_at (show atI os i = some c from h)
      obtain ⟨a, xs, z, Fo, R, rfl, b1, b2, b3, b4, b5, b6, b7⟩ := r.item h1 h2
      have hx : atI xs i = some z := by rw [atI_of (j := j) (by rw [b2]; exact h1), b3]
      refine ⟨z, Fo, R, b4, b5, fun H' y Q g kp _ ty q => ?_, fun {H' c' F'} g kp q => ?_⟩
      · cases ty
        exact .inl (.inl ⟨a, xs, i, z, rfl, rfl, SqL.of ((kp a b6).trans b1), hx, q⟩)
      · simp only [put1, h1]
        refine b7 g (fun x m _ => kp x m) ?_ nd q
        rw [kp a b6, b1]
        congr 2
        apply List.ext_getElem?
        intro n
        by_cases e : j = n
        · subst e
          rw [List.getElem?_set_self (List.getElem?_eq_some_iff.mp b3).1, b3]
        · rw [List.getElem?_set_ne e]
    | _ => cases h
  | dct kvs =>
    obtain ⟨k', e1, e2, e3, e4⟩ := dget_some (show dget kvs k = some c from h)
    obtain ⟨a, u, es, kv, z, Fo, R, G, rfl, b1, b2, b3, b4, b5, b6, b7, b8, b9⟩ := r.entry e4
    refine ⟨z, Fo, R, b6, b7, fun H' y Q g kp rz ty q => ?_, fun {H' c' F'} g kp q => ?_⟩
    · refine .inr ⟨a, es, k', (kv, z), rfl, ⟨u, .inl ((kp a b8).trans b1), b2⟩, fun p m => (b3.keys p m).grow g, by rw [e2]; exact ty, by rw [b3.okKey]; exact e3, b5, q⟩
    · simp only [put1, e1]
      refine b9 g (fun x m _ => kp x m) ((kp a b8).trans b1) ?_ nd q
      rw [putF_self b5]
      exact b2
end

/-! ### subscripts -/
section
variable {X : Cx} {pos : Pos} {a b e : Expr} {ma mb m : M O} {pv : Pv} {σ : L2.St} {H : Hp} {ev e1 e2 : Ev} {F : List Addr} {o1 o2 : O}
def mGet (ma mb : M O) : M O := mOp (fun d k => ixA (.dat d) k) ma mb
theorem zGet (hu : X.A.units + 64 < cLine) (ha : PE X a (tM X ma)) (hb : PE X b (tM X mb)) (hs : PlainIx b := by exact fun _ _ => rfl) : PE X (.Subscript a b pos) (tM X (mGet ma mb)) := PEimp (pe_ix (ix_any hu) (PEfz ha) (PEfz hb) hs) fun σ H Q h => by
  obtain ⟨pv, ev, F, o, ev', r, nd, hm, q⟩ := h
  obtain ⟨o1, e1, o2, h1, h2, h3⟩ := mOp_some hm
  refine two h1 h2 r nd fun x y H2 F2 r2 n2 s2 t1 t2 => ?_
  refine ixA_ok (.dat t1) t2 h3 fun z Go rz sub nz => ?_
  have : Go = [] := List.eq_nil_iff_forall_not_mem.mpr fun x m => by cases sub x m
  subst this
  exact fin_new (A := []) r2 (by simpa using n2) (by simpa using s2) q _ _ [] rz List.nodup_nil ((Stp.refl _ _).sub fun _ m => m)
/-- x[e]: x's own container read -/
def mGetN (i : Nat) (mb : M O) : M O := fun ev => (ev[i]?.bind Sl.see).bind fun _ => (mb ev).bind fun p => (p.2[i]?.bind Sl.see).bind fun o => (ixA o p.1.data).bind fun r => match r with
  | .dat d => some (.dat d, p.2)
  | _ => none
theorem mGetN_some {i : Nat} {r : O} {ev' : Ev} (h : mGetN i mb ev = some (r, ev')) : ∃ o0 k o d, ev[i]?.bind Sl.see = some o0 ∧ mb ev = some (k, ev') ∧ ev'[i]?.bind Sl.see = some o ∧ ixA o k.data = some (.dat d) ∧ r = .dat d := by
  unfold mGetN at h
  cases q0 : ev[i]?.bind Sl.see with
  | none => rw [q0] at h; cases h
  | some o0 =>
    simp only [q0, Option.bind_some] at h
    cases q : mb ev with
    | none => rw [q] at h; cases h
    | some p =>
      simp only [q, Option.bind_some] at h
      cases q2 : p.2[i]?.bind Sl.see with
      | none => rw [q2] at h; cases h
      | some o =>
        simp only [q2, Option.bind_some] at h
        cases q3 : ixA o p.1.data with
        | none => rw [q3] at h; cases h
        | some z =>
          simp only [q3, Option.bind_some] at h
          split at h
          · cases h; exact ⟨o0, p.1, o, _, rfl, rfl, q2, q3, rfl⟩
          · cases h
theorem zGetN {x : Str} {px : Pos} (i : Nat) (hu : X.A.units + 64 < cLine) (hb : PE X b (tM X mb)) (hN : X.N[i]? = some x := by rfl) (hv : Vis X.env.scope x := by first | exact Or.inl rfl | exact Or.inr (Or.inl rfl) | exact Or.inr (Or.inr rfl)) (hs : PlainIx b := by exact fun _ _ => rfl)
    (hd : (x == ("__debug__" : Str)) = false := by decide) (hcd : (x == ("__classdict__" : Str)) = false := by decide) : PE X (.Subscript (.Name x px) b pos) (tM X (mGetN i mb)) := PEimp (pe_ix (ix_any hu) (pe_var hN hv hd hcd) (PEfz hb) hs) fun σ H Q h => by
  obtain ⟨pv, ev, F, o, ev', r, nd, hm, q⟩ := h
  obtain ⟨o0, k, oi, d, h0, h1, h2, h3, rfl⟩ := mGetN_some hm
  obtain ⟨v, _, hv', _⟩ := r.peek nd h0
  refine ⟨v, hv', one h1 r nd fun y H1 F1 r1 n1 s1 t1 => ?_⟩
  obtain ⟨v2, Fo, hv2, ro, _⟩ := r1.peek n1 h2
  rw [hv'] at hv2
  cases hv2
  exact ixA_ok ro t1 h3 fun z Go rz _ _ => (fin_new (A := []) r1 (by simpa using n1) (by simpa using s1) q).dat rz.flat.2

/-! ### readings that change nothing -/
def tQ (X : Cx) (q : Ev → Option O) : TE := fun σ H Q => ∃ pv ev F o, Rp X H pv σ ev F ∧ F.Nodup ∧ q ev = some o ∧ ∀ v G, RX X H v o G → G.Nodup → (∀ a ∈ G, a ∈ F ∨ a ∈ pv.W) → Q v H
variable {qa qb q : Ev → Option O}
def qN (i : Nat) : Ev → Option O := fun ev => ev[i]?.bind Sl.see
def qC (d : PyData) : Ev → Option O := fun _ => some (.dat d)
theorem zqN {x : Str} (i : Nat) (hN : X.N[i]? = some x := by rfl) (hv : Vis X.env.scope x := by first | exact Or.inl rfl | exact Or.inr (Or.inl rfl) | exact Or.inr (Or.inr rfl)) (hd : (x == ("__debug__" : Str)) = false := by decide)
    (hcd : (x == ("__classdict__" : Str)) = false := by decide) : PE X (.Name x pos) (tQ X (qN i)) := PEimp (pe_var hN hv hd hcd) fun σ H Q h => by
  obtain ⟨pv, ev, F, o, r, nd, hm, q⟩ := h
  obtain ⟨v, Fo, h1, h2, h3, h4⟩ := r.peek nd hm
  exact ⟨v, h1, q v Fo h2 h3 h4⟩
theorem tQ_const {d : PyData} {v : V} (t : ∀ H, TX X H v d) {Q : VK} (h : tQ X (qC d) σ H Q) : tC v σ H Q := by
  obtain ⟨pv, ev, F, o, r, nd, hm, q⟩ := h
  cases hm
  exact q v [] (.dat (t H)) List.nodup_nil fun _ m => by cases m
theorem zqInt {i : Int} {j : Nat} : PE X (.Constant (.int i) j pos) (tQ X (qC (.int i))) := PEimp pe_int fun σ H Q h => tQ_const (fun _ => .int i) h
theorem zqStr {x : Str} {j : Nat} : PE X (.Constant (.str x) j pos) (tQ X (qC (.str x))) := PEimp pe_str fun σ H Q h => tQ_const (fun _ => .str x) h
theorem zqNon {j : Nat} : PE X (.Constant .none j pos) (tQ X (qC .none)) := PEimp pe_non fun σ H Q h => tQ_const (fun _ => .non) h
def qIx (qa qb : Ev → Option O) : Ev → Option O := fun ev => (qa ev).bind fun o => (qb ev).bind fun k => match k with
  | .dat d => ixA o d
  | _ => none
theorem qIx_some {r : O} (h : qIx qa qb ev = some r) : ∃ o d, qa ev = some o ∧ qb ev = some (.dat d) ∧ ixA o d = some r := by
  unfold qIx at h
  cases e : qa ev with
  | none => rw [e] at h; cases h
  | some o =>
    simp only [e, Option.bind_some] at h
    cases e2 : qb ev with
    | none => rw [e2] at h; cases h
    | some k =>
      simp only [e2, Option.bind_some] at h
      split at h
      · exact ⟨o, _, rfl, rfl, h⟩
      · cases h
theorem zqIx (hu : X.A.units + 64 < cLine) (ha : PE X a (tQ X qa)) (hb : PE X b (tQ X qb)) (hs : PlainIx b := by exact fun _ _ => rfl) : PE X (.Subscript a b pos) (tQ X (qIx qa qb)) := PEimp (pe_ix (ix_any hu) ha hb hs) fun σ H Q h => by
  obtain ⟨pv, ev, F, o, r, nd, hm, q⟩ := h
  obtain ⟨o1, d, h1, h2, h3⟩ := qIx_some hm
  refine ⟨pv, ev, F, o1, r, nd, h1, fun v G rv ng sg => ⟨pv, ev, F, .dat d, r, nd, h2, fun y G2 ry _ _ => ?_⟩⟩
  obtain ⟨rfl, ty⟩ := RO.flat ry
  exact ixA_ok rv ty h3 fun z Go rz sub nz => q z Go rz (nz ng) fun x m => sg x (sub x m)
/-- whole numbers -/
def qI (f : Int → Int → Option O) (qa qb : Ev → Option O) : Ev → Option O := fun ev => match qa ev, qb ev with
  | some (.dat (.int i)), some (.dat (.int j)) => f i j
  | _, _ => none
theorem zqI {op : Operator} {f : Int → Int → Option O} {C : Int → Int → Prop} {g : Int → Int → Int} (ho : OpR X (binaryOp op) (rI C fun i j => .int (g i j))) (hf : ∀ i j r, f i j = some r → C i j ∧ r = .dat (.int (g i j))) (ha : PE X a (tQ X qa)) (hb : PE X b (tQ X qb)) : PE X (.BinOp a op b pos) (tQ X (qI f qa qb)) := PEimp (pe_op ho ha hb) fun σ H Q h => by
  obtain ⟨pv, ev, F, o, r, nd, hm, q⟩ := h
  unfold qI at hm
  split at hm
  · rename_i i j e1 e2
    obtain ⟨c, rfl⟩ := hf i j o hm
    refine ⟨pv, ev, F, _, r, nd, e1, fun v G rv _ _ => ⟨pv, ev, F, _, r, nd, e2, fun y G2 ry _ _ => ?_⟩⟩
    exact ⟨i, j, rv.flat.2.int_of, ry.flat.2.int_of, c, q _ [] (.dat (.int _)) List.nodup_nil fun _ m => by cases m⟩
  · cases hm
theorem zqAdd (ha : PE X a (tQ X qa)) (hb : PE X b (tQ X qb)) : PE X (.BinOp a .Add b pos) (tQ X (qI (fun i j => oI (i + j)) qa qb)) :=
  zqI (C := fun _ _ => True) (fun pins s σ H x y v u Q I rx ry ⟨i, j, h1, h2, _, h3⟩ => op_add pins s σ H x y v u Q I rx ry ⟨i, j, h1, h2, h3⟩) (fun i j r h => ⟨True.intro, (Option.some.inj h).symm⟩) ha hb
theorem zqSub (ha : PE X a (tQ X qa)) (hb : PE X b (tQ X qb)) : PE X (.BinOp a .Sub b pos) (tQ X (qI (fun i j => oI (i - j)) qa qb)) :=
  zqI (C := fun _ _ => True) (fun pins s σ H x y v u Q I rx ry ⟨i, j, h1, h2, _, h3⟩ => op_sub pins s σ H x y v u Q I rx ry ⟨i, j, h1, h2, h3⟩) (fun i j r h => ⟨True.intro, (Option.some.inj h).symm⟩) ha hb
/-- data -/
def mQ (q : Ev → Option O) : M O := fun ev => match q ev with
  | some (.dat d) => some (.dat d, ev)
  | _ => none
theorem zQ (h : PE X e (tQ X q)) : PE X e (tM X (mQ q)) := PEimp h fun σ H Q h => by
  obtain ⟨pv, ev, F, o, ev', r, nd, hm, k⟩ := h
  unfold mQ at hm
  split at hm
  · rename_i d e1
    cases hm
    refine ⟨pv, ev, F, _, r, nd, e1, fun v G rv _ _ => ?_⟩
    obtain ⟨rfl, _⟩ := RO.flat rv
    exact k v H F [] r rv (by simpa using nd) (by simpa using Stp.refl F H)
  · cases hm
/-- a tree read -/
def mQP (q : Ev → Option O) : M O := fun ev => (q ev).map fun o => (o, ev)
theorem zQP (h : PE X e (tQ X q)) : PE X e (tP X (mQP q)) := PEimp h fun σ H Q h => by
  obtain ⟨pv, ev, F, o, ev', r, nd, hm, k⟩ := h
  unfold mQP at hm
  cases e1 : q ev with
  | none => rw [e1] at hm; cases hm
  | some o1 =>
    rw [e1] at hm
    cases hm
    exact ⟨pv, ev, F, _, r, nd, e1, fun v G rv ng sg => k v H F [] G r rv (by simpa using nd) (fun a m => by simpa using sg a m) ng (by simpa using Stp.refl F H)⟩
end
end Z
set_option Elab.async false
set_option linter.all false
set_option maxRecDepth 100000
set_option maxHeartbeats 1000000
/-! Z9: places, views, methods of own containers, stores. -/
namespace Z
open PySem PySem.Spec PyProof.Rows L2

def atP : O → List PyData → Option O
  | t, [] => some t
  | t, k :: p => (at1 t k).bind fun c => atP c p
def putP : O → List PyData → O → O
  | _, [], o => o
  | t, k :: p, o => match at1 t k with
    | some c => put1 t k (putP c p o)
    | none => t
theorem atP_snoc : ∀ {p : List PyData} {t node : O} {k : PyData}, atP t p = some node → atP t (p ++ [k]) = at1 node k
  | [], t, node, k, h => by
    cases h
    show (at1 t k).bind (fun c => some c) = _
    simp
  | q :: p, t, node, k, h => by
    simp only [List.cons_append, atP] at h ⊢
    cases e : at1 t q with
    | none => rw [e] at h; cases h
    | some c =>
      simp only [e, Option.bind_some] at h ⊢
      exact atP_snoc h
theorem putP_snoc : ∀ {p : List PyData} {t node : O} {k : PyData} {c' c : O}, atP t p = some node → at1 node k = some c → putP t (p ++ [k]) c' = putP t p (put1 node k c')
  | [], t, node, k, c', c, h, hc => by
    cases h
    simp only [List.nil_append, putP, hc]
  | q :: p, t, node, k, c', c, h, hc => by
    simp only [atP] at h
    cases e : at1 t q with
    | none => rw [e] at h; cases h
    | some d =>
      simp only [e, Option.bind_some] at h
      simp only [List.cons_append, putP, e, putP_snoc h hc]

/-! ### views -/
def Pv.with (pv : Pv) (i : Nat) (L : List Addr) : Pv := ⟨pv.ps, ⟨fun j => if j = i then L else pv.W.f j⟩⟩
section
variable {X : Cx} {H : Hp} {pv : Pv} {σ : L2.St} {ev : Ev} {F : List Addr}
theorem Pv.with_mem {i : Nat} {L : List Addr} {a : Addr} (h : a ∈ (pv.with i L).W) : a ∈ L ∨ a ∈ pv.W := by
  obtain ⟨j, m⟩ := h
  have m : a ∈ if j = i then L else pv.W.f j := m
  split at m
  · exact .inl m
  · exact .inr ⟨j, m⟩
theorem Pv.with_in {i : Nat} {L : List Addr} {a : Addr} (h : a ∈ L) : a ∈ (pv.with i L).W := ⟨i, by show a ∈ if i = i then L else _; rw [if_pos rfl]; exact h⟩
/-- the slot's tree stands aside, to be read -/
theorem Rp.view (r : Rp X H pv σ ev F) (nd : F.Nodup) {i : Nat} {sl : Sl} {t : O} (e : ev[i]? = some sl) (ht : sl.tree = some t) : ∃ v0 Ft R, σ[i]? = some (some v0) ∧ RX X H v0 t Ft ∧ F.Perm (Ft ++ R) ∧ (∀ o, sl = .par o → pv.ps[i]? = some (some v0)) ∧ Rp X H (pv.with i Ft) σ (ev.set i (.ro t)) R := by
  obtain ⟨F0, r0, p0, w⟩ := r
  have pin : ∀ v0, σ[i]? = some (some v0) → ∀ o, sl = .par o → pv.ps[i]? = some (some v0) := fun v0 hv o es => by
    subst es
    obtain ⟨v, h1, h2⟩ := r0.pinned (core_get e)
    rw [hv] at h2
    cases h2
    exact h1
  have r : Rp X H pv σ ev F := ⟨F0, r0, p0, w⟩
  obtain ⟨v0, Ft, R, h1, h2, h3, ⟨F3, d1, d2, d3⟩, _⟩ := r.focus e ht
  obtain ⟨n1, n2, n3⟩ := nd_app.mp (h3.nodup_iff.mp nd)
  have hl : i < ev.length := (List.getElem?_eq_some_iff.mp e).1
  refine ⟨v0, Ft, R, h1, h2, h3, pin v0 h1, F3, ?_, d2, fun a m z => ?_, fun a m => ?_, w.tb, fun j o z => ?_⟩
  · rw [core_set] at d1 ⊢; exact d1
  · rcases Pv.with_mem m with m | m
    · exact n3 a m z
    · exact d3.off a m z
  · rcases Pv.with_mem m with m | m
    · exact h2.mut a m
    · exact d3.mu a m
  · by_cases q : i = j
    · subst q
      rw [List.getElem?_set_self hl] at z
      cases z
      exact ⟨v0, Ft, h1, h2, n1, fun a m => by show a ∈ if i = i then Ft else _; rw [if_pos rfl]; exact m⟩
    · rw [List.getElem?_set_ne q] at z
      obtain ⟨v, Fo, a1, a2, a3, a4⟩ := w.see j o z
      exact ⟨v, Fo, a1, a2, a3, fun a m => by show a ∈ if j = i then Ft else _; rw [if_neg (Ne.symm q)]; exact a4 a m⟩
/-- and comes back -/
theorem Rp.unview {H' : Hp} {i : Nat} {Ft R F' : List Addr} {t' o' : O} {sl : Sl} {v0 : V} (r : Rp X H (pv.with i Ft) σ ev R) (e : ev[i]? = some (.ro t')) (hv : σ[i]? = some (some v0)) (pin : ∀ o, sl = .par o → pv.ps[i]? = some (some v0)) (ht : ∃ o, sl.tree = some o)
    (g : Grow H H') (k : ∀ a ∈ R, H' a = H a) (kw : ∀ a ∈ pv.W, H' a = H a) (off : ∀ a ∈ pv.W, a ∉ R) (mu : ∀ a ∈ pv.W, Mut (H a)) (nw : ∀ a ∈ pv.W, a ∉ F') (ro : RX X H' v0 o' F') : Rp X H' pv σ (ev.set i (sl.put o')) (F' ++ R) := by
  obtain ⟨F0, r0, p0, w⟩ := r
  have r1 := r0.keep g fun a m => k a (p0.mem_iff.mp m)
  obtain ⟨f1, f2⟩ := RE.fill ro r1 (core_get e) hv
  have hl : i < ev.length := (List.getElem?_eq_some_iff.mp e).1
  have vw : ∀ s : Sl, (∀ o, s ≠ .ro o) → Vw X H' pv σ (ev.set i s) (F' ++ R) := fun s hs => by
    refine ⟨fun a m z => (List.mem_append.mp z).elim (nw a m) (off a m), fun a m => by rw [kw a m]; exact mu a m, w.tb.grow g, fun j o z => ?_⟩
    by_cases q : i = j
    · subst q
      rw [List.getElem?_set_self hl] at z
      exact absurd (Option.some.inj z) (hs o)
    · rw [List.getElem?_set_ne q] at z
      obtain ⟨v, Fo, a1, a2, a3, a4⟩ := w.see j o z
      have a5 : ∀ a ∈ Fo, a ∈ pv.W.f j := fun a m => by
        have := a4 a m
        have this : a ∈ if j = i then Ft else pv.W.f j := this
        rwa [if_neg (Ne.symm q)] at this
      exact ⟨v, Fo, a1, a2.keep g fun a m => kw a ⟨j, a5 a m⟩, a3, a5⟩
  obtain ⟨o0, ho⟩ := ht
  cases sl with
  | un => cases ho
  | ro _ => cases ho
  | var _ =>
    obtain ⟨F2, b1, b2⟩ := f1
    exact ⟨F2, by rw [core_set]; exact b1, b2.trans (p0.append_left F'), vw _ fun o z => nomatch z⟩
  | par _ =>
    obtain ⟨F2, b1, b2⟩ := f2 (pin _ rfl)
    exact ⟨F2, by rw [core_set]; exact b1, b2.trans (p0.append_left F'), vw _ fun o z => nomatch z⟩
/-- another sight of the same -/
theorem Rp.revw {i : Nat} {Ft R : List Addr} {t t' : O} {v0 : V} (r : Rp X H (pv.with i Ft) σ ev R) (e : ev[i]? = some (.ro t')) (hv : σ[i]? = some (some v0)) (ro : RX X H v0 t Ft) (nd : Ft.Nodup) : Rp X H (pv.with i Ft) σ (ev.set i (.ro t)) R := by
  obtain ⟨F0, r0, p0, w⟩ := r
  have hl : i < ev.length := (List.getElem?_eq_some_iff.mp e).1
  refine ⟨F0, ?_, p0, w.off, w.mu, w.tb, fun j o z => ?_⟩
  · rw [core_set]
    have : (ev.map Sl.core)[i]? = some .un := core_get e
    have e2 : (ev.map Sl.core).set i .un = ev.map Sl.core := by
      apply List.ext_getElem?
      intro n
      by_cases q : i = n
      · subst q
        rw [List.getElem?_set_self (by simpa using hl), this]
      · rw [List.getElem?_set_ne q]
    show RE _ _ _ _ _ _ ((ev.map Sl.core).set i .un) _
    rw [e2]
    exact r0
  · by_cases q : i = j
    · subst q
      rw [List.getElem?_set_self hl] at z
      cases z
      exact ⟨v0, Ft, hv, ro, nd, fun a m => by show a ∈ if i = i then Ft else _; rw [if_pos rfl]; exact m⟩
    · rw [List.getElem?_set_ne q] at z
      exact w.see j o z
end

/-! ### places -/
/-- slot i's tree t at v0, its node at p is at v -/
structure Foc (X : Cx) (H : Hp) (pv : Pv) (σ : L2.St) (ev : Ev) (F : List Addr) (i : Nat) (p : List PyData) (v : V) (sl : Sl) (t node : O) (v0 : V) (Ft R Fo Rt : List Addr) : Prop where
  e : ev[i]? = some sl
  ht : sl.tree = some t
  hv : σ[i]? = some (some v0)
  pin : ∀ o, sl = .par o → pv.ps[i]? = some (some v0)
  ro : RX X H v0 t Ft
  pF : F.Perm (Ft ++ R)
  vw : Rp X H (pv.with i Ft) σ (ev.set i (.ro t)) R
  hp : atP t p = some node
  pT : Ft.Perm (Fo ++ Rt)
  rn : RX X H v node Fo
  repl : ∀ {H' : Hp} {o' : O} {F' : List Addr}, Grow H H' → (∀ a ∈ Rt, H' a = H a) → RX X H' v o' F' → ∃ F2, RX X H' v0 (putP t p o') F2 ∧ F2.Perm (F' ++ Rt)
abbrev Lv := Ev → Option ((Nat × List PyData) × Ev)
def tL (X : Cx) (l : Lv) : TE := fun σ H Q => ∃ pv ev F i p ev', Rp X H pv σ ev F ∧ F.Nodup ∧ l ev = some ((i, p), ev') ∧
  ∀ v H' F' sl t node v0 Ft R Fo Rt, Rp X H' pv σ ev' F' → F'.Nodup → Stp F H F' H' → Foc X H' pv σ ev' F' i p v sl t node v0 Ft R Fo Rt → Q v H'
/-- slot i aside -/
def vw1 (i : Nat) (ev : Ev) : Option (O × (O → Sl) × Ev) := match ev[i]? with
  | some (.var t) => some (t, .var, ev.set i (.ro t))
  | some (.par t) => some (t, .par, ev.set i (.ro t))
  | _ => none
theorem vw1_some {i : Nat} {ev : Ev} {q : O × (O → Sl) × Ev} (h : vw1 i ev = some q) : ∃ sl, ev[i]? = some sl ∧ sl.tree = some q.1 ∧ q.2.2 = ev.set i (.ro q.1) ∧ ∀ o, sl.put o = q.2.1 o := by
  unfold vw1 at h
  split at h
  · rename_i t e; cases h; exact ⟨_, e, rfl, rfl, fun o => rfl⟩
  · rename_i t e; cases h; exact ⟨_, e, rfl, rfl, fun o => rfl⟩
  · cases h
def isRo (i : Nat) (ev : Ev) : Bool := match ev[i]? with
  | some (.ro _) => true
  | _ => false
theorem isRo_some {i : Nat} {ev : Ev} (h : isRo i ev = true) : ∃ t, ev[i]? = some (.ro t) := by
  unfold isRo at h
  split at h
  · rename_i t e; exact ⟨t, e⟩
  · cases h
section
variable {X : Cx} {pos : Pos} {a b e : Expr} {es : List Expr} {m mb : M O} {ms : M (List O)} {l : Lv} {pv : Pv} {σ : L2.St} {H : Hp} {ev : Ev} {F : List Addr}
/-- a name's own tree -/
def lN (i : Nat) : Lv := fun ev => (vw1 i ev).map fun _ => ((i, []), ev)
theorem zlN {x : Str} (i : Nat) (hN : X.N[i]? = some x := by rfl) (hv : Vis X.env.scope x := by first | exact Or.inl rfl | exact Or.inr (Or.inl rfl) | exact Or.inr (Or.inr rfl)) (hd : (x == ("__debug__" : Str)) = false := by decide)
    (hcd : (x == ("__classdict__" : Str)) = false := by decide) : PE X (.Name x pos) (tL X (lN i)) := PEimp (pe_var hN hv hd hcd) fun σ H Q h => by
  obtain ⟨pv, ev, F, j, p, ev', r, nd, hm, q⟩ := h
  unfold lN at hm
  cases e1 : vw1 i ev with
  | none => rw [e1] at hm; cases hm
  | some w =>
    rw [e1] at hm
    cases hm
    obtain ⟨sl, a1, a2, _, _⟩ := vw1_some e1
    obtain ⟨v0, Ft, R, h1, h2, h3, h4, h5⟩ := r.view nd a1 a2
    exact ⟨v0, h1, q v0 H F sl w.1 w.1 v0 Ft R Ft [] r nd (Stp.refl F H) ⟨a1, a2, h1, h4, h2, h3, h5, rfl, by simp, h2, fun g k r => ⟨_, r, by simp⟩⟩⟩
/-- a place's child -/
def lIx (l : Lv) (mb : M O) : Lv := fun ev => (l ev).bind fun q => (vw1 q.1.1 q.2).bind fun w => (mb w.2.2).bind fun k => if isRo q.1.1 k.2 = true ∧ ((atP w.1 (q.1.2 ++ [k.1.data])).isSome = true) then some ((q.1.1, q.1.2 ++ [k.1.data]), k.2.set q.1.1 (w.2.1 w.1)) else none
theorem put_tree {sl : Sl} {t : O} (h : sl.tree = some t) : sl.put t = sl := by
  cases sl <;> first | cases h; rfl | cases h
theorem zlIx (hu : X.A.units + 64 < cLine) (ha : PE X a (tL X l)) (hb : PE X b (tM X mb)) (hs : PlainIx b := by exact fun _ _ => rfl) : PE X (.Subscript a b pos) (tL X (lIx l mb)) := PEimp (pe_ix (ix_any hu) ha (PEfz hb) hs) fun σ H Q h => by
  obtain ⟨pv, ev, F, i, p, ev', r, nd, hm, q⟩ := h
  unfold lIx at hm
  cases e1 : l ev with
  | none => rw [e1] at hm; cases hm
  | some q0 =>
    obtain ⟨⟨i0, p0⟩, ev1⟩ := q0
    simp only [e1, Option.bind_some] at hm
    cases e2 : vw1 i0 ev1 with
    | none => rw [e2] at hm; cases hm
    | some w =>
      simp only [e2, Option.bind_some] at hm
      cases e3 : mb w.2.2 with
      | none => rw [e3] at hm; cases hm
      | some k =>
        simp only [e3, Option.bind_some] at hm
        split at hm
        · rename_i hc
          cases hm
          obtain ⟨hc1, hc2⟩ := hc
          obtain ⟨sl, a1, a2, a3, a4⟩ := vw1_some e2
          refine ⟨pv, ev, F, i, p0, ev1, r, nd, e1, fun v H1 F1 sl' t node v0 Ft R Fo Rt r1 n1 s1 f => ?_⟩
          have : sl' = sl := by have := f.e; rw [a1] at this; cases this; rfl
          subst this
          have ht : t = w.1 := by have := f.ht; rw [a2] at this; cases this; rfl
          subst ht
          rw [a3] at e3
          obtain ⟨nFt, nR, nX⟩ := nd_app.mp (f.pF.nodup_iff.mp n1)
          refine one e3 f.vw nR fun y H2 R2 r2 n2 s2 ty => ?_
          obtain ⟨t', er⟩ := isRo_some hc1
          obtain ⟨c, hc⟩ := Option.isSome_iff_exists.mp hc2
          rw [atP_snoc f.hp] at hc
          obtain ⟨nFo, nRt, nY⟩ := nd_app.mp (f.pT.nodup_iff.mp nFt)
          obtain ⟨z, Fz, Rz, b1, b2, b3, b4⟩ := f.rn.child nFo hc
          have g12 : Grow H1 H2 := s2.grow f.vw.mut
          have kFt : ∀ a ∈ Ft, H2 a = H1 a := fun a m => s2.at (nX a m) (f.ro.mut a m)
          have kFo : ∀ a ∈ Fo, H2 a = H1 a := fun a m => kFt a (f.pT.mem_iff.mpr (List.mem_append_left _ m))
          have kRz : ∀ a ∈ Rz, H2 a = H1 a := fun a m => kFo a (b2.mem_iff.mpr (List.mem_append_right _ m))
          have kFz : ∀ a ∈ Fz, H2 a = H1 a := fun a m => kFo a (b2.mem_iff.mpr (List.mem_append_left _ m))
          refine b3 H2 y Q g12 kRz (b1.keep g12 kFz) ty ?_
          have wR : ∀ a ∈ pv.W, a ∉ R := fun a m z => r1.off a m (f.pF.mem_iff.mpr (List.mem_append_right _ z))
          have wA : ∀ a ∈ pv.W, a ∉ R2 := fun a m => s2.apart (wR a m) (r1.vw.mu a m)
          have wK : ∀ a ∈ pv.W, H2 a = H1 a := fun a m => s2.at (wR a m) (r1.vw.mu a m)
          have ro2 : RX X H2 v0 w.1 Ft := f.ro.keep g12 kFt
          have r3 : Rp X H2 pv σ (k.2.set i (sl'.put w.1)) (Ft ++ R2) := r2.unview er f.hv f.pin ⟨_, a2⟩ (Grow.refl _) (fun _ _ => rfl) (fun _ _ => rfl) wA (fun a m => by rw [wK a m]; exact r1.vw.mu a m) (fun a m z => r1.off a m (f.pF.mem_iff.mpr (List.mem_append_left _ z))) ro2
          have apR : ∀ a ∈ Ft, a ∉ R2 := fun a m => s2.apart (nX a m) (f.ro.mut a m)
          have n3 : (Ft ++ R2).Nodup := nd_app.mpr ⟨nFt, n2, apR⟩
          have s3 : Stp F1 H1 (Ft ++ R2) H2 := (s2.more Ft).wide fun a m => f.pF.mem_iff.mpr (List.mem_append.mpr (List.mem_append.mp m))
          rw [← a4] at q
          have hlen : i < k.2.length := (List.getElem?_eq_some_iff.mp er).1
          refine q z H2 (Ft ++ R2) sl' w.1 c v0 Ft R2 Fz (Rz ++ Rt) r3 n3 (s1.trans s3) ⟨?_, a2, f.hv, f.pin, ro2, List.Perm.refl _, ?_, ?_, ?_, ?_, fun {H' o' F'} g kp ro => ?_⟩
          · rw [put_tree a2, List.getElem?_set_self hlen]
          · rw [List.set_set]
            exact r2.revw er f.hv ro2 nFt
          · rw [atP_snoc f.hp, hc]
          · refine f.pT.trans ((b2.append_right Rt).trans ?_)
            rw [List.append_assoc]
          · exact b1.keep g12 kFz
          · obtain ⟨F2, c1, c2⟩ := b4 (g12.trans g) (fun a m => (kp a (List.mem_append_left _ m)).trans (kRz a m)) ro
            obtain ⟨F3, d1, d2⟩ := f.repl (g12.trans g) (fun a m => (kp a (List.mem_append_right _ m)).trans (kFt a (f.pT.mem_iff.mpr (List.mem_append_right _ m)))) c1
            rw [putP_snoc f.hp hc]
            refine ⟨F3, d1, d2.trans ((c2.append_right Rt).trans ?_)⟩
            rw [List.append_assoc]
        · cases hm

/-! ### a built-in type's method on an own container -/
def tyX (X : Cx) (T : String) (x : V) (H : Hp) : Prop := ∀ (pins : List (Addr × Obj)) (σ : L2.St) (s : Shared) (v : Value), Inv X pins σ H s → RelV x v → s.TypeIs v T ∧ ∀ a, v = .ref a → ∃ ob, s.heap.get? a = some ob ∧ ob.dict = none
def tBM0' (X : Cx) (T : String) (r : V → List V → Hp → VK → Prop) (to : TE) : TE := fun σ H Q => to σ H fun x H1 => tyX X T x H1 ∧ r x [] H1 Q
def tBM' (X : Cx) (T : String) (r : V → List V → Hp → VK → Prop) (to : TE) (t : TA) : TE := fun σ H Q => to σ H fun x H1 => tyX X T x H1 ∧ t σ H1 fun xs H2 => r x xs H2 Q
variable {o : Expr} {to : TE} {t : TA} {name : Str} {apos cpos : Pos} {T id : String} {r : V → List V → Hp → VK → Prop}
theorem pe_bm0' (pa : PlainAttrs T) (slot : Slot T name id) (hty : typeOf (.builtin id) = pure (.type "method_descriptor")) (hm : MtR X id r) (ho : PE X o to)
    (hbase : attributeBase o name X.env (eval o X.env) = eval o X.env := by rfl) (hline : (apos.endLine == cpos.line) = true := by rfl) : PE X (.Call (.Attribute o name apos) [] [] cpos) (tBM0' X T r to) :=
  ⟨fun pins s σ H Q I h => wpAny_Call_method0_late hbase hline (thn (ho.run pins s σ H _ I h) fun v s1 ⟨x, H1, I1, r1, ty, q1⟩ =>
    ⟨T, id, pa, slot, hty, (ty pins σ s1 v I1 r1).1, (ty pins σ s1 v I1 r1).2, Calls.callWith_builtin rfl (PySem.evalArgs_none (hm pins s1 σ H1 x [] v [] Q I1 r1 .nil q1))⟩)⟩
theorem pe_bm' (pa : PlainAttrs T) (slot : Slot T name id) (hty : typeOf (.builtin id) = pure (.type "method_descriptor")) (hm : MtR X id r) (ho : PE X o to) (ha : PA X (e :: es) t)
    (hbase : attributeBase o name X.env (eval o X.env) = eval o X.env := by rfl)
    (hfew : ((backTo cpos (starEach (e :: es) X.env)).all (fun x => !x.1) && (backToKw cpos (keywordEach [] X.env)).all (fun x => x.1.isSome)
      && decide ((e :: es).length + ([] : List Keyword).length + (if ([] : List Keyword).isEmpty then 0 else 1) < 30)) = true := by rfl)
    (hline : (apos.endLine == cpos.line) = true := by rfl) (hs : starEach (e :: es) X.env = (false, eval e X.env) :: starEach es X.env := by rfl) (hplain : (backTo cpos (starEach es X.env)).any (·.1) = false := by rfl) :
    PE X (.Call (.Attribute o name apos) (e :: es) [] cpos) (tBM' X T r to t) := by
  refine ⟨fun pins s σ H Q I h => wpAny_Call_method_late hbase hfew hline rfl (thn (ho.run pins s σ H _ I h) fun v s1 ⟨x, H1, I1, r1, ty, q1⟩ => ?_)⟩
  obtain ⟨h1, h2⟩ := ty pins σ s1 v I1 r1
  refine ⟨T, id, pa, slot, hty, h1, h2, ?_⟩
  have hA := ha.run cpos pins s1 σ H1 _ I1 q1
  rw [hs] at hA ⊢
  refine Calls.callWith_builtin (by show (false || (backTo cpos (starEach es X.env)).any (·.1)) = false; rw [hplain] <;> rfl) (Calls.evalArgs_plain ?_)
  exact thn hA fun us s2 ⟨vs, H2, I2, r2, q2⟩ => hm pins s2 σ H2 x vs v us Q I2 r1 r2 q2
/-- the method writes the container -/
def rO (X : Cx) (f : O → List O → Option (O × O)) : V → List V → Hp → VK → Prop := fun x xs H Q => ∃ node os Fo G r node', RX X H x node Fo ∧ RsX X H xs os G ∧ (Fo ++ G).Nodup ∧ f node os = some (r, node') ∧
  ∀ v H' F' G', RX X H' x node' F' → RX X H' v r G' → (F' ++ G').Nodup → Stp (Fo ++ G) H (F' ++ G') H' → Q v H'
def MtO (X : Cx) (id : String) (f : O → List O → Option (O × O)) : Prop := MtR X id (rO X f)
/-- the container's type -/
def tyO (T : String) : O → Bool
  | .lst _ => T == "list"
  | .dct _ => T == "dict"
  | _ => false
theorem tyO_ok {T : String} {v : V} {node : O} {G : List Addr} (r : RX X H v node G) (h : tyO T node = true) : tyX X T v H := by
  intro pins σ s u I ru
  cases r with
  | dat _ => cases h
  | lst hl ts =>
    have h : T = "list" := by simpa [tyO] using h
    subst h
    cases ru
    obtain ⟨its, _, pl, _⟩ := I.list (SqL.of hl)
    refine ⟨pl.isList.typeIs, fun a e => ?_⟩
    cases e
    obtain ⟨o, n, e, c, hd, _⟩ := pl
    exact ⟨o, e, hd⟩
  | dct hl en ts =>
    have h : T = "dict" := by simpa [tyO] using h
    subst h
    cases ru
    exact dat_type I ⟨_, .inl hl, en⟩
def mMet (T : String) (l : Lv) (ms : M (List O)) (f : O → List O → Option (O × O)) : M O := fun ev => (l ev).bind fun q => (vw1 q.1.1 q.2).bind fun w => (atP w.1 q.1.2).bind fun node => if tyO T node = true then ((ms w.2.2).bind fun a => if isRo q.1.1 a.2 = true then ((f node a.1).map fun r => (r.1, a.2.set q.1.1 (w.2.1 (putP w.1 q.1.2 r.2)))) else none) else none
theorem mMet_some {f : O → List O → Option (O × O)} {r : O} {ev' : Ev} (h : mMet T l ms f ev = some (r, ev')) : ∃ (i : Nat) (p : List PyData) (ev1 : Ev) (t : O) (mk : O → Sl) (node : O) (os : List O) (e2 : Ev) (t' node' : O) (sl : Sl), l ev = some ((i, p), ev1) ∧ ev1[i]? = some sl ∧ sl.tree = some t ∧ atP t p = some node ∧ tyO T node = true ∧ ms (ev1.set i (.ro t)) = some (os, e2) ∧ e2[i]? = some (.ro t') ∧ f node os = some (r, node') ∧ (∀ o, sl.put o = mk o) ∧ ev' = e2.set i (mk (putP t p node')) := by
  unfold mMet at h
  cases e1 : l ev with
  | none => rw [e1] at h; cases h
  | some q0 =>
    obtain ⟨⟨i, p⟩, ev1⟩ := q0
    simp only [e1, Option.bind_some] at h
    cases e2 : vw1 i ev1 with
    | none => rw [e2] at h; cases h
    | some w =>
      simp only [e2, Option.bind_some] at h
      obtain ⟨sl, a1, a2, a3, a4⟩ := vw1_some e2
      cases e3 : atP w.1 p with
      | none => rw [e3] at h; cases h
      | some node =>
        simp only [e3, Option.bind_some] at h
        split at h
        · rename_i hT
          cases e4 : ms w.2.2 with
          | none => rw [e4] at h; cases h
          | some a =>
            simp only [e4, Option.bind_some] at h
            split at h
            · rename_i hc
              obtain ⟨t', er⟩ := isRo_some hc
              cases e5 : f node a.1 with
              | none => rw [e5] at h; cases h
              | some z =>
                rw [e5] at h
                cases h
                rw [a3] at e4
                exact ⟨i, p, ev1, w.1, w.2.1, node, a.1, a.2, t', z.2, sl, rfl, a1, a2, e3, hT, e4, er, e5, a4, rfl⟩
            · cases h
        · cases h
/-- the last step: the node is written -/
theorem Foc.fin {H1 H2 : Hp} {F1 R2 G : List Addr} {i : Nat} {p : List PyData} {v : V} {sl : Sl} {t node t' : O} {v0 : V} {Ft R Fo Rt : List Addr} {ev1 e2 : Ev} {os : List O} {vs : List V} (f : Foc X H1 pv σ ev1 F1 i p v sl t node v0 Ft R Fo Rt) (r1 : Rp X H1 pv σ ev1 F1) (n1 : F1.Nodup)
    (r2 : Rp X H2 (pv.with i Ft) σ e2 R2) (rs : RsX X H2 vs os G) (n2 : (R2 ++ G).Nodup) {L : List Addr} (hL : ∀ a ∈ Ft, a ∉ L) (wL : ∀ a ∈ pv.W, a ∉ L) (mL : ∀ a ∈ L, Mut (H1 a)) (s2 : Stp L H1 (R2 ++ G) H2) (er : e2[i]? = some (.ro t')) :
    RX X H2 v node Fo ∧ (Fo ++ G).Nodup ∧ ∀ {z : V} {o' res : O} {H' : Hp} {F' G' : List Addr}, RX X H' v o' F' → RX X H' z res G' → (F' ++ G').Nodup → Stp (Fo ++ G) H2 (F' ++ G') H' →
      ∃ F3, Rp X H' pv σ (e2.set i (sl.put (putP t p o'))) F3 ∧ (F3 ++ G').Nodup ∧ Stp (Ft ++ L) H1 (F3 ++ G') H' := by
  obtain ⟨nFt, nR, nX⟩ := nd_app.mp (f.pF.nodup_iff.mp n1)
  obtain ⟨nFo, nRt, nY⟩ := nd_app.mp (f.pT.nodup_iff.mp nFt)
  obtain ⟨m1, m2, m3⟩ := nd_app.mp n2
  have g12 : Grow H1 H2 := s2.grow mL
  have kFt : ∀ a ∈ Ft, H2 a = H1 a := fun a m => s2.at (hL a m) (f.ro.mut a m)
  have inFt : ∀ a ∈ Fo, a ∈ Ft := fun a m => f.pT.mem_iff.mpr (List.mem_append_left _ m)
  have inFt' : ∀ a ∈ Rt, a ∈ Ft := fun a m => f.pT.mem_iff.mpr (List.mem_append_right _ m)
  have apFt : ∀ a ∈ Ft, a ∉ R2 ++ G := fun a m => s2.apart (hL a m) (f.ro.mut a m)
  have rn2 : RX X H2 v node Fo := f.rn.keep g12 fun a m => kFt a (inFt a m)
  refine ⟨rn2, nd_app.mpr ⟨nFo, m2, fun a m z => apFt a (inFt a m) (List.mem_append_right _ z)⟩, fun {z o' res H' F' G'} ro rz n3 s3 => ?_⟩
  have mG : ∀ a ∈ Fo ++ G, Mut (H2 a) := fun a m => (List.mem_append.mp m).elim (rn2.mut a) (rs.mut a)
  have g23 : Grow H2 H' := s3.grow mG
  have mFt : ∀ a ∈ Ft, Mut (H2 a) := fun a m => by rw [kFt a m]; exact f.ro.mut a m
  have nRtG : ∀ a ∈ Rt, a ∉ Fo ++ G := fun a m z => (List.mem_append.mp z).elim (fun z => nY a z m) fun z => apFt a (inFt' a m) (List.mem_append_right _ z)
  have nR2G : ∀ a ∈ R2, a ∉ Fo ++ G := fun a m z => (List.mem_append.mp z).elim (fun z => apFt a (inFt a z) (List.mem_append_left _ m)) (m3 a m)
  obtain ⟨F2, c1, c2⟩ := f.repl (g12.trans g23) (fun a m => (s3.at (nRtG a m) (mFt a (inFt' a m))).trans (kFt a (inFt' a m))) ro
  have wFt : ∀ a ∈ pv.W, a ∉ Ft := fun a m z => r1.off a m (f.pF.mem_iff.mpr (List.mem_append_left _ z))
  have wM : ∀ a ∈ pv.W, Mut (H2 a) := fun a m => by rw [s2.at (wL a m) (r1.vw.mu a m)]; exact r1.vw.mu a m
  have wA : ∀ a ∈ pv.W, a ∉ R2 ++ G := fun a m => s2.apart (wL a m) (r1.vw.mu a m)
  have wG : ∀ a ∈ pv.W, a ∉ Fo ++ G := fun a m z => (List.mem_append.mp z).elim (fun z => wFt a m (inFt a z)) fun z => wA a m (List.mem_append_right _ z)
  have wN : ∀ a ∈ pv.W, a ∉ F' ++ G' := fun a m => s3.apart (wG a m) (wM a m)
  have r3 := r2.unview (H' := H') (sl := sl) (o' := putP t p o') (F' := F2) er f.hv f.pin ⟨_, f.ht⟩ g23 (fun a m => s3.at (nR2G a m) (r2.mut a m)) (fun a m => s3.at (wG a m) (wM a m)) (fun a m z => wA a m (List.mem_append_left _ z)) wM
    (fun a m z => by
      rcases List.mem_append.mp (c2.mem_iff.mp z) with z | z
      · exact wN a m (List.mem_append_left _ z)
      · exact wFt a m (inFt' a z)) c1
  obtain ⟨k1, k2, k3⟩ := nd_app.mp n3
  have pA : (F2 ++ R2).Perm ((F' ++ Rt) ++ R2) := c2.append_right R2
  have apRt : ∀ a ∈ Rt, a ∉ F' ++ G' := fun a m => s3.apart (nRtG a m) (mFt a (inFt' a m))
  have apR2 : ∀ a ∈ R2, a ∉ F' ++ G' := fun a m => s3.apart (nR2G a m) (r2.mut a m)
  have nn : ((F' ++ Rt) ++ R2).Nodup := nd_app.mpr ⟨nd_app.mpr ⟨k1, nRt, fun a m z => apRt a z (List.mem_append_left _ m)⟩, m1, fun a m z => (List.mem_append.mp m).elim (fun m => apR2 a z (List.mem_append_left _ m)) fun m => apFt a (inFt' a m) (List.mem_append_left _ z)⟩
  refine ⟨F2 ++ R2, r3, nd_app.mpr ⟨pA.nodup_iff.mpr nn, k2, fun a m z => ?_⟩, ?_⟩
  · rcases List.mem_append.mp (pA.mem_iff.mp m) with m | m
    · rcases List.mem_append.mp m with m | m
      · exact k3 a m z
      · exact apRt a m (List.mem_append_right _ z)
    · exact apR2 a m (List.mem_append_right _ z)
  · have q1 : Stp (Ft ++ L) H1 (Ft ++ (R2 ++ G)) H2 := s2.more Ft
    have q2 : Stp (Ft ++ (R2 ++ G)) H2 ((Rt ++ R2) ++ (F' ++ G')) H' := (s3.more (Rt ++ R2)).wide fun a m => by
      simp only [List.mem_append] at m ⊢
      rcases m with (m | m) | m | m
      · exact .inl (inFt' a m)
      · exact .inr (.inl m)
      · exact .inl (inFt a m)
      · exact .inr (.inr m)
    refine (q1.trans q2).sub fun a m => ?_
    rcases List.mem_append.mp m with m | m
    · rcases List.mem_append.mp (pA.mem_iff.mp m) with m | m
      · rcases List.mem_append.mp m with m | m <;> simp [m]
      · simp [m]
    · simp [m]
theorem met_read {f : O → List O → Option (O × O)} {σ : L2.St} {H : Hp} {Q : VK} (h : tM X (mMet T l ms f) σ H Q) : tBM' X T (rO X f) (tL X l) (tMs X ms) σ H Q := by
  obtain ⟨pv, ev, F, res, ev', r, nd, hm, q⟩ := h
  obtain ⟨i, p, ev1, t, mk, node, os, e2, t', node', sl, h1, h2, h3, h4, h5, h6, h7, h8, h9, rfl⟩ := mMet_some hm
  refine ⟨pv, ev, F, i, p, ev1, r, nd, h1, fun v H1 F1 sl' t1 node1 v0 Ft R Fo Rt r1 n1 s1 f1 => ?_⟩
  have : sl' = sl := by have := f1.e; rw [h2] at this; cases this; rfl
  subst this
  have : t1 = t := by have := f1.ht; rw [h3] at this; cases this; rfl
  subst this
  have : node1 = node := by have := f1.hp; rw [h4] at this; cases this; rfl
  subst this
  refine ⟨tyO_ok f1.rn h5, pv.with i Ft, _, R, os, e2, f1.vw, (nd_app.mp (f1.pF.nodup_iff.mp n1)).2.1, h6, fun vs H2 R2 G r2 rs n2 s2 => ?_⟩
  have wR : ∀ a ∈ pv.W, a ∉ R := fun a m z => r1.off a m (f1.pF.mem_iff.mpr (List.mem_append_right _ z))
  obtain ⟨a1, a2, a3⟩ := f1.fin r1 n1 r2 rs n2 (nd_app.mp (f1.pF.nodup_iff.mp n1)).2.2 wR f1.vw.mut s2 h7
  refine ⟨node1, os, Fo, G, res, node', a1, rs, a2, h8, fun z H' F' G' b1 b2 b3 b4 => ?_⟩
  obtain ⟨F3, c1, c2, c3⟩ := a3 b1 b2 b3 b4
  rw [← h9] at q
  exact q z H' F3 G' c1 b2 c2 (s1.trans (c3.wide fun a m => f1.pF.mem_iff.mpr m))
theorem zMet {f : O → List O → Option (O × O)} (pa : PlainAttrs T) (slot : Slot T name id) (hty : typeOf (.builtin id) = pure (.type "method_descriptor")) (hm : MtO X id f) (ho : PE X o (tL X l)) (ha : PA X (e :: es) (tMs X ms))
    (hbase : attributeBase o name X.env (eval o X.env) = eval o X.env := by rfl)
    (hfew : ((backTo cpos (starEach (e :: es) X.env)).all (fun x => !x.1) && (backToKw cpos (keywordEach [] X.env)).all (fun x => x.1.isSome)
      && decide ((e :: es).length + ([] : List Keyword).length + (if ([] : List Keyword).isEmpty then 0 else 1) < 30)) = true := by rfl)
    (hline : (apos.endLine == cpos.line) = true := by rfl) (hs : starEach (e :: es) X.env = (false, eval e X.env) :: starEach es X.env := by rfl) (hplain : (backTo cpos (starEach es X.env)).any (·.1) = false := by rfl) :
    PE X (.Call (.Attribute o name apos) (e :: es) [] cpos) (tM X (mMet T l ms f)) := PEimp (pe_bm' pa slot hty hm ho ha hbase hfew hline hs hplain) fun σ H Q h => met_read h
theorem zMet0 {f : O → List O → Option (O × O)} (pa : PlainAttrs T) (slot : Slot T name id) (hty : typeOf (.builtin id) = pure (.type "method_descriptor")) (hm : MtO X id f) (ho : PE X o (tL X l))
    (hbase : attributeBase o name X.env (eval o X.env) = eval o X.env := by rfl) (hline : (apos.endLine == cpos.line) = true := by rfl) :
    PE X (.Call (.Attribute o name apos) [] [] cpos) (tM X (mMet T l mNil f)) := PEimp (pe_bm0' pa slot hty hm ho hbase hline) fun σ H Q h => by
  have h := met_read h
  obtain ⟨pv, ev, F, i, p, ev', r, nd, hl, q⟩ := h
  refine ⟨pv, ev, F, i, p, ev', r, nd, hl, fun v H1 F1 sl t node v0 Ft R Fo Rt r1 n1 s1 f1 => ?_⟩
  obtain ⟨ty, pv2, ev2, F2, os, ev3, r2, nd2, hm2, q2⟩ := q v H1 F1 sl t node v0 Ft R Fo Rt r1 n1 s1 f1
  cases hm2
  exact ⟨ty, q2 [] H1 F2 [] r2 .nil (by simpa using nd2) (by simpa using Stp.refl F2 H1)⟩

/-! ### a store into an own container -/
def PSO (X : Cx) (f : O → PyData → O → Option O) : Prop := PSet X fun x y z H Q => ∃ node d o Fo G node', RX X H x node Fo ∧ TX X H y d ∧ RX X H z o G ∧ (Fo ++ G).Nodup ∧ f node d o = some node' ∧
  ∀ H' F', RX X H' x node' F' → F'.Nodup → Stp (Fo ++ G) H F' H' → Q H'
/-- c[b] = e -/
def mSto (f : O → PyData → O → Option O) (m : M O) (l : Lv) (mb : M O) : M Out := fun ev => (m ev).bind fun v => (l v.2).bind fun q => (vw1 q.1.1 q.2).bind fun w => (atP w.1 q.1.2).bind fun node => (mb w.2.2).bind fun k => if isRo q.1.1 k.2 = true then ((f node k.1.data v.1).map fun n => (.nx, k.2.set q.1.1 (w.2.1 (putP w.1 q.1.2 n)))) else none
theorem mSto_some {f : O → PyData → O → Option O} {r : Out} {ev' : Ev} (h : mSto f m l mb ev = some (r, ev')) : ∃ (v : O) (e0 : Ev) (i : Nat) (p : List PyData) (ev1 : Ev) (t : O) (mk : O → Sl) (node k : O) (e2 : Ev) (t' node' : O) (sl : Sl), m ev = some (v, e0) ∧ l e0 = some ((i, p), ev1) ∧ ev1[i]? = some sl ∧ sl.tree = some t ∧ atP t p = some node ∧ mb (ev1.set i (.ro t)) = some (k, e2) ∧ e2[i]? = some (.ro t') ∧ f node k.data v = some node' ∧ (∀ o, sl.put o = mk o) ∧ ev' = e2.set i (mk (putP t p node')) ∧ r = .nx := by
  unfold mSto at h
  cases e0 : m ev with
  | none => rw [e0] at h; cases h
  | some v =>
    simp only [e0, Option.bind_some] at h
    cases e1 : l v.2 with
    | none => rw [e1] at h; cases h
    | some q0 =>
      obtain ⟨⟨i, p⟩, ev1⟩ := q0
      simp only [e1, Option.bind_some] at h
      cases e2 : vw1 i ev1 with
      | none => rw [e2] at h; cases h
      | some w =>
        simp only [e2, Option.bind_some] at h
        obtain ⟨sl, a1, a2, a3, a4⟩ := vw1_some e2
        cases e3 : atP w.1 p with
        | none => rw [e3] at h; cases h
        | some node =>
          simp only [e3, Option.bind_some] at h
          cases e4 : mb w.2.2 with
          | none => rw [e4] at h; cases h
          | some a =>
            simp only [e4, Option.bind_some] at h
            split at h
            · rename_i hc
              obtain ⟨t', er⟩ := isRo_some hc
              cases e5 : f node a.1.data v.1 with
              | none => rw [e5] at h; cases h
              | some z =>
                rw [e5] at h
                cases h
                rw [a3] at e4
                exact ⟨v.1, v.2, i, p, ev1, w.1, w.2.1, node, a.1, a.2, t', z, sl, rfl, e1, a1, a2, e3, e4, er, e5, a4, rfl, rfl⟩
            · cases h
theorem zSto {f : O → PyData → O → Option O} {idx : Expr} {tpos : Pos} (he : PE X e (tM X m)) (ho : PE X o (tL X l)) (hi : PE X idx (tM X mb)) (hf : PSO X f) (hs : swapsWithSole [.Subscript o idx tpos] e pos.line X.env = pure false := by rfl) (hw : swappedStores [.Subscript o idx tpos] e X.env = pure none := by rfl)
    (h1 : (assignEach [.Subscript o idx tpos] X.env).map (·.2) = [assign (.Subscript o idx tpos) X.env] := by rfl)
    (ha : ∀ v, assign (.Subscript o idx tpos) X.env v = (do
      let ov ← holding [v] (eval o X.env)
      let iv ← holding [v, ov] (eval idx X.env)
      standAt tpos
      holding [v, ov, iv] (setItem ov iv v)
      release [v, ov, iv] []) := by intro _; rfl) : PS X (.Assign [.Subscript o idx tpos] e pos) (tS X (mSto f m l mb)) := PSimp (ps_asg he (pg_sub ho (PEfz hi) hf ha) hs hw h1) fun D σ H h => by
  obtain ⟨pv, ev, F, out, ev', r, nd, hm, q⟩ := h
  obtain ⟨v, e0, i, p, ev1, t, mk, node, k, e2, t', node', sl, h1, h2, h3, h4, h5, h6, h7, h8, h9, rfl, rfl⟩ := mSto_some hm
  refine ⟨pv, ev, F, v, e0, r, nd, h1, fun x H1 F1 G r1 ro n1 s1 => ?_⟩
  obtain ⟨nF1, nG, nFG⟩ := nd_app.mp n1
  refine ⟨pv, e0, F1, i, p, ev1, r1, nF1, h2, fun xn H2 F2 sl' t1 node1 v0 Ft R Fo Rt r2 n2 s2 f2 => ?_⟩
  have : sl' = sl := by have := f2.e; rw [h3] at this; cases this; rfl
  subst this
  have : t1 = t := by have := f2.ht; rw [h4] at this; cases this; rfl
  subst this
  have : node1 = node := by have := f2.hp; rw [h5] at this; cases this; rfl
  subst this
  obtain ⟨nFt, nR, nX⟩ := nd_app.mp (f2.pF.nodup_iff.mp n2)
  refine one h6 f2.vw nR fun y H3 R3 r3 n3 s3 ty => ?_
  have inR : ∀ a ∈ R, a ∈ F2 := fun a m => f2.pF.mem_iff.mpr (List.mem_append_right _ m)
  have inFt : ∀ a ∈ Ft, a ∈ F2 := fun a m => f2.pF.mem_iff.mpr (List.mem_append_left _ m)
  have apG : ∀ a ∈ G, a ∉ F1 := fun a m z => nFG a z m
  have kG2 : ∀ a ∈ G, H2 a = H1 a := fun a m => s2.at (apG a m) (ro.mut a m)
  have apG2 : ∀ a ∈ G, a ∉ F2 := fun a m => s2.apart (apG a m) (ro.mut a m)
  have ro2 := ro.keep (s2.grow r1.mut) kG2
  have apGR : ∀ a ∈ G, a ∉ R := fun a m z => apG2 a m (inR a z)
  have kG3 : ∀ a ∈ G, H3 a = H2 a := fun a m => s3.at (apGR a m) (ro2.mut a m)
  have apG3 : ∀ a ∈ G, a ∉ R3 := fun a m => s3.apart (apGR a m) (ro2.mut a m)
  have ro3 := ro2.keep (s3.grow f2.vw.mut) kG3
  have wG1 : ∀ a ∈ pv.W, a ∉ G := fun a m z => r.wApart s1 a m (List.mem_append_right _ z)
  have rs3 : RsX X H3 [x] [v] (G ++ []) := .cons ro3 .nil
  rw [List.append_nil] at rs3
  have s3' : Stp (R ++ G) H2 (R3 ++ G) H3 := ((s3.more G).wide (F2 := R ++ G) fun a m => by simpa [or_comm] using m).sub fun a m => by simpa [or_comm] using m
  obtain ⟨a1, a2, a3⟩ := f2.fin r2 n2 r3 rs3 (nd_app.mpr ⟨n3, nG, fun a m z => apG3 a z m⟩)
    (fun a m z => (List.mem_append.mp z).elim (nX a m) fun z => apG2 a z (inFt a m)) (fun a m z => (List.mem_append.mp z).elim (fun z => r2.off a m (inR a z)) (wG1 a m))
    (fun a m => (List.mem_append.mp m).elim (fun m => r2.mut a (inR a m)) (ro2.mut a)) s3' h7
  refine ⟨node1, _, v, Fo, G, node', a1, ty, ro3, a2, h8, fun H' F' b1 b2 b3 => ?_⟩
  obtain ⟨F3, c1, c2, c3⟩ := a3 (z := .non) (res := .dat .none) (G' := []) b1 (.dat .non) (by simpa using b2) (by simpa using b3)
  rw [List.append_nil] at c2 c3
  rw [← h9] at q
  refine q σ H' F3 c1 c2 (s1.trans ?_)
  have s2' : Stp (F1 ++ G) H1 (F2 ++ G) H2 := ((s2.more G).wide (F2 := F1 ++ G) fun a m => by simpa [or_comm] using m).sub fun a m => by simpa [or_comm] using m
  refine s2'.trans (c3.wide fun a m => ?_)
  simp only [List.mem_append] at m ⊢
  rcases m with m | m | m
  · exact .inl (inFt a m)
  · exact .inl (inR a m)
  · exact .inr m
end
end Z
set_option Elab.async false
set_option linter.all false
set_option maxRecDepth 100000
set_option maxHeartbeats 1000000
/-! Z10: tables: methods of lists and dicts, stores. -/
namespace Z
open PySem PySem.Spec PyProof.Rows L2

section
variable {X : Cx} {H : Hp}
theorem upd_grow {a : Addr} {u' : HO} (m : Mut (H a)) : Grow H (upd H a u') := by
  refine ⟨fun p xs e => ?_, fun p o u e => ?_, fun p ⟨ps, e, t⟩ => ⟨ps, ?_, t⟩⟩ <;>
  · rw [upd_ne fun z => by subst z; rw [e] at m; exact m]
    exact e
theorem upd_step {a : Addr} {u' : HO} {F F' : List Addr} (mu : Mut (H a)) (h : a ∈ F) (hs : ∀ x ∈ F', x ∈ F) : Stp F H F' (upd H a u') :=
  ⟨fun p u hp _ e => by rw [upd_ne fun z => hp (by rw [z]; exact h)]; exact e, fun p hp e => by rw [upd_ne fun z => hp (by rw [z]; exact h)] at e; exact e, (upd_grow mu).tab, fun x m => .inl (hs x m)⟩
/-- the children of a container whose object is written -/
theorem keepS {a : Addr} {u' : HO} {vs : List V} {os : List O} {F : List Addr} (m : Mut (H a)) (h : a ∉ F) (t : RsX X H vs os F) : RsX X (upd H a u') vs os F :=
  t.keep (upd_grow m) fun x mx => upd_ne fun z => h (z ▸ mx)
theorem keep1 {a : Addr} {u' : HO} {v : V} {o : O} {F : List Addr} (m : Mut (H a)) (h : a ∉ F) (t : RX X H v o F) : RX X (upd H a u') v o F :=
  t.keep (upd_grow m) fun x mx => upd_ne fun z => h (z ▸ mx)
theorem RO.lst_of {v : V} {os : List O} {F : List Addr} (r : RX X H v (.lst os) F) : ∃ a xs G, v = .ref a ∧ F = a :: G ∧ H a = some (.lst xs) ∧ RsX X H xs os G := by
  cases r with
  | lst h t => exact ⟨_, _, _, rfl, rfl, h, t⟩
theorem ROs.one_of {vs : List V} {o : O} {F : List Addr} (r : RsX X H vs [o] F) : ∃ v, vs = [v] ∧ RX X H v o F := by
  cases r with
  | cons a t => cases t; exact ⟨_, rfl, by simpa using a⟩
theorem ROs.two_of {vs : List V} {o p : O} {F : List Addr} (r : RsX X H vs [o, p] F) : ∃ v w G L, vs = [v, w] ∧ RX X H v o G ∧ RX X H w p L ∧ F = G ++ L := by
  cases r with
  | cons a t =>
    obtain ⟨w, rfl, t2⟩ := t.one_of
    exact ⟨_, w, _, _, rfl, a, t2, rfl⟩
theorem ROs.nil_of {vs : List V} {F : List Addr} (r : RsX X H vs [] F) : vs = [] ∧ F = [] := by cases r; exact ⟨rfl, rfl⟩

/-! ### lists -/
def fAppend : O → List O → Option (O × O)
  | .lst os, [o] => if os.length < sizeLine then some (.dat .none, .lst (os ++ [o])) else none
  | _, _ => none
theorem oAppend : MtO X "list.append" fAppend := fun pins s σ H x xs v us Q I rx rs ⟨node, os, Fo, G, r, node', rn, rg, nd, hf, q⟩ => by
  unfold fAppend at hf
  split at hf
  · rename_i ls o
    split at hf
    · rename_i hz
      cases hf
      obtain ⟨a, ys, F, rfl, rfl, h, t⟩ := rn.lst_of
      obtain ⟨y, rfl, ry⟩ := rg.one_of
      have nd' := nd
      rw [List.cons_append, List.nodup_cons] at nd'
      obtain ⟨n1, n2⟩ := nd'
      rw [List.mem_append, not_or] at n1
      have m : Mut (H a) := by rw [h]; exact True.intro
      exact mt_append pins s σ H (.ref a) [y] v us Q I rx rs ⟨a, ys, y, rfl, rfl, h, by rw [t.length]; exact hz, q _ _ (a :: (F ++ G)) [] (.lst upd_same ((keepS m n1.1 t).append (ROs.one (keep1 m n1.2 ry)))) (.dat .non) (by simpa using nd) (upd_step m (List.mem_append_left _ List.mem_cons_self) (by simp))⟩
    · cases hf
  · cases hf
def fPop : O → List O → Option (O × O)
  | .lst os, [] => (os[os.length - 1]?).map fun o => (o, .lst os.dropLast)
  | .lst os, [.dat (.int i)] => if -(2 ^ 63) ≤ i ∧ i < 2 ^ 63 then (seqIndex? i os.length).bind fun k => (os[k]?).map fun o => (o, .lst (os.eraseIdx k)) else none
  | _, _ => none
theorem ROs.erase {P : Program} {w : World} {K : PySem.W.Frag} {H : Hp} : ∀ {vs : List V} {os : List O} {F : List Addr} {j : Nat} {c : O}, ROs P w K H vs os F → os[j]? = some c → ∃ z Fo R, vs[j]? = some z ∧ RO P w K H z c Fo ∧ F.Perm (Fo ++ R) ∧ ROs P w K H (vs.eraseIdx j) (os.eraseIdx j) R
  | _, _, _, _, _, .nil, h => by simp at h
  | _, _, _, 0, c, @ROs.cons _ _ _ _ v o vs os F G b t, h => by
    have h : _ = _ := Option.some.inj h
    subst h
    exact ⟨v, F, G, rfl, b, List.Perm.refl _, t⟩
  | _, _, _, j + 1, c, @ROs.cons _ _ _ _ v o vs os F G b t, h => by
    obtain ⟨z, Fo, R, h1, h2, h3, h4⟩ := ROs.erase (j := j) t (by simpa using h)
    exact ⟨z, Fo, F ++ R, by simpa using h1, h2, perm_in h3, .cons b h4⟩
theorem erase_last {α : Type} : ∀ (l : List α), l.eraseIdx (l.length - 1) = l.dropLast
  | [] => rfl
  | [_] => rfl
  | a :: b :: l => by
    have := erase_last (b :: l)
    simp only [List.length_cons, Nat.add_sub_cancel] at this ⊢
    simp only [List.eraseIdx_cons_succ, List.dropLast_cons₂]
    rw [this]
/-- an item is taken out -/
theorem pop_fin {a : Addr} {ys : List V} {os : List O} {F G : List Addr} {k : Nat} {o : O} {Q : VK} (h : H a = some (.lst ys)) (t : RsX X H ys os F) (e : os[k]? = some o) (nd : ((a :: F) ++ G).Nodup)
    (q : ∀ v H' F' G', RX X H' (.ref a) (.lst (os.eraseIdx k)) F' → RX X H' v o G' → (F' ++ G').Nodup → Stp ((a :: F) ++ G) H (F' ++ G') H' → Q v H') : ∃ y, ys[k]? = some y ∧ Q y (upd H a (.lst (ys.eraseIdx k))) := by
  obtain ⟨z, Fo, R, h1, h2, h3, h4⟩ := t.erase e
  rw [List.cons_append, List.nodup_cons, List.mem_append, not_or] at nd
  obtain ⟨⟨n1, n2⟩, n3⟩ := nd
  have nF := (nd_app.mp n3).1
  obtain ⟨k1, k2, k3⟩ := nd_app.mp (h3.nodup_iff.mp nF)
  have m : Mut (H a) := by rw [h]; exact True.intro
  have aFo : a ∉ Fo := fun z => n1 (h3.mem_iff.mpr (List.mem_append_left _ z))
  have aR : a ∉ R := fun z => n1 (h3.mem_iff.mpr (List.mem_append_right _ z))
  refine ⟨z, h1, q z _ (a :: R) Fo (.lst upd_same (keepS m aR h4)) (keep1 m aFo h2) (nd_app.mpr ⟨List.nodup_cons.mpr ⟨aR, k2⟩, k1, fun x mx my => ?_⟩) (upd_step m (List.mem_append_left _ List.mem_cons_self) fun x mx => ?_)⟩
  · rcases List.mem_cons.mp mx with e2 | mx
    · exact aFo (e2 ▸ my)
    · exact k3 x my mx
  · refine List.mem_append_left _ ?_
    rcases List.mem_append.mp mx with mx | mx
    · rcases List.mem_cons.mp mx with e2 | mx
      · rw [e2]; exact List.mem_cons_self
      · exact List.mem_cons_of_mem _ (h3.mem_iff.mpr (List.mem_append_right _ mx))
    · exact List.mem_cons_of_mem _ (h3.mem_iff.mpr (List.mem_append_left _ mx))
theorem oPop : MtO X "list.pop" fPop := fun pins s σ H x xs v us Q I rx rs ⟨node, os, Fo, G, r, node', rn, rg, nd, hf, q⟩ => by
  unfold fPop at hf
  split at hf
  · rename_i ls
    cases e : ls[ls.length - 1]? with
    | none => rw [e] at hf; cases hf
    | some o =>
      rw [e] at hf
      cases hf
      obtain ⟨a, ys, F, rfl, rfl, h, t⟩ := rn.lst_of
      obtain ⟨rfl, rfl⟩ := rg.nil_of
      have el := t.length
      rw [← erase_last] at q
      obtain ⟨y, h1, h2⟩ := pop_fin h t e nd q
      rw [← el] at h1 h2
      rw [erase_last] at h2
      exact mt_pop pins s σ H (.ref a) [] v us Q I rx rs ⟨a, ys, y, rfl, rfl, h, h1, h2⟩
  · rename_i ls i
    split at hf
    · rename_i hz
      cases e : seqIndex? i ls.length with
      | none => rw [e] at hf; cases hf
      | some k =>
        simp only [e, Option.bind_some] at hf
        cases e2 : ls[k]? with
        | none => rw [e2] at hf; cases hf
        | some o =>
          rw [e2] at hf
          cases hf
          obtain ⟨a, ys, F, rfl, rfl, h, t⟩ := rn.lst_of
          obtain ⟨y0, rfl, ry⟩ := rg.one_of
          obtain ⟨rfl, ty⟩ := RO.flat ry
          obtain ⟨y, h1, h2⟩ := pop_fin h t e2 nd q
          exact mt_popAt pins s σ H (.ref a) [y0] v us Q I rx rs ⟨a, ys, i, k, y, rfl, by rw [ty.int_of], h, hz.1, hz.2, by rw [t.length]; exact e, h1, h2⟩
    · cases hf
  · cases hf
theorem ROs.rev {P : Program} {w : World} {K : PySem.W.Frag} {H : Hp} : ∀ {vs : List V} {os : List O} {F : List Addr}, ROs P w K H vs os F → ∃ F', ROs P w K H vs.reverse os.reverse F' ∧ F'.Perm F
  | _, _, _, .nil => ⟨[], .nil, List.Perm.refl _⟩
  | _, _, _, @ROs.cons _ _ _ _ v o vs os F G b t => by
    obtain ⟨F', r, p⟩ := ROs.rev t
    rw [List.reverse_cons, List.reverse_cons]
    exact ⟨F' ++ F, r.append (ROs.one b), (p.append_right F).trans List.perm_append_comm⟩
def fReverse : O → List O → Option (O × O)
  | .lst os, [] => some (.dat .none, .lst os.reverse)
  | _, _ => none
theorem oReverse : MtO X "list.reverse" fReverse := fun pins s σ H x xs v us Q I rx rs ⟨node, os, Fo, G, r, node', rn, rg, nd, hf, q⟩ => by
  unfold fReverse at hf
  split at hf
  · rename_i ls
    cases hf
    obtain ⟨a, ys, F, rfl, rfl, h, t⟩ := rn.lst_of
    obtain ⟨rfl, rfl⟩ := rg.nil_of
    rw [List.append_nil, List.nodup_cons] at nd
    have m : Mut (H a) := by rw [h]; exact True.intro
    obtain ⟨F', t2, p⟩ := (keepS (u' := .lst ys.reverse) m nd.1 t).rev
    exact mt_reverse pins s σ H (.ref a) [] v us Q I rx rs ⟨a, ys, rfl, rfl, h, q _ _ (a :: F') [] (.lst upd_same t2) (.dat .non) (by rw [List.append_nil, List.nodup_cons]; exact ⟨fun z => nd.1 (p.mem_iff.mp z), p.nodup_iff.mpr nd.2⟩)
      (upd_step m (List.mem_append_left _ List.mem_cons_self) fun x mx => by simp only [List.append_nil, List.mem_cons] at mx ⊢; rcases mx with mx | mx; exact .inl mx; exact .inr (p.mem_iff.mp mx))⟩
  · cases hf
/-- xs.extend(data) -/
def fExtend : O → List O → Option (O × O)
  | .lst os, [.dat (.list ds)] => if os.length + ds.length ≤ sizeLine then some (.dat .none, .lst (os ++ ds.map .dat)) else none
  | .lst os, [.lst ps] => if os.length + ps.length ≤ sizeLine then some (.dat .none, .lst (os ++ ps)) else none
  | _, _ => none
theorem mt_extendS : MtR X "list.extend" (fun x vs H Q => ∃ l b xs zs, x = .ref l ∧ vs = [.ref b] ∧ H l = some (.lst xs) ∧ (H b = some (.lst zs) ∨ FzL X.K H b zs) ∧ xs.length + zs.length ≤ sizeLine ∧ Q .non (upd H l (.lst (xs ++ zs)))) := by
  intro pins s σ H x vs v us Q I rx rv h
  obtain ⟨l, b, xs, zs, rfl, rfl, hH, hB, hz, q⟩ := h
  cases rx
  obtain ⟨u, rfl, ru⟩ := rv.one
  cases ru
  obtain ⟨z, its, n, r, hl, e⟩ := I.lstM hH
  obtain ⟨its2, n2, r2, e2⟩ : ∃ (its2 : List Value) (n2 : Nat), Vals zs its2 ∧ s.heap.get? b = some { cls := .type "list", data := .seq its2.toArray n2 } := by
    rcases hB with hB | hB
    · obtain ⟨_, its2, n2, r2, _, e2⟩ := I.lstM hB
      exact ⟨its2, n2, r2, e2⟩
    · exact (hB.obj I).2
  have hl2 := r2.length
  have hsz : its.toArray.size + its2.toArray.size ≤ sizeLine := by rw [List.size_toArray, List.size_toArray]; omega
  have hlong : ¬ (!its.toArray.isEmpty && Builtin.List.listTooLong (its.toArray.size + its2.toArray.size)) = true := by
    rw [notLongL hsz, Bool.and_false]
    exact Bool.false_ne_true
  refine call_meets F.slot_list_extend ⟨_, e, rfl⟩ F.entry_list_extend (F.args_list_extend_2 _ _)
    (AutoSeq1.list_extend_list_list_0 l its.toArray n b its2.toArray n2 hlong (by rw [List.size_toArray]; omega) (by omega)) ⟨e, e2, ?_⟩
  refine ⟨.non, _, I.lset (its' := its ++ its2) hH e (by simp) (r.append r2) ?_, rfl, q⟩
  rw [List.length_append]
  omega
theorem oExtend : MtO X "list.extend" fExtend := fun pins s σ H x xs v us Q I rx rs ⟨node, os, Fo, G, r, node', rn, rg, nd, hf, q⟩ => by
  unfold fExtend at hf
  split at hf
  · rename_i ls ds
    split at hf
    · rename_i hz
      cases hf
      obtain ⟨a, ys, F, rfl, rfl, h, t⟩ := rn.lst_of
      obtain ⟨y, rfl, ry⟩ := rg.one_of
      obtain ⟨rfl, ty⟩ := RO.flat ry
      obtain ⟨b, zs, rfl, hb, ts⟩ := ty.lst_of
      rw [List.append_nil] at nd
      have n1 := (List.nodup_cons.mp nd).1
      have m : Mut (H a) := by rw [h]; exact True.intro
      have t2 := (keepS (u' := .lst (ys ++ zs)) m n1 t).append (ROs.of_data (ts.grow (upd_grow m)))
      rw [List.append_nil] at t2
      exact mt_extendS pins s σ H (.ref a) [.ref b] v us Q I rx rs ⟨a, b, ys, zs, rfl, rfl, h, .inr hb, by rw [t.length, ts.length]; exact hz, q _ _ (a :: F) [] (.lst upd_same t2) (.dat .non) (by simpa using nd) (upd_step m (List.mem_append_left _ List.mem_cons_self) (by simp))⟩
    · cases hf
  · rename_i ls ps
    split at hf
    · rename_i hz
      cases hf
      obtain ⟨a, ys, F, rfl, rfl, h, t⟩ := rn.lst_of
      obtain ⟨y, rfl, ry⟩ := rg.one_of
      obtain ⟨b, zs, F2, rfl, rfl, hb, ts⟩ := ry.lst_of
      have nd' := nd
      rw [List.cons_append, List.nodup_cons, List.mem_append, not_or, List.mem_cons, not_or] at nd'
      obtain ⟨⟨n1, n2, n4⟩, n3⟩ := nd'
      obtain ⟨k1, k2, k3⟩ := nd_app.mp n3
      have m : Mut (H a) := by rw [h]; exact True.intro
      have t2 := (keepS (u' := .lst (ys ++ zs)) m n1 t).append (keepS m n4 ts)
      refine mt_extendS pins s σ H (.ref a) [.ref b] v us Q I rx rs ⟨a, b, ys, zs, rfl, rfl, h, .inl hb, by rw [t.length, ts.length]; exact hz, q _ _ (a :: (F ++ F2)) [] (.lst upd_same t2) (.dat .non) ?_ (upd_step m (List.mem_append_left _ List.mem_cons_self) fun x mx => ?_)⟩
      · rw [List.append_nil, List.nodup_cons, List.mem_append, not_or]
        exact ⟨⟨n1, n4⟩, nd_app.mpr ⟨k1, (List.nodup_cons.mp k2).2, fun x mx z => k3 x mx (List.mem_cons_of_mem _ z)⟩⟩
      · simp only [List.append_nil, List.mem_append, List.mem_cons] at mx ⊢
        rcases mx with mx | mx | mx
        · exact .inl (.inl mx)
        · exact .inl (.inr mx)
        · exact .inr (.inr mx)
    · cases hf
  · cases hf

/-! ### stores -/
def sLst : O → PyData → O → Option O
  | .lst os, .int i, o => (ixN os.length i).map fun j => .lst (os.set j o)
  | _, _, _ => none
theorem ROs.put {P : Program} {w : World} {K : PySem.W.Frag} {H : Hp} : ∀ {vs : List V} {os : List O} {F : List Addr} {j : Nat}, ROs P w K H vs os F → j < os.length → ∃ Fo R, F.Perm (Fo ++ R) ∧ ∀ {H' : Hp} {z' : V} {c' : O} {F' : List Addr}, Grow H H' → (∀ a ∈ R, H' a = H a) → RO P w K H' z' c' F' → ∃ F2, ROs P w K H' (vs.set j z') (os.set j c') F2 ∧ F2.Perm (F' ++ R) := by
  intro vs os F j r h
  obtain ⟨z, Fo, R, _, _, h3, h4⟩ := r.at (List.getElem?_eq_getElem h)
  exact ⟨Fo, R, h3, fun g k q => h4 g k q⟩
theorem setL (X : Cx) : PSO X sLst := fun pins s σ H x y z ov iv u Q I ro ri rz ⟨node, d, o, Fo, G, node', rn, td, rg, nd, hf, q⟩ => by
  unfold sLst at hf
  split at hf
  · rename_i ls i
    cases e : ixN ls.length i with
    | none => rw [e] at hf; cases hf
    | some j =>
      rw [e] at hf
      cases hf
      obtain ⟨a, ys, F, rfl, rfl, h, t⟩ := rn.lst_of
      have hj : j < ls.length := (ixN_seq e).2.1
      obtain ⟨Fo, R, p, k⟩ := t.put hj
      have nd' := nd
      rw [List.cons_append, List.nodup_cons, List.mem_append, not_or] at nd'
      obtain ⟨⟨n1, n2⟩, n3⟩ := nd'
      obtain ⟨k1, k2, k3⟩ := nd_app.mp n3
      have m : Mut (H a) := by rw [h]; exact True.intro
      have aR : a ∉ R := fun z => n1 (p.mem_iff.mpr (List.mem_append_right _ z))
      obtain ⟨F2, t2, p2⟩ := k (upd_grow (u' := .lst (ys.set j z)) m) (fun x mx => upd_ne fun z => aR (z ▸ mx)) (keep1 (u' := .lst (ys.set j z)) m n2 rg)
      have sub : ∀ x ∈ F2, x ∈ G ∨ x ∈ R := fun x mx => List.mem_append.mp (p2.mem_iff.mp mx)
      obtain ⟨l1, l2, l3⟩ := nd_app.mp (p.nodup_iff.mp k1)
      have inF : ∀ x ∈ R, x ∈ F := fun x mx => p.mem_iff.mpr (List.mem_append_right _ mx)
      refine set_list pins s σ H (.ref a) y z ov iv u Q I ro ri rz ⟨a, ys, i, j, rfl, td.int_of, h, by rw [t.length]; exact e, q _ (a :: F2) (.lst upd_same t2) (List.nodup_cons.mpr ⟨fun z => (sub a z).elim n2 aR, p2.nodup_iff.mpr (nd_app.mpr ⟨k2, l2, fun x mx z => k3 x (inF x z) mx⟩)⟩) (upd_step m (List.mem_append_left _ List.mem_cons_self) fun x mx => ?_)⟩
      rcases List.mem_cons.mp mx with mx | mx
      · rw [mx]; exact List.mem_append_left _ List.mem_cons_self
      · rcases sub x mx with mx | mx
        · exact List.mem_append_right _ mx
        · exact List.mem_append_left _ (List.mem_cons_of_mem _ (inF x mx))
  · cases hf
end
end Z
set_option Elab.async false
set_option linter.all false
set_option maxRecDepth 100000
set_option maxHeartbeats 1000000
/-! Z11: dicts written. -/
namespace Z
open PySem PySem.Spec PyProof.Rows L2

/-- d[k] = o -/
def tput (kvs : List (NestedKey × O)) (k : NestedKey) (o : O) : List (NestedKey × O) := if (look kvs k).isSome = true then putF k o kvs else kvs ++ [(k, o)]
theorem look_mem {α : Type} {k : NestedKey} {z : α} : ∀ {es : List (NestedKey × α)}, look es k = some z → k ∈ es.map (·.1)
  | [], h => by cases h
  | p :: r, h => by
    by_cases e : p.1 = k
    · exact List.mem_cons.mpr (.inl e.symm)
    · rw [look_neg e] at h
      exact List.mem_cons_of_mem _ (look_mem h)
theorem map_putF {k : NestedKey} {v : V} {kv z : V} : ∀ {es : Es}, (es.map (·.1)).Nodup → look es k = some (kv, z) → es.map (fun p => if p.1 = k then (p.1, (p.2.1, v)) else p) = putF k (kv, v) es
  | [], _, h => by cases h
  | p :: r, n, h => by
    rw [List.map_cons, List.nodup_cons] at n
    by_cases e : p.1 = k
    · rw [look_pos e] at h
      have e2 : p.2 = (kv, z) := Option.some.inj h
      have : r.map (fun p => if p.1 = k then (p.1, (p.2.1, v)) else p) = r := by
        rw [List.map_congr_left (g := id)]
        · simp
        · intro q hq
          have : ¬ q.1 = k := fun z => n.1 (by rw [e, ← z]; exact List.mem_map.mpr ⟨q, hq, rfl⟩)
          rw [if_neg this]; rfl
      rw [List.map_cons, if_pos e, putF, if_pos e, this, e2]
    · rw [look_neg e] at h
      rw [List.map_cons, if_neg e, putF, if_neg e, map_putF n.2 h]
theorem eput_there {k : NestedKey} {y v kv z : V} {es : Es} (n : (es.map (·.1)).Nodup) (h : look es k = some (kv, z)) : eput es k y v = putF k (kv, v) es := by
  unfold eput store
  rw [look_any, h]
  exact map_putF n h
theorem eput_new {k : NestedKey} {y v : V} {es : Es} (h : look es k = none) : eput es k y v = es ++ [(k, y, v)] := by
  unfold eput store
  rw [look_any, h]
  rfl
section
variable {X : Cx} {pins : List (Addr × Obj)} {σ : L2.St} {H : Hp} {s : Shared} {a : Addr} {es : Es} {k : NestedKey} {y v : V} {uy uv : Value}
theorem ent_nodup {u : HO} (I : Inv X pins σ H s) (d : Rd H a u) (e : Ent X.prog X.w a u es) : (es.map (·.1)).Nodup := by
  cases e with
  | dK kvs =>
    obtain ⟨_, _, vs, rel, o, es, ep, h1, h2, h3, h4, h5, h6⟩ := dk_rd I.hok d
    rw [← rel.keys] at h6
    rw [List.map_map]
    have : (fun x : NestedKey × V × V => x.1) ∘ (fun p : L2.Key × V => (nkK p.1, kV p.1, p.2)) = nkK ∘ (·.1) := rfl
    rw [this, ← List.map_map]
    unfold List.Nodup at h6 ⊢
    rw [List.pairwise_map]
    exact h6.imp fun h z => h (nk_inj.mp z)
  | dN kvs _ _ _ =>
    obtain ⟨⟨_, _, zs, rel, o, es, ep, h1, h2, h3, h4, h5⟩, _⟩ := (show ObjOk X.prog X.w H s.heap a (HoN X.prog X.w a kvs) from d.ok I.hok)
    rw [List.map_map]
    have : (fun x : NestedKey × V × V => x.1) ∘ (fun p : NestedKey × Addr × V => (p.1, V.ref p.2.1, p.2.2)) = (·.1) := rfl
    rw [this]
    have e2 : ∀ {l : List (NestedKey × Addr × V)} {m : List (NestedKey × Addr × Value)}, Paired (fun (p : NestedKey × Addr × V) (q : NestedKey × Addr × Value) => p.1 = q.1 ∧ p.2.1 = q.2.1 ∧ RelV p.2.2 q.2.2) l m → l.map (·.1) = m.map (·.1) := by
      intro l m q
      induction q with
      | nil => rfl
      | cons h _ ih => rw [List.map_cons, List.map_cons, ih, h.1]
    rw [e2 rel]
    exact h5
/-- d.setdefault(k, x), keys whole numbers or texts -/
theorem d_setd {kvs : List (L2.Key × V)} {q : L2.Key} {A : Around} {E : Value → Shared → Prop} {Q : Value → Shared → Prop} (I : Inv X pins σ H s) (e : H a = some (.dK kvs)) (ry : RelV (kV q) uy) (rv : RelV v uv) (hz : kvs.length < sizeLine)
    (h1 : ∀ z w' s', valV kvs q = some z → Inv X pins σ H s' → RelV z w' → Q w' s') (h2 : ∀ s', valV kvs q = none → Inv X pins σ (upd H a (.dK (putK kvs q v))) s' → Q uv s') : wpAny (model X.prog X.w) A (call (.builtin "dict.setdefault") [.ref a, uy, uv]) Q E s := by
  obtain ⟨z, hd, vs, rel, dd⟩ := dk_of I.hok e
  have hsz : vs.length ≤ sizeLine := by rw [← rel.length]; exact z
  have el := rel.val q
  refine call_meetsIn PySem.F.slot_dict_setdefault dd.typeIs PySem.F.entry_dict_setdefault (PySem.F.args_dict_setdefault_3 _ _ _) (kt_meets_setdefault (mixKind X.prog X.w) a (kV_is ry) hd uv) ⟨vs, dd, hsz, fun x hx => ?_, fun hn h' dd' hs => ?_⟩
  · rw [hx] at el
    cases q2 : valV kvs q with
    | none => rw [q2] at el; cases el
    | some z => rw [q2] at el; exact h1 z x _ q2 (I.tok _) el
  · rw [hn] at el
    cases q2 : valV kvs q with
    | some z => rw [q2] at el; cases el
    | none =>
      have hl : (putK kvs q v).length ≤ sizeLine := by have := length_putK kvs q v; omega
      have he : ∃ o, h'.get? a = some o := let ⟨o, _, _, ho, _⟩ := dd'; ⟨o, ho⟩
      exact h2 _ q2 (d_write I (by rw [e]; exact True.intro) hs he (dk_new hl hd (rel.put q rv) dd'))
theorem n_setdA {u : HO} {A : Around} {E : Value → Shared → Prop} {Q : Value → Shared → Prop} (hu : A.units + 64 < cLine) (I : Inv X pins σ H s) (d : H a = some u) (e : Ent X.prog X.w a u es) (tk : Keys X H es) (t : TX X H y k.data) (ry : RelV y uy) (rv : RelV v uv) (ok : okKey es k = true) (hz : es.length < sizeLine)
    (h1 : ∀ z w' s', look es k = some z → Inv X pins σ H s' → RelV z.2 w' → Q w' s') (h2 : ∀ u' s', look es k = none → Ent X.prog X.w a u' (eput es k y v) → Inv X pins σ (upd H a u') s' → Q uv s') : wpAny (model X.prog X.w) A (call (.builtin "dict.setdefault") [.ref a, uy, uv]) Q E s := by
  rcases ok_cases ok with ⟨q, hq, al⟩ | ⟨ks, rfl, al, h8⟩
  · obtain ⟨kvs, rfl, rfl⟩ := ent_k e al
    have ey := key_v t hq
    subst ey
    rw [List.length_map] at hz
    have el := look_k q kvs
    rw [kK_nk hq] at el
    refine d_setd I d ry rv hz (fun z w' s' hv I' rz => ?_) fun s' hv I' => ?_
    · rw [hv] at el
      obtain ⟨p, hp, hp2⟩ := Option.map_eq_some_iff.mp el
      exact h1 p w' s' hp I' (by rw [hp2]; exact rz)
    · rw [hv] at el
      have hn := Option.map_eq_none_iff.mp el
      refine h2 (.dK (putK kvs q v)) s' hn ?_ I'
      rw [← kK_nk hq, eput_k]
      exact .dK _
  · exact n_setd hu I d e tk t ry rv ok hz rfl h1 h2
/-- d.get(k, x) -/
theorem n_getD {A : Around} {E : Value → Shared → Prop} {Q : Value → Shared → Prop} (hu : A.units + 64 < cLine) (I : Inv X pins σ H s) (d : DAt X H a es) (tk : Keys X H es) (t : TX X H y k.data) (ry : RelV y uy) (rv : RelV v uv) (ok : okKey es k = true)
    (h1 : ∀ z w' s', look es k = some z → Inv X pins σ H s' → RelV z.2 w' → Q w' s') (h2 : ∀ s', look es k = none → Inv X pins σ H s' → Q uv s') : wpAny (model X.prog X.w) A (call (.builtin "dict.get") [.ref a, uy, uv]) Q E s := by
  obtain ⟨u, d, e⟩ := d
  rcases ok_cases ok with ⟨q, hq, al⟩ | ⟨ks, rfl, al, h8⟩
  · obtain ⟨kvs, rfl, rfl⟩ := ent_k e al
    have ey := key_v t hq
    subst ey
    obtain ⟨z, hd, vs, rel, dd⟩ := dk_rd I.hok d
    have el := look_k q kvs
    rw [kK_nk hq] at el
    have ev := rel.val q
    refine call_meetsIn PySem.F.slot_dict_get dd.typeIs PySem.F.entry_dict_get (PySem.F.args_dict_get_3 _ _ _) (meets_dict_get_default (mixKind X.prog X.w) a (kV_is ry) hd uv) ⟨_, dd.mapOf, ?_⟩
    cases q2 : valV kvs q with
    | none =>
      rw [q2] at el ev
      cases q3 : valueAt vs q with
      | some z => rw [q3] at ev; cases ev
      | none => exact h2 _ (Option.map_eq_none_iff.mp el) (I.tok _)
    | some z =>
      rw [q2] at el ev
      obtain ⟨p, hp, hp2⟩ := Option.map_eq_some_iff.mp el
      cases q3 : valueAt vs q with
      | none => rw [q3] at ev; cases ev
      | some w' =>
        rw [q3] at ev
        exact h1 p w' _ hp (I.tok _) (by rw [hp2]; exact ev)
  · obtain ⟨zs, dd, ez, hd, hz⟩ := entH I d e al tk
    obtain ⟨b, rfl, rfl, ki⟩ := key_is I t h8 ry
    have el := ez.look (.tup ks)
    refine call_meetsIn PySem.F.slot_dict_get dd.typeIs PySem.F.entry_dict_get (PySem.F.args_dict_get_3 _ _ _) (meetsH_dict_get_default (nestedKind X.prog X.w) a b hd uv) ⟨room8 hu, .tup ks, zs, ki, dd, ?_⟩
    cases q : look es (.tup ks) with
    | none =>
      rw [q] at el
      cases q3 : atKey zs (.tup ks) with
      | some z => rw [q3] at el; cases el
      | none => exact h2 _ q (I.tok _)
    | some z =>
      rw [q] at el
      cases q3 : atKey zs (.tup ks) with
      | none => rw [q3] at el; cases el
      | some p =>
        rw [q3] at el
        exact h1 z p.2 _ q (I.tok _) el
end

/-! ### stores and methods -/
section
variable {X : Cx} {H : Hp}
theorem ROk.snoc {P : Program} {w : World} {K : PySem.W.Frag} {H : Hp} {k : NestedKey} {kv v : V} {o : O} {G : List Addr} (a : T P w K H kv k.data) (b : RO P w K H v o G) : ∀ {es : Es} {kvs : List (NestedKey × O)} {F : List Addr}, ROk P w K H es kvs F → ROk P w K H (es ++ [(k, kv, v)]) (kvs ++ [(k, o)]) (F ++ G)
  | _, _, _, .nil => by
    have := ROk.cons a b .nil
    rwa [List.append_nil] at this
  | _, _, _, .cons c d t => by
    rw [List.append_assoc]
    exact .cons c d (ROk.snoc a b t)
def sDct : O → PyData → O → Option O
  | .dct kvs, d, o => (nkD d).bind fun k => if okKey kvs k = true ∧ kvs.length < sizeLine then some (.dct (tput kvs k o)) else none
  | _, _, _ => none
theorem RO.dct_of {v : V} {kvs : List (NestedKey × O)} {F : List Addr} (r : RX X H v (.dct kvs) F) : ∃ a u es G, v = .ref a ∧ F = a :: G ∧ H a = some u ∧ Ent X.prog X.w a u es ∧ ROk X.prog X.w X.K H es kvs G := by
  cases r with
  | dct h e t => exact ⟨_, _, _, _, rfl, rfl, h, e, t⟩
/-- a dict's tree behind a store -/
theorem put_fin {a : Addr} {u : HO} {es : Es} {kvs : List (NestedKey × O)} {F G : List Addr} {k : NestedKey} {y z : V} {o : O} (h : H a = some u) (e : Ent X.prog X.w a u es) (t : ROk X.prog X.w X.K H es kvs F) (nd : ((a :: F) ++ G).Nodup) (nk : (es.map (·.1)).Nodup) (ty : TX X H y k.data) (rz : RX X H z o G)
    {u' : HO} (e' : Ent X.prog X.w a u' (eput es k y z)) : ∃ F', RX X (upd H a u') (.ref a) (.dct (tput kvs k o)) F' ∧ F'.Nodup ∧ Stp ((a :: F) ++ G) H F' (upd H a u') := by
  have nd' := nd
  rw [List.cons_append, List.nodup_cons, List.mem_append, not_or] at nd'
  obtain ⟨⟨n1, n2⟩, n3⟩ := nd'
  obtain ⟨k1, k2, k3⟩ := nd_app.mp n3
  have m : Mut (H a) := by rw [h]; exact e.mut
  have g : Grow H (upd H a u') := upd_grow m
  have rz' := keep1 (u' := u') m n2 rz
  unfold tput
  have ln := t.lookN (k := k)
  cases q : look kvs k with
  | none =>
    rw [q] at ln
    have hn : look es k = none := by
      cases q2 : look es k with
      | none => rfl
      | some _ => rw [q2] at ln; cases ln
    rw [eput_new hn] at e'
    refine ⟨a :: (F ++ G), ?_, nd, upd_step m (List.mem_append_left _ List.mem_cons_self) (by simp)⟩
    exact .dct upd_same e' (ROk.snoc (ty.grow g) rz' (t.keep g fun x mx => upd_ne fun z => n1 (z ▸ mx)))
  | some c =>
    obtain ⟨kv, z0, Fo, R, h1, h2, h3, h4⟩ := t.get q
    rw [eput_there nk h1] at e'
    have aR : a ∉ R := fun z => n1 (h3.mem_iff.mpr (List.mem_append_right _ z))
    obtain ⟨F2, t2, p2⟩ := h4 g (fun x mx => upd_ne fun z => aR (z ▸ mx)) rz'
    have sub : ∀ x ∈ F2, x ∈ G ∨ x ∈ R := fun x mx => List.mem_append.mp (p2.mem_iff.mp mx)
    obtain ⟨l1, l2, l3⟩ := nd_app.mp (h3.nodup_iff.mp k1)
    have inF : ∀ x ∈ R, x ∈ F := fun x mx => h3.mem_iff.mpr (List.mem_append_right _ mx)
    refine ⟨a :: F2, .dct upd_same e' t2, List.nodup_cons.mpr ⟨fun z => (sub a z).elim n2 aR, p2.nodup_iff.mpr (nd_app.mpr ⟨k2, l2, fun x mx z => k3 x (inF x z) mx⟩)⟩, upd_step m (List.mem_append_left _ List.mem_cons_self) fun x mx => ?_⟩
    rcases List.mem_cons.mp mx with mx | mx
    · rw [mx]; exact List.mem_append_left _ List.mem_cons_self
    · rcases sub x mx with mx | mx
      · exact List.mem_append_right _ mx
      · exact List.mem_append_left _ (List.mem_cons_of_mem _ (inF x mx))
theorem setD (hu : X.A.units + 64 < cLine) : PSO X sDct := fun pins s σ H x y z ov iv u Q I ro ri rz ⟨node, d, o, Fo, G, node', rn, td, rg, nd, hf, q⟩ => by
  unfold sDct at hf
  split at hf
  · rename_i kvs
    cases e : nkD d with
    | none => rw [e] at hf; cases hf
    | some k =>
      simp only [e, Option.bind_some] at hf
      split at hf
      · rename_i hc
        cases hf
        obtain ⟨a, u0, es, F, rfl, rfl, h, en, t⟩ := rn.dct_of
        cases ro
        rw [← nkD_ok e] at td
        have nk := ent_nodup I (.inl h) en
        refine n_set hu I h en t.keys td ri rz (by rw [t.okKey]; exact hc.1) (by rw [t.length]; exact hc.2) fun u' s' e' I' => ?_
        obtain ⟨F', a1, a2, a3⟩ := put_fin h en t nd nk td rg e'
        exact ⟨_, I', q _ F' a1 a2 a3⟩
      · cases hf
  · cases hf
/-- d.get(k), d.get(k, x): data -/
def fGet : O → List O → Option (O × O)
  | .dct kvs, [.dat d, .dat x] => (nkD d).bind fun k => if okKey kvs k = true then (match look kvs k with
    | none => some (.dat x, .dct kvs)
    | some (.dat z) => some (.dat z, .dct kvs)
    | _ => none) else none
  | _, _ => none
theorem oGet (hu : X.A.units + 64 < cLine) : MtO X "dict.get" fGet := fun pins s σ H x xs v us Q I rx rs ⟨node, os, Fo, G, r, node', rn, rg, nd, hf, q⟩ => by
  unfold fGet at hf
  split at hf
  · rename_i kvs d x0
    cases e : nkD d with
    | none => rw [e] at hf; cases hf
    | some k =>
      simp only [e, Option.bind_some] at hf
      split at hf
      · rename_i hc
        obtain ⟨a, u0, es, F, rfl, rfl, h, en, t⟩ := rn.dct_of
        cases rx
        obtain ⟨y, z, G1, G2, rfl, ry, rz, rfl⟩ := rg.two_of
        obtain ⟨rfl, ty⟩ := RO.flat ry
        obtain ⟨rfl, tz⟩ := RO.flat rz
        rw [← nkD_ok e] at ty
        cases rs with
        | cons ru1 rs =>
          cases rs with
          | cons ru2 rs =>
            cases rs
            refine n_getD hu I ⟨u0, .inl h, en⟩ t.keys ty ru1 ru2 (by rw [t.okKey]; exact hc) (fun p w' s' hp I' rp => ?_) fun s' hn I' => ?_
            · have ln := t.lookN (k := k)
              rw [hp] at ln
              cases q2 : look kvs k with
              | none => rw [q2] at ln; cases ln
              | some c =>
                rw [q2] at hf
                obtain ⟨kv, z0, Fo, R, h1, h2, h3, _⟩ := t.get q2
                rw [hp] at h1
                cases h1
                cases c with
                | dat zd =>
                  cases hf
                  obtain ⟨rfl, tzd⟩ := RO.flat h2
                  exact ⟨z0, H, I', rp, q _ H (a :: F) [] (.dct h en t) (.dat tzd) (by simpa using nd) ((Stp.refl _ _).sub fun x mx => by simpa using mx)⟩
                | lst _ => cases hf
                | dct _ => cases hf
            · have ln := t.lookN (k := k)
              rw [hn] at ln
              cases q2 : look kvs k with
              | some c => rw [q2] at ln; cases ln
              | none =>
                rw [q2] at hf
                cases hf
                exact ⟨z, H, I', ru2, q _ H (a :: F) [] (.dct h en t) (.dat tz) (by simpa using nd) ((Stp.refl _ _).sub fun x mx => by simpa using mx)⟩
      · cases hf
  · cases hf
end
end Z
set_option Elab.async false
set_option linter.all false
set_option maxRecDepth 100000
set_option maxHeartbeats 1000000
/-! Z12: d.setdefault(k, x) as a place. -/
namespace Z
open PySem PySem.Spec PyProof.Rows L2

theorem look_putF {k : NestedKey} {c c' : O} : ∀ {kvs : List (NestedKey × O)}, look kvs k = some c → look (putF k c' kvs) k = some c'
  | [], h => by cases h
  | p :: r, h => by
    by_cases e : p.1 = k
    · rw [putF, if_pos e]; exact look_pos e
    · rw [look_neg e] at h
      rw [putF, if_neg e, look_neg e]
      exact look_putF h
theorem putF_putF {k : NestedKey} {c' c'' : O} : ∀ {kvs : List (NestedKey × O)}, putF k c'' (putF k c' kvs) = putF k c'' kvs
  | [] => rfl
  | p :: r => by
    by_cases e : p.1 = k
    · rw [putF, if_pos e, putF, if_pos e, putF, if_pos e]
    · rw [putF, if_neg e, putF, if_neg e, putF, if_neg e, putF_putF]
theorem putF_keys {k : NestedKey} {c' : O} : ∀ {kvs : List (NestedKey × O)}, (putF k c' kvs).map (·.1) = kvs.map (·.1)
  | [] => rfl
  | p :: r => by
    by_cases e : p.1 = k
    · rw [putF, if_pos e]; rfl
    · rw [putF, if_neg e, List.map_cons, List.map_cons, putF_keys]
theorem okKey_keys {α β : Type} {es : List (NestedKey × α)} {fs : List (NestedKey × β)} (h : es.map (·.1) = fs.map (·.1)) (k : NestedKey) : okKey es k = okKey fs k := by
  rw [okKey_map es, okKey_map fs, h]
theorem at1_put1 {t c c' : O} {k : PyData} (h : at1 t k = some c) : at1 (put1 t k c') k = some c' := by
  cases t with
  | dat _ => cases h
  | lst os =>
    cases k with
    | int i =>
      obtain ⟨j, h1, h2⟩ := atI_at (show atI os i = some c from h)
      simp only [put1, h1]
      show atI (os.set j c') i = some c'
      rw [atI_of (j := j) (by rw [List.length_set]; exact h1), List.getElem?_set_self (List.getElem?_eq_some_iff.mp h2).1]
    | _ => cases h
  | dct kvs =>
    obtain ⟨k', e1, e2, e3, e4⟩ := dget_some (show dget kvs k = some c from h)
    simp only [put1, e1]
    show dget (putF k' c' kvs) k = some c'
    unfold dget
    rw [e1, Option.bind_some, okKey_keys putF_keys, if_pos e3, look_putF e4]
theorem put1_put1 {t c c' c'' : O} {k : PyData} (h : at1 t k = some c) : put1 (put1 t k c') k c'' = put1 t k c'' := by
  cases t with
  | dat _ => cases h
  | lst os =>
    cases k with
    | int i =>
      obtain ⟨j, h1, h2⟩ := atI_at (show atI os i = some c from h)
      simp only [put1, h1, List.length_set, List.set_set]
    | _ => cases h
  | dct kvs =>
    obtain ⟨k', e1, e2, e3, e4⟩ := dget_some (show dget kvs k = some c from h)
    simp only [put1, e1, putF_putF]
theorem atP_putP : ∀ {p : List PyData} {t node n' : O}, atP t p = some node → atP (putP t p n') p = some n'
  | [], t, node, n', h => rfl
  | q :: p, t, node, n', h => by
    simp only [atP] at h
    cases e : at1 t q with
    | none => rw [e] at h; cases h
    | some d =>
      simp only [e, Option.bind_some] at h
      simp only [putP, e, atP, at1_put1 e, Option.bind_some]
      exact atP_putP h
theorem putP_putP : ∀ {p : List PyData} {t node n' n'' : O}, atP t p = some node → putP (putP t p n') p n'' = putP t p n''
  | [], t, node, n', n'', h => rfl
  | q :: p, t, node, n', n'', h => by
    simp only [atP] at h
    cases e : at1 t q with
    | none => rw [e] at h; cases h
    | some d =>
      simp only [e, Option.bind_some] at h
      simp only [putP, e, at1_put1 e, putP_putP h, put1_put1 e]

section
variable {X : Cx} {H : Hp} {pv : Pv} {σ : L2.St} {ev : Ev} {F : List Addr}
/-- a sight of what the slot's tree has become -/
theorem Rp.review {H' : Hp} {i : Nat} {Ft R F' : List Addr} {t' o' : O} {v0 : V} (r : Rp X H (pv.with i Ft) σ ev R) (e : ev[i]? = some (.ro t')) (hv : σ[i]? = some (some v0))
    (g : Grow H H') (k : ∀ a ∈ R, H' a = H a) (kw : ∀ a ∈ pv.W, H' a = H a) (off : ∀ a ∈ pv.W, a ∉ R) (mu : ∀ a ∈ pv.W, Mut (H a)) (nd : (F' ++ R).Nodup) (ro : RX X H' v0 o' F') : Rp X H' (pv.with i F') σ (ev.set i (.ro o')) R := by
  obtain ⟨F0, r0, p0, w⟩ := r
  have hl : i < ev.length := (List.getElem?_eq_some_iff.mp e).1
  obtain ⟨n1, n2, n3⟩ := nd_app.mp nd
  refine ⟨F0, ?_, p0, fun a m z => ?_, fun a m => ?_, w.tb.grow g, fun j o z => ?_⟩
  · rw [core_set]
    have e2 : (ev.map Sl.core).set i .un = ev.map Sl.core := by
      apply List.ext_getElem?
      intro n
      by_cases q : i = n
      · subst q
        rw [List.getElem?_set_self (by simpa using hl), core_get e]
        rfl
      · rw [List.getElem?_set_ne q]
    show RE _ _ _ _ _ _ ((ev.map Sl.core).set i .un) _
    rw [e2]
    exact r0.keep g fun a m => k a (p0.mem_iff.mp m)
  · rcases Pv.with_mem m with m | m
    · exact n3 a m z
    · exact off a m z
  · rcases Pv.with_mem m with m | m
    · exact ro.mut a m
    · rw [kw a m]; exact mu a m
  · by_cases q : i = j
    · subst q
      rw [List.getElem?_set_self hl] at z
      cases z
      exact ⟨v0, F', hv, ro, n1, fun a m => by show a ∈ if i = i then F' else _; rw [if_pos rfl]; exact m⟩
    · rw [List.getElem?_set_ne q] at z
      obtain ⟨v, Fo, a1, a2, a3, a4⟩ := w.see j o z
      have a5 : ∀ a ∈ Fo, a ∈ pv.W.f j := fun a m => by
        have := a4 a m
        have this : a ∈ if j = i then Ft else pv.W.f j := this
        rwa [if_neg (Ne.symm q)] at this
      exact ⟨v, Fo, a1, a2.keep g fun a m => kw a ⟨j, a5 a m⟩, a3, fun a m => by show a ∈ if j = i then F' else _; rw [if_neg (Ne.symm q)]; exact a5 a m⟩
/-- the node is written, and is still in the hand -/
theorem Foc.go {H1 H2 : Hp} {F1 R2 G : List Addr} {i : Nat} {p : List PyData} {v : V} {sl : Sl} {t node t' : O} {v0 : V} {Ft R Fo Rt : List Addr} {ev1 e2 : Ev} (f : Foc X H1 pv σ ev1 F1 i p v sl t node v0 Ft R Fo Rt) (r1 : Rp X H1 pv σ ev1 F1) (n1 : F1.Nodup)
    (r2 : Rp X H2 (pv.with i Ft) σ e2 R2) (mG : ∀ a ∈ G, Mut (H2 a)) (n2 : (R2 ++ G).Nodup) (s2 : Stp R H1 (R2 ++ G) H2) (er : e2[i]? = some (.ro t')) :
    RX X H2 v node Fo ∧ (Fo ++ G).Nodup ∧ ∀ {o' : O} {H' : Hp} {F' : List Addr}, RX X H' v o' F' → F'.Nodup → Stp (Fo ++ G) H2 F' H' →
      ∃ F2, Rp X H' pv σ (e2.set i (sl.put (putP t p o'))) (F2 ++ R2) ∧ (F2 ++ R2).Nodup ∧ Stp F1 H1 (F2 ++ R2) H' ∧ Foc X H' pv σ (e2.set i (sl.put (putP t p o'))) (F2 ++ R2) i p v (sl.put (putP t p o')) (putP t p o') o' v0 F2 R2 F' Rt := by
  obtain ⟨nFt, nR, nX⟩ := nd_app.mp (f.pF.nodup_iff.mp n1)
  obtain ⟨nFo, nRt, nY⟩ := nd_app.mp (f.pT.nodup_iff.mp nFt)
  obtain ⟨m1, m2, m3⟩ := nd_app.mp n2
  have g12 : Grow H1 H2 := s2.grow f.vw.mut
  have kFt : ∀ a ∈ Ft, H2 a = H1 a := fun a m => s2.at (nX a m) (f.ro.mut a m)
  have inFt : ∀ a ∈ Fo, a ∈ Ft := fun a m => f.pT.mem_iff.mpr (List.mem_append_left _ m)
  have inFt' : ∀ a ∈ Rt, a ∈ Ft := fun a m => f.pT.mem_iff.mpr (List.mem_append_right _ m)
  have apFt : ∀ a ∈ Ft, a ∉ R2 ++ G := fun a m => s2.apart (nX a m) (f.ro.mut a m)
  have rn2 : RX X H2 v node Fo := f.rn.keep g12 fun a m => kFt a (inFt a m)
  refine ⟨rn2, nd_app.mpr ⟨nFo, m2, fun a m z => apFt a (inFt a m) (List.mem_append_right _ z)⟩, fun {o' H' F'} ro n3 s3 => ?_⟩
  have mFG : ∀ a ∈ Fo ++ G, Mut (H2 a) := fun a m => (List.mem_append.mp m).elim (rn2.mut a) (mG a)
  have g23 : Grow H2 H' := s3.grow mFG
  have mFt : ∀ a ∈ Ft, Mut (H2 a) := fun a m => by rw [kFt a m]; exact f.ro.mut a m
  have nRtG : ∀ a ∈ Rt, a ∉ Fo ++ G := fun a m z => (List.mem_append.mp z).elim (fun z => nY a z m) fun z => apFt a (inFt' a m) (List.mem_append_right _ z)
  have nR2G : ∀ a ∈ R2, a ∉ Fo ++ G := fun a m z => (List.mem_append.mp z).elim (fun z => apFt a (inFt a z) (List.mem_append_left _ m)) (m3 a m)
  have kRt : ∀ a ∈ Rt, H' a = H1 a := fun a m => (s3.at (nRtG a m) (mFt a (inFt' a m))).trans (kFt a (inFt' a m))
  obtain ⟨F2, c1, c2⟩ := f.repl (g12.trans g23) kRt ro
  have wR : ∀ a ∈ pv.W, a ∉ R := fun a m z => r1.off a m (f.pF.mem_iff.mpr (List.mem_append_right _ z))
  have wFt : ∀ a ∈ pv.W, a ∉ Ft := fun a m z => r1.off a m (f.pF.mem_iff.mpr (List.mem_append_left _ z))
  have wM : ∀ a ∈ pv.W, Mut (H2 a) := fun a m => by rw [s2.at (wR a m) (r1.vw.mu a m)]; exact r1.vw.mu a m
  have wA : ∀ a ∈ pv.W, a ∉ R2 ++ G := fun a m => s2.apart (wR a m) (r1.vw.mu a m)
  have wG : ∀ a ∈ pv.W, a ∉ Fo ++ G := fun a m z => (List.mem_append.mp z).elim (fun z => wFt a m (inFt a z)) fun z => wA a m (List.mem_append_right _ z)
  have wN : ∀ a ∈ pv.W, a ∉ F' := fun a m => s3.apart (wG a m) (wM a m)
  have wK : ∀ a ∈ pv.W, H' a = H2 a := fun a m => s3.at (wG a m) (wM a m)
  have kR2 : ∀ a ∈ R2, H' a = H2 a := fun a m => s3.at (nR2G a m) (r2.mut a m)
  have wF2 : ∀ a ∈ pv.W, a ∉ F2 := fun a m z => by
    rcases List.mem_append.mp (c2.mem_iff.mp z) with z | z
    · exact wN a m z
    · exact wFt a m (inFt' a z)
  have r3 := r2.unview (H' := H') (sl := sl) (o' := putP t p o') (F' := F2) er f.hv f.pin ⟨_, f.ht⟩ g23 kR2 wK (fun a m z => wA a m (List.mem_append_left _ z)) wM wF2 c1
  have pA : (F2 ++ R2).Perm ((F' ++ Rt) ++ R2) := c2.append_right R2
  have apRt : ∀ a ∈ Rt, a ∉ F' := fun a m => s3.apart (nRtG a m) (mFt a (inFt' a m))
  have apR2 : ∀ a ∈ R2, a ∉ F' := fun a m => s3.apart (nR2G a m) (r2.mut a m)
  have nn : ((F' ++ Rt) ++ R2).Nodup := nd_app.mpr ⟨nd_app.mpr ⟨n3, nRt, fun a m z => apRt a z m⟩, m1, fun a m z => (List.mem_append.mp m).elim (fun m => apR2 a z m) fun m => apFt a (inFt' a m) (List.mem_append_left _ z)⟩
  have n4 : (F2 ++ R2).Nodup := pA.nodup_iff.mpr nn
  have hl : i < e2.length := (List.getElem?_eq_some_iff.mp er).1
  have hs : (sl.put (putP t p o')).tree = some (putP t p o') := by
    have := f.ht
    cases sl <;> first | rfl | cases this
  refine ⟨F2, r3, n4, ?_, ?_, hs, f.hv, fun o z => ?_, c1, List.Perm.refl _, ?_, atP_putP f.hp, c2, ro, fun {H'' o'' F''} g kp rr => ?_⟩
  · have q1 : Stp F1 H1 (Ft ++ (R2 ++ G)) H2 := (s2.more Ft).wide fun a m => f.pF.mem_iff.mpr (List.mem_append.mpr (List.mem_append.mp m))
    have q2 : Stp (Ft ++ (R2 ++ G)) H2 ((Rt ++ R2) ++ F') H' := (s3.more (Rt ++ R2)).wide fun a m => by
      simp only [List.mem_append] at m ⊢
      rcases m with (m | m) | m | m
      · exact .inl (inFt' a m)
      · exact .inr (.inl m)
      · exact .inl (inFt a m)
      · exact .inr (.inr m)
    refine (q1.trans q2).sub fun a m => ?_
    rcases List.mem_append.mp (pA.mem_iff.mp m) with m | m
    · rcases List.mem_append.mp m with m | m <;> simp [m]
    · simp [m]
  · rw [List.getElem?_set_self hl]
  · have := f.ht
    cases sl with
    | par o0 => exact f.pin o0 rfl
    | un => cases this
    | var _ => cases z
    | ro _ => cases this
  · rw [List.set_set]
    exact r2.review er f.hv g23 kR2 wK (fun a m z => wA a m (List.mem_append_left _ z)) wM n4 c1
  · rw [putP_putP f.hp]
    exact f.repl ((g12.trans g23).trans g) (fun a m => (kp a m).trans (kRt a m)) rr
/-- a child of the node in the hand -/
theorem Foc.child {F1 : List Addr} {i : Nat} {p : List PyData} {k : PyData} {v z : V} {sl : Sl} {t node c : O} {v0 : V} {Ft R Fo Rt Fz Rz : List Addr} (f : Foc X H pv σ ev F1 i p v sl t node v0 Ft R Fo Rt) (hc : at1 node k = some c) (b1 : RX X H z c Fz) (b2 : Fo.Perm (Fz ++ Rz))
    (b3 : ∀ {H' : Hp} {c' : O} {F' : List Addr}, Grow H H' → (∀ a ∈ Rz, H' a = H a) → RX X H' z c' F' → ∃ F2, RX X H' v (put1 node k c') F2 ∧ F2.Perm (F' ++ Rz)) : Foc X H pv σ ev F1 i (p ++ [k]) z sl t c v0 Ft R Fz (Rz ++ Rt) :=
  ⟨f.e, f.ht, f.hv, f.pin, f.ro, f.pF, f.vw, by rw [atP_snoc f.hp, hc], (f.pT.trans (b2.append_right Rt)).trans (by rw [List.append_assoc]), b1, fun {H' o' F'} g kp ro => by
    obtain ⟨F2, c1, c2⟩ := b3 g (fun a m => kp a (List.mem_append_left _ m)) ro
    obtain ⟨F3, d1, d2⟩ := f.repl g (fun a m => kp a (List.mem_append_right _ m)) c1
    rw [putP_snoc f.hp hc]
    exact ⟨F3, d1, (d2.trans (c2.append_right Rt)).trans (by rw [List.append_assoc])⟩⟩
end

def lSetd (l : Lv) (ms : M (List O)) : Lv := fun ev => (l ev).bind fun q => (vw1 q.1.1 q.2).bind fun w => (ms w.2.2).bind fun a => if isRo q.1.1 a.2 = true then (match atP w.1 q.1.2, a.1 with
  | some (.dct kvs), [.dat d, dv] => (nkD d).bind fun k => if okKey kvs k = true ∧ kvs.length < sizeLine then (match look kvs k with
    | some _ => some ((q.1.1, q.1.2 ++ [d]), a.2.set q.1.1 (w.2.1 (putP w.1 q.1.2 (.dct kvs))))
    | none => some ((q.1.1, q.1.2 ++ [d]), a.2.set q.1.1 (w.2.1 (putP w.1 q.1.2 (.dct (kvs ++ [(k, dv)])))))) else none
  | _, _ => none) else none
theorem putF_new {k : NestedKey} {o o' : O} : ∀ {kvs : List (NestedKey × O)}, look kvs k = none → putF k o' (kvs ++ [(k, o)]) = kvs ++ [(k, o')]
  | [], _ => by simp [putF]
  | p :: r, h => by
    by_cases e : p.1 = k
    · rw [look_pos e] at h; cases h
    · rw [look_neg e] at h
      rw [List.cons_append, putF, if_neg e, putF_new h, List.cons_append]
theorem look_new {k : NestedKey} {o : O} : ∀ {kvs : List (NestedKey × O)}, look kvs k = none → look (kvs ++ [(k, o)]) k = some o
  | [], _ => look_pos rfl
  | p :: r, h => by
    by_cases e : p.1 = k
    · rw [look_pos e] at h; cases h
    · rw [look_neg e] at h
      rw [List.cons_append, look_neg e, look_new h]
theorem okKey_snoc {kvs : List (NestedKey × O)} {k : NestedKey} {o : O} (h : okKey kvs k = true) : okKey (kvs ++ [(k, o)]) k = true := by
  unfold okKey at h ⊢
  cases k with
  | num _ => simpa [isTup] using h
  | text _ => simpa [isTup] using h
  | tup ks => simpa [isTup] using h
  | none => cases h
section
variable {X : Cx} {e : Expr} {es : List Expr} {o : Expr} {apos cpos : Pos} {l : Lv} {ms : M (List O)}
def rSd (X : Cx) : V → List V → Hp → VK → Prop := fun x xs H Q => ∃ a es u k y w, x = V.ref a ∧ xs = [y, w] ∧ H a = some u ∧ Ent X.prog X.w a u es ∧ Keys X H es ∧ TX X H y (NestedKey.data k) ∧ okKey es k = true ∧ es.length < sizeLine ∧ (∀ z, look es k = some z → Q z.2 H) ∧ (look es k = none → ∀ u', Ent X.prog X.w a u' (eput es k y w) → Q w (upd H a u'))
theorem mt_setd (hu : X.A.units + 64 < cLine) : MtR X "dict.setdefault" (rSd X) := fun pins s σ H x xs v us Q I rx rs ⟨a, es, u, k, y, w, e1, e2, h1, h2, h3, h4, h5, h6, q1, q2⟩ => by
  subst e1 e2
  cases rx
  cases rs with
  | cons ru1 rs =>
    cases rs with
    | cons ru2 rs =>
      cases rs
      exact n_setdA hu I h1 h2 h3 h4 ru1 ru2 h5 h6 (fun z w' s' hz I' rz => ⟨z.2, H, I', rz, q1 z hz⟩) fun u' s' hn e' I' => ⟨w, _, I', ru2, q2 hn u' e'⟩
theorem zlSetd (hu : X.A.units + 64 < cLine) (ho : PE X o (tL X l)) (ha : PA X (e :: es) (tMs X ms))
    (hbase : attributeBase o "setdefault" X.env (eval o X.env) = eval o X.env := by rfl)
    (hfew : ((backTo cpos (starEach (e :: es) X.env)).all (fun x => !x.1) && (backToKw cpos (keywordEach [] X.env)).all (fun x => x.1.isSome)
      && decide ((e :: es).length + ([] : List Keyword).length + (if ([] : List Keyword).isEmpty then 0 else 1) < 30)) = true := by rfl)
    (hline : (apos.endLine == cpos.line) = true := by rfl) (hs : starEach (e :: es) X.env = (false, eval e X.env) :: starEach es X.env := by rfl) (hplain : (backTo cpos (starEach es X.env)).any (·.1) = false := by rfl) :
    PE X (.Call (.Attribute o "setdefault" apos) (e :: es) [] cpos) (tL X (lSetd l ms)) := PEimp (pe_bm' PySem.F.plainAttrs_dict PySem.F.slot_dict_setdefault PySem.F.type_dict_setdefault (mt_setd hu) ho ha hbase hfew hline hs hplain) fun σ H Q h => by
  obtain ⟨pv, ev, F, i, p, ev', r, nd, hm, q⟩ := h
  unfold lSetd at hm
  cases e1 : l ev with
  | none => rw [e1] at hm; cases hm
  | some q0 =>
    obtain ⟨⟨i0, p0⟩, ev1⟩ := q0
    simp only [e1, Option.bind_some] at hm
    cases e2 : vw1 i0 ev1 with
    | none => rw [e2] at hm; cases hm
    | some w =>
      simp only [e2, Option.bind_some] at hm
      obtain ⟨sl, a1, a2, a3, a4⟩ := vw1_some e2
      cases e3 : ms w.2.2 with
      | none => rw [e3] at hm; cases hm
      | some a =>
        simp only [e3, Option.bind_some] at hm
        split at hm
        · rename_i hro
          split at hm
          · rename_i kvs d dv hnode hargs
            cases ek : nkD d with
            | none => rw [ek] at hm; cases hm
            | some k =>
              simp only [ek, Option.bind_some] at hm
              split at hm
              · rename_i hc
                refine ⟨pv, ev, F, i0, p0, ev1, r, nd, e1, fun v H1 F1 sl' t node v0 Ft R Fo Rt r1 n1 s1 f => ?_⟩
                have : sl' = sl := by have := f.e; rw [a1] at this; cases this; rfl
                subst this
                have ht : t = w.1 := by have := f.ht; rw [a2] at this; cases this; rfl
                subst ht
                have : node = .dct kvs := by have := f.hp; rw [hnode] at this; cases this; rfl
                subst this
                rw [a3] at e3
                refine ⟨tyO_ok f.rn rfl, pv.with i0 Ft, _, R, a.1, a.2, f.vw, (nd_app.mp (f.pF.nodup_iff.mp n1)).2.1, e3, fun vs H2 R2 G r2 rs n2 s2 => ?_⟩
                rw [hargs] at rs
                obtain ⟨t', er⟩ := isRo_some hro
                obtain ⟨y, z, G1, G2, rfl, ry, rz, rfl⟩ := rs.two_of
                obtain ⟨rfl, ty⟩ := RO.flat ry
                have mG : ∀ x ∈ [] ++ G2, Mut (H2 x) := fun x m => rz.mut x (by simpa using m)
                obtain ⟨b1, b2, b3⟩ := f.go r1 n1 r2 mG n2 s2 er
                rw [List.nil_append] at b2 b3
                obtain ⟨ad, u, es, Fd, rfl, rfl, hH, en, tk⟩ := b1.dct_of
                have ed := nkD_ok ek
                rw [← ed] at ty
                refine ⟨ad, es, u, k, y, z, rfl, rfl, hH, en, tk.keys, ty, by rw [tk.okKey]; exact hc.1, by rw [tk.length]; exact hc.2, fun zz hz => ?_, fun hn u' e' => ?_⟩
                · have ln := tk.lookN (k := k)
                  rw [hz] at ln
                  cases q2 : look kvs k with
                  | none => rw [q2] at ln; cases ln
                  | some c =>
                    rw [q2] at hm
                    cases hm
                    have nFo := (nd_app.mp b2).1
                    obtain ⟨F2, c1, c2, c3, c4⟩ := b3 (o' := .dct kvs) b1 nFo ((Stp.refl _ _).sub fun x m => List.mem_append_left _ m)
                    obtain ⟨a', u2, es2, kv, z2, Fz, Rz, G3, e6, e7, e8, e9, e10, e11, e12, e13, e14, e15⟩ := b1.entry q2
                    rw [← a4] at q
                    obtain ⟨kv3, z3, Fz3, Rz3, d1, d2, d3, d4⟩ := tk.get q2
                    rw [hz] at d1
                    have d1 := Option.some.inj d1
                    have hat : at1 (.dct kvs) d = some c := by
                      show dget kvs d = some c
                      unfold dget
                      rw [ek, Option.bind_some, if_pos hc.1, q2]
                    refine q zz.2 H2 _ _ _ c v0 F2 R2 Fz3 ((ad :: Rz3) ++ Rt) c1 c2 (s1.trans c3) (c4.child (Fz := Fz3) (Rz := ad :: Rz3) hat ?_ ?_ fun {H' c' F'} g kp rr => ?_)
                    · rw [d1]; exact d2
                    · exact (List.Perm.cons ad d3).trans List.perm_middle.symm
                    · rw [d1] at rr
                      rw [d1] at hz
                      obtain ⟨F5, x1, x2⟩ := d4 g (fun x m => kp x (List.mem_cons_of_mem _ m)) rr
                      rw [putF_self hz] at x1
                      simp only [put1, ek]
                      exact ⟨ad :: F5, .dct ((kp ad List.mem_cons_self).trans hH) en x1, (List.Perm.cons ad x2).trans List.perm_middle.symm⟩
                · have ln := tk.lookN (k := k)
                  rw [hn] at ln
                  cases q2 : look kvs k with
                  | some c => rw [q2] at ln; cases ln
                  | none =>
                    rw [q2] at hm
                    cases hm
                    have b2' := b2
                    rw [List.cons_append, List.nodup_cons, List.mem_append, not_or] at b2'
                    obtain ⟨⟨m1, m2⟩, m3⟩ := b2'
                    obtain ⟨k1, k2, k3⟩ := nd_app.mp m3
                    have mm : Mut (H2 ad) := by rw [hH]; exact en.mut
                    have g : Grow H2 (upd H2 ad u') := upd_grow mm
                    rw [eput_new hn] at e'
                    have rz' := keep1 (u' := u') mm m2 rz
                    have tk' : ROk X.prog X.w X.K (upd H2 ad u') es kvs Fd := tk.keep g fun x mx => upd_ne fun z => m1 (z ▸ mx)
                    have rn' : RX X (upd H2 ad u') (.ref ad) (.dct (kvs ++ [(k, dv)])) (ad :: (Fd ++ G2)) := .dct upd_same e' (ROk.snoc (ty.grow g) rz' tk')
                    obtain ⟨F2, c1, c2, c3, c4⟩ := b3 (o' := .dct (kvs ++ [(k, dv)])) rn' (by simpa using b2) (upd_step mm (List.mem_append_left _ List.mem_cons_self) (by simp))
                    rw [← a4] at q
                    have hat : at1 (.dct (kvs ++ [(k, dv)])) d = some dv := by
                      show dget _ d = some dv
                      unfold dget
                      rw [ek, Option.bind_some, if_pos (okKey_snoc hc.1), look_new q2]
                    refine q z _ _ _ _ dv v0 F2 R2 G2 ((ad :: Fd) ++ Rt) c1 c2 (s1.trans c3) (c4.child (Fz := G2) (Rz := ad :: Fd) hat rz' ?_ fun {H' c' F'} g' kp rr => ?_)
                    · exact (List.perm_append_comm (l₁ := ad :: Fd) (l₂ := G2))
                    · simp only [put1, ek]
                      rw [putF_new q2]
                      refine ⟨ad :: (Fd ++ F'), .dct ((kp ad List.mem_cons_self).trans upd_same) e' (ROk.snoc ((ty.grow g).grow g') rr (tk'.keep g' fun x m => kp x (List.mem_cons_of_mem _ m))), ?_⟩
                      exact (List.perm_append_comm (l₁ := ad :: Fd) (l₂ := F'))
              · cases hm
          · cases hm
        · cases hm
end
end Z
set_option Elab.async false
set_option linter.all false
set_option maxRecDepth 100000
set_option maxHeartbeats 1000000
/-! Z13: parallel and augmented assignments, calls of builtins with one argument, slices, range. -/
namespace Z
open PySem PySem.Spec PyProof.Rows L2

section
variable {X : Cx} {pos : Pos} {a b c e : Expr} {es : List Expr} {m : M O} {ms : M (List O)} {pv : Pv} {σ : L2.St} {H : Hp} {ev e1 : Ev} {F : List Addr}
/-- the trees of a row, stored into slots -/
def putAll : List Nat → List O → Ev → Option Ev
  | [], [], ev => some ev
  | i :: is, o :: os, ev => (mPut i o ev).bind fun e => putAll is os e
  | _, _, _ => none
def setAll : List Nat → List V → L2.St → L2.St
  | i :: is, v :: vs, σ => setAll is vs (σ.set i (some v))
  | _, _, σ => σ
theorem putAll_ok : ∀ {is : List Nat} {vs : List V} {os : List O} {σ : L2.St} {ev ev' : Ev} {F G : List Addr}, Rp X H pv σ ev F → RsX X H vs os G → (F ++ G).Nodup → (∀ a ∈ pv.W, a ∉ G) → putAll is os ev = some ev' →
    ∃ F', Rp X H pv (setAll is vs σ) ev' F' ∧ F'.Nodup ∧ ∀ a ∈ F', a ∈ F ++ G
  | [], _, _, σ, ev, ev', F, _, r, .nil, n, w, h => by
    cases h
    exact ⟨F, r, by simpa using n, by simp⟩
  | i :: is, _, _, σ, ev, ev', F, _, r, @ROs.cons _ _ _ _ v o vs os G1 G2 ro rs, n, w, h => by
    simp only [putAll] at h
    cases e : mPut i o ev with
    | none => rw [e] at h; cases h
    | some e2 =>
      simp only [e, Option.bind_some] at h
      obtain ⟨sl, a1, a2, a3, rfl⟩ := mPut_some e
      obtain ⟨Fo, R, p1, _, p2⟩ := r.store a1 a2 a3
      obtain ⟨na, nb, nc⟩ := nd_app.mp n
      obtain ⟨nb1, nb2, nb3⟩ := nd_app.mp nb
      have inR : ∀ a ∈ R, a ∈ F := fun a m => p1.mem_iff.mpr (List.mem_append_right _ m)
      have nR := (nd_app.mp (p1.nodup_iff.mp na)).2.1
      have r2 := p2 (fun a m z => w a m (List.mem_append_left _ z)) ro
      have n2 : ((G1 ++ R) ++ G2).Nodup := nd_app.mpr ⟨nd_app.mpr ⟨nb1, nR, fun a m z => nc a (inR a z) (List.mem_append_left _ m)⟩, nb2, fun a m z => (List.mem_append.mp m).elim (fun m => nb3 a m z) fun m => nc a (inR a m) (List.mem_append_right _ z)⟩
      obtain ⟨F', b1, b2, b3⟩ := putAll_ok (is := is) r2 rs n2 (fun a m z => w a m (List.mem_append_right _ z)) h
      refine ⟨F', b1, b2, fun a m => ?_⟩
      have := b3 a m
      simp only [List.mem_append] at this ⊢
      rcases this with (q | q) | q
      · exact .inr (.inl q)
      · exact .inl (inR a q)
      · exact .inr (.inr q)
  | [], _, _, _, _, _, _, _, _, .cons _ _, _, _, h => by cases h
  | _ :: _, _, _, _, _, _, _, _, _, .nil, _, _, h => by cases h
def mPar (is : List Nat) (ms : M (List O)) : M Out := fun ev => (ms ev).bind fun p => (putAll is p.1 p.2).map fun e => (.nx, e)
theorem par_read {is : List Nat} {D : Ends} (h : tS X (mPar is ms) D σ H) : tMs X ms σ H fun vs H1 => vs.length = is.length ∧ D.nx (setAll is vs σ) H1 := by
  obtain ⟨pv, ev, F, out, ev', r, nd, hm, q⟩ := h
  unfold mPar at hm
  cases e : ms ev with
  | none => rw [e] at hm; cases hm
  | some p =>
    simp only [e, Option.bind_some] at hm
    cases e2 : putAll is p.1 p.2 with
    | none => rw [e2] at hm; cases hm
    | some ev2 =>
      rw [e2] at hm
      cases hm
      refine ⟨pv, ev, F, p.1, p.2, r, nd, e, fun vs H1 F1 G r1 rs n1 s1 => ?_⟩
      obtain ⟨F', b1, b2, b3⟩ := putAll_ok r1 rs n1 (fun a m z => r.wApart s1 a m (List.mem_append_right _ z)) e2
      refine ⟨?_, q _ H1 F' b1 b2 (s1.sub b3)⟩
      rw [rs.length]
      clear b1 r1 rs n1 s1 q
      revert e2
      generalize p.1 = os
      generalize p.2 = ev0
      induction is generalizing os ev0 with
      | nil => intro h; cases os <;> first | rfl | cases h
      | cons i is ih =>
        intro h
        cases os with
        | nil => cases h
        | cons o os =>
          simp only [putAll] at h
          cases e3 : mPut i o ev0 with
          | none => rw [e3] at h; cases h
          | some e4 =>
            simp only [e3, Option.bind_some] at h
            rw [List.length_cons, List.length_cons, ih _ _ h]
theorem zPar2 {i j : Nat} {x y : Str} {px py pt : Pos} {kt k2 pt2} (hc : X.calm = true) (ha : PA X [a, b] (tMs X ms)) (hN : X.N.Nodup) (hi : X.N[i]? = some x := by rfl) (hj : X.N[j]? = some y := by rfl) (hij : i ≠ j := by decide)
    (hx : X.env.scope.names.lookup x = some .local := by rfl) (hy : X.env.scope.names.lookup y = some .local := by rfl) (hw : swappedStores [.Tuple [.Name x px, .Name y py] kt pt] (.Tuple [a, b] k2 pt2) X.env = pure (some [x, y]) := by rfl)
    (hs : swapsWithSole [.Tuple [.Name x px, .Name y py] kt pt] (.Tuple [a, b] k2 pt2) pos.line X.env = pure false := by rfl) :
    PS X (.Assign [.Tuple [.Name x px, .Name y py] kt pt] (.Tuple [a, b] k2 pt2) pos) (tS X (mPar [i, j] ms)) := PSimp (ps_par hc hN hi hj hij hx hy ha hw hs) fun D σ H h => by
  obtain ⟨pv, ev, F, os, ev', r, nd, hm, q⟩ := par_read h
  refine ⟨pv, ev, F, os, ev', r, nd, hm, fun vs H1 F1 G a1 a2 a3 a4 => ?_⟩
  obtain ⟨hl, q⟩ := q vs H1 F1 G a1 a2 a3 a4
  match vs, hl, q with
  | [v, w], _, q => exact ⟨v, w, rfl, q⟩
theorem zPar3 {i j l : Nat} {x y z : Str} {px py pz pt : Pos} {kt k2 pt2} (hc : X.calm = true) (ha : PA X [a, b, c] (tMs X ms)) (hN : X.N.Nodup) (hi : X.N[i]? = some x := by rfl) (hj : X.N[j]? = some y := by rfl) (hl : X.N[l]? = some z := by rfl) (hij : i ≠ j := by decide) (hil : i ≠ l := by decide) (hjl : j ≠ l := by decide)
    (hx : X.env.scope.names.lookup x = some .local := by rfl) (hy : X.env.scope.names.lookup y = some .local := by rfl) (hz : X.env.scope.names.lookup z = some .local := by rfl)
    (hw : swappedStores [.Tuple [.Name x px, .Name y py, .Name z pz] kt pt] (.Tuple [a, b, c] k2 pt2) X.env = pure (some [x, y, z]) := by rfl)
    (hs : swapsWithSole [.Tuple [.Name x px, .Name y py, .Name z pz] kt pt] (.Tuple [a, b, c] k2 pt2) pos.line X.env = pure false := by rfl) :
    PS X (.Assign [.Tuple [.Name x px, .Name y py, .Name z pz] kt pt] (.Tuple [a, b, c] k2 pt2) pos) (tS X (mPar [i, j, l] ms)) := PSimp (ps_par3 hc hN hi hj hl hij hil hjl hx hy hz ha hw hs) fun D σ H h => by
  obtain ⟨pv, ev, F, os, ev', r, nd, hm, q⟩ := par_read h
  refine ⟨pv, ev, F, os, ev', r, nd, hm, fun vs H1 F1 G a1 a2 a3 a4 => ?_⟩
  obtain ⟨hl, q⟩ := q vs H1 F1 G a1 a2 a3 a4
  match vs, hl, q with
  | [u, v, w], _, q => exact ⟨u, v, w, rfl, q⟩

/-! ### x op= e, whole numbers -/
def mAug (f : Int → Int → Int) (i : Nat) (m : M O) : M Out := fun ev => match ev[i]?.bind Sl.see with
  | some (.dat (.int x)) => (m ev).bind fun p => match p.1 with
    | .dat (.int y) => (mPut i (.dat (.int (f x y))) p.2).map fun e => (.nx, e)
    | _ => none
  | _ => none
theorem zAug {f : Int → Int → Int} {op : Operator} {x : Str} {pos' : Pos} (ip : PIp X op (ipI f)) (i : Nat) (he : PE X e (tM X m)) (hN : X.N.Nodup) (hi : X.N[i]? = some x := by rfl) (hx : Loc X.env.scope x := by first | exact Or.inl rfl | exact Or.inr rfl)
    (hf : X.fn x = true ∨ X.env.scope.names.lookup x = some .local := by first | exact .inl rfl | exact .inr rfl) : PS X (.AugAssign (.Name x pos') op e pos) (tS X (mAug f i m)) := PSimp (ps_aug hN hi hx he ip hf) fun D σ H h => by
  obtain ⟨pv, ev, F, out, ev', r, nd, hm, q⟩ := h
  unfold mAug at hm
  split at hm
  · rename_i x0 e1
    obtain ⟨v, Fo, hv, ro, _⟩ := r.peek nd e1
    cases e2 : m ev with
    | none => rw [e2] at hm; cases hm
    | some p =>
      simp only [e2, Option.bind_some] at hm
      split at hm
      · rename_i y0 e3
        cases e4 : mPut i (.dat (.int (f x0 y0))) p.2 with
        | none => rw [e4] at hm; cases hm
        | some e5 =>
          rw [e4] at hm
          cases hm
          refine ⟨v, hv, pv, ev, F, p.1, p.2, r, nd, e2, fun y H1 F1 G r1 ry n1 s1 => ?_⟩
          rw [e3] at ry
          obtain ⟨rfl, ty⟩ := RO.flat ry
          obtain ⟨sl, a1, a2, a3, rfl⟩ := mPut_some e4
          obtain ⟨Fo2, R, p1, _, p2⟩ := r1.store a1 a2 a3
          rw [List.append_nil] at n1 s1
          refine ⟨x0, y0, ro.flat.2.int_of, ty.int_of, q _ H1 R (p2 (fun a m z => by cases z) (.dat (.int _))) (nd_app.mp (p1.nodup_iff.mp n1)).2.1 (s1.sub fun a m => p1.mem_iff.mpr (List.mem_append_right _ m))⟩
      · cases hm
  · cases hm

/-! ### calls with one argument, read -/
def CallP (X : Cx) (f : Value) (g : O → Option O) : Prop := CallR X f fun xs H Q => ∃ x o G r, xs = [x] ∧ RX X H x o G ∧ G.Nodup ∧ g o = some r ∧ New X H r Q
def mC1 (g : O → Option O) (m : M O) : M O := fun ev => (m ev).bind fun p => (g p.1).map fun r => (r, p.2)
theorem c1_read {g : O → Option O} {Q : VK} (h : tM X (mC1 g m) σ H Q) : tCB (fun xs H Q => ∃ x o G r, xs = [x] ∧ RX X H x o G ∧ G.Nodup ∧ g o = some r ∧ New X H r Q) (tCons (tP X m) tNil) σ H Q := by
  obtain ⟨pv, ev, F, o, ev', r, nd, hm, q⟩ := h
  unfold mC1 at hm
  cases e : m ev with
  | none => rw [e] at hm; cases hm
  | some p =>
    simp only [e, Option.bind_some] at hm
    cases e2 : g p.1 with
    | none => rw [e2] at hm; cases hm
    | some z =>
      rw [e2] at hm
      cases hm
      exact oneP e r nd fun x H1 F1 A G r1 n1 s1 ro ng _ => ⟨x, p.1, G, o, rfl, ro, ng, e2, fin_new r1 n1 s1 q⟩
theorem zCB1 {id : String} {x : Str} {p : Pos} {g : O → Option O} (hc : CallP X (.builtin id) g) (hm : X.mg x = none) (hv : bootBuiltins x = some (.builtin id)) (he : PE X e (tP X m)) (hg : Gl X x := by rfl) (hn : x ≠ "__name__" := by decide) (hdb : (x == ("__debug__" : Str)) = false := by decide)
    (hs : starEach [e] X.env = (false, eval e X.env) :: starEach [] X.env := by rfl) (hpl : (backTo pos (starEach [] X.env)).any (·.1) = false := by rfl) : PE X (.Call (.Name x p) [e] [] pos) (tM X (mC1 g m)) :=
  PEimp (pe_callB hc hg hm hv (pa_cons he pa_nil hs) hn hdb hs hpl) fun _ _ _ h => c1_read h
theorem zCT1 {T : String} {x : Str} {p : Pos} {g : O → Option O} (hc : CallP X (.type T) g) (hm : X.mg x = none) (hv : bootBuiltins x = some (.type T)) (he : PE X e (tP X m)) (hg : Gl X x := by rfl) (hn : x ≠ "__name__" := by decide) (hdb : (x == ("__debug__" : Str)) = false := by decide)
    (hs : starEach [e] X.env = (false, eval e X.env) :: starEach [] X.env := by rfl) (hpl : (backTo pos (starEach [] X.env)).any (·.1) = false := by rfl) : PE X (.Call (.Name x p) [e] [] pos) (tM X (mC1 g m)) :=
  PEimp (pe_callTy hc hg hm hv (pa_cons he pa_nil hs) hn hdb hs hpl) fun _ _ _ h => c1_read h

/-- len -/
def lenO : O → Option O
  | .lst os => oI os.length
  | .dct kvs => oI kvs.length
  | .dat (.list ds) => oI ds.length
  | .dat (.tuple ds) => oI ds.length
  | .dat (.str x) => if x.length ≤ sizeLine then oI x.length else none
  | .dat (.dict ds) => (thawK ds).bind fun kvs => oI kvs.length
  | _ => none
theorem len_dct {pins : List (Addr × Obj)} {σ : L2.St} {s : Shared} {A : Around} {E : Value → Shared → Prop} {a : Addr} {es : Es} {Q : Value → Shared → Prop} (I : Inv X pins σ H s) (d : DAt X H a es) (tk : Keys X H es) (h : ∀ t s', Inv X pins σ H s' → Q (.int es.length t) s') : wpAny (model X.prog X.w) A (call (.builtin "len") [.ref a]) Q E s := by
  have hn := line63
  obtain ⟨u, d, e⟩ := d
  by_cases al : (es.all fun p => isTup p.1) = true
  · obtain ⟨zs, dd, ez, hd, hz⟩ := entH I d e al tk
    have el : es.length = zs.length := Paired.length ez
    rw [el] at hz h
    exact call_len_dictH hd dd (by omega) (h _ _ (I.tok _))
  · cases e with
    | dK kvs =>
      obtain ⟨z, hd, vs, rel, dd⟩ := dk_rd I.hok d
      have el := rel.length
      rw [List.length_map] at h
      rw [el] at z h
      exact call_len_dict hd dd (by omega) (h _ _ (I.tok _))
    | dN kvs h0 hk h8 =>
      exfalso
      refine al (List.all_eq_true.mpr fun p hp => ?_)
      obtain ⟨x, hx, rfl⟩ := List.mem_map.mp hp
      obtain ⟨ks, e⟩ := hk x hx
      show isTup x.1 = true
      rw [e]; rfl
theorem pLen : CallP X (.builtin "len") lenO := fun pins s σ H xs us Q I rx ⟨x, o, G, r, e1, ro, ng, hg, n⟩ => by
  subst e1
  have seq : ∀ k : Nat, LenV X.K x H k → r = .dat (.int k) → wpAny (model X.prog X.w) X.A (call (.builtin "len") us) (EP X pins σ Q) X.xe s := fun k hl hr => by
    subst hr
    exact call_len pins s σ H [x] us Q I rx ⟨x, k, rfl, hl, n.dat (.int _)⟩
  have dct : ∀ kvs, asD o = some kvs → r = .dat (.int (kvs.length : Nat)) → wpAny (model X.prog X.w) X.A (call (.builtin "len") us) (EP X pins σ Q) X.xe s := fun kvs ha hr => by
    subst hr
    obtain ⟨a, es, G', rfl, d, tk, _, _⟩ := asD_at ro ha
    cases rx with
    | cons r1 r2 =>
      cases r2
      cases r1
      refine len_dct I d tk.keys fun t s' I' => ⟨.int (kvs.length : Nat), H, I', ⟨t, by rw [tk.length]⟩, n.dat (.int _)⟩
  unfold lenO at hg
  split at hg
  · rename_i os
    cases hg
    obtain ⟨a, ys, F, rfl, rfl, h, t⟩ := ro.lst_of
    exact seq os.length (.inl ⟨ys, SqL.of h, t.length.symm⟩) rfl
  · rename_i kvs; cases hg; exact dct kvs rfl rfl
  · rename_i ds; cases hg
    obtain ⟨a, ys, rfl, h, t⟩ := ro.flat.2.lst_of
    exact seq ds.length (.inl ⟨ys, h.seq, t.length.symm⟩) rfl
  · rename_i ds; cases hg
    obtain ⟨a, ys, rfl, h, t⟩ := ro.flat.2.tup_of
    exact seq ds.length (.inr ⟨ys, h, t.length.symm⟩) rfl
  · rename_i y
    split at hg
    · rename_i hz
      cases hg
      have := ro.flat.2.str_of
      subst this
      exact seq y.length ⟨hz, rfl⟩ rfl
    · cases hg
  · rename_i ds
    cases e : thawK ds with
    | none => rw [e] at hg; cases hg
    | some kvs => rw [e] at hg; cases hg; exact dct kvs e rfl
  · cases hg
/-- int -/
def intO : O → Option O
  | .dat (.int i) => oI i
  | .dat (.bool b) => oI (if b = true then 1 else 0)
  | _ => none
theorem pInt : CallP X (.type "int") intO := fun pins s σ H xs us Q I rx ⟨x, o, G, r, e1, ro, ng, hg, n⟩ => by
  subst e1
  unfold intO at hg
  split at hg
  · cases hg
    exact call_int1 pins s σ H _ us Q I rx (.inl ⟨_, by rw [ro.flat.2.int_of], n.dat (.int _)⟩)
  · cases hg
    exact call_int1 pins s σ H _ us Q I rx (.inr ⟨_, by rw [ro.flat.2.bool], n.dat (.int _)⟩)
  · cases hg
/-- list: of data -/
def listO (o : O) : Option O := (items o).map fun ds => .lst (ds.map .dat)
theorem pList : CallP X (.type "list") listO := fun pins s σ H xs us Q I rx ⟨x, o, G, r, e1, ro, ng, hg, n⟩ => by
  subst e1
  unfold listO at hg
  cases e : items o with
  | none => rw [e] at hg; cases hg
  | some ds =>
    rw [e] at hg
    cases hg
    rcases items_ok ro e with ⟨a, ys, h1, h2, h3⟩ | ⟨a, ys, h1, h2, h3⟩
    · exact call_list_of pins s σ H _ us Q I rx ⟨a, ys, by rw [h1], .inl h2, fun l hl => n.lst h3 l hl⟩
    · exact call_list_of pins s σ H _ us Q I rx ⟨a, ys, by rw [h1], .inr h2, fun l hl => n.lst h3 l hl⟩
/-- tuple: of data -/
def tupO (o : O) : Option O := (items o).map fun ds => .dat (.tuple ds)
theorem pTup : CallP X (.type "tuple") tupO := fun pins s σ H xs us Q I rx ⟨x, o, G, r, e1, ro, ng, hg, n⟩ => by
  subst e1
  unfold tupO at hg
  cases e : items o with
  | none => rw [e] at hg; cases hg
  | some ds =>
    rw [e] at hg
    cases hg
    rcases items_ok ro e with ⟨a, ys, h1, h2, h3⟩ | ⟨a, ys, h1, h2, h3⟩
    · exact call_tuple_of pins s σ H _ us Q I rx ⟨a, ys, by rw [h1], .inl ⟨h2, fun l hl => n.tup h3 l hl⟩⟩
    · subst h1
      exact call_tuple_of pins s σ H _ us Q I rx ⟨a, ys, rfl, .inr ⟨h2, n.dat (.tup h2 h3)⟩⟩

/-! ### slices -/
def tOi (X : Cx) (q : M (Option Int)) : TO := fun σ H Q => ∃ pv ev F i ev', Rp X H pv σ ev F ∧ F.Nodup ∧ q ev = some (i, ev') ∧ ∀ H' F', Rp X H' pv σ ev' F' → F'.Nodup → Stp F H F' H' → Q i H'
theorem POimp {x : Option Expr} {t t' : TO} (h : PO X x t) (i : ∀ σ H Q, t' σ H Q → t σ H Q) : PO X x t' := ⟨fun pins s σ H Q I q => h.run pins s σ H Q I (i σ H Q q)⟩
def mONo : M (Option Int) := fun ev => some (none, ev)
def mOSo (m : M O) : M (Option Int) := fun ev => (m ev).bind fun p => match p.1 with
  | .dat (.int i) => some (some i, p.2)
  | _ => none
theorem zONo : PO X none (tOi X mONo) := POimp po_none fun σ H Q h => by
  obtain ⟨pv, ev, F, i, ev', r, nd, hm, q⟩ := h
  cases hm
  exact q H F r nd (Stp.refl F H)
theorem zOSo (h : PE X e (tM X m)) : PO X (some e) (tOi X (mOSo m)) := POimp (po_some h) fun σ H Q h => by
  obtain ⟨pv, ev, F, i, ev', r, nd, hm, q⟩ := h
  unfold mOSo at hm
  cases e1 : m ev with
  | none => rw [e1] at hm; cases hm
  | some p =>
    simp only [e1, Option.bind_some] at hm
    split at hm
    · rename_i j e2
      cases hm
      refine ⟨pv, ev, F, p.1, p.2, r, nd, e1, fun v H1 F1 G r1 ro n1 s1 => ?_⟩
      rw [e2] at ro
      obtain ⟨rfl, t⟩ := RO.flat ro
      rw [List.append_nil] at n1 s1
      exact ⟨j, t.int_of, q H1 F1 r1 n1 s1⟩
    · cases hm
def cutD {α : Type} (xs : List α) (lo hi : Option Int) : List α := (xs.drop (HT.sIx xs.length 0 lo)).take (HT.sIx xs.length xs.length hi - HT.sIx xs.length 0 lo)
theorem Ts.cut {xs : List V} {ds : List PyData} (t : TsX X H xs ds) (lo hi : Option Int) : TsX X H (cutV xs lo hi) (cutD ds lo hi) := by
  unfold cutV cutD
  rw [t.length]
  exact (t.drop _).take _
/-- a slice of data -/
def slD (d : PyData) (lo hi : Option Int) : Option O := match d with
  | .list ds => some (.lst ((cutD ds lo hi).map .dat))
  | .tuple ds => some (.dat (.tuple (cutD ds lo hi)))
  | .str x => if x.length ≤ sizeLine then oS (Txt.slice x lo hi) else none
  | _ => none
def rSlD (X : Cx) : V → Option Int → Option Int → Hp → VK → Prop := fun x lo hi H Q => ∃ d r, TX X H x d ∧ slD d lo hi = some r ∧ New X H r Q
theorem cut_whole {α : Type} {xs : List α} {lo hi : Option Int} (h : HT.sIx xs.length 0 lo = 0 ∧ HT.sIx xs.length xs.length hi = xs.length) : cutD xs lo hi = xs := by
  unfold cutD
  rw [h.1, h.2]
  simp
theorem sl_data : SlR X (rSlD X) := fun pins s σ H x v vl vu lo hi sl Q I rx hs pl pu ⟨d, r, t, hd, n⟩ => by
  unfold slD at hd
  split at hd
  · cases hd
    obtain ⟨a, xs, rfl, h1, ts⟩ := t.lst_of
    exact sl_list pins s σ H _ v vl vu lo hi sl Q I rx hs pl pu ⟨a, xs, rfl, h1.seq, fun p hp => n.lst (ts.cut lo hi) p hp⟩
  · rename_i ds
    cases hd
    obtain ⟨a, xs, rfl, h1, ts⟩ := t.tup_of
    have el := ts.length
    refine sl_tupA pins s σ H _ v vl vu lo hi sl Q I rx hs pl pu ⟨a, xs, rfl, h1, fun hw => ?_, fun _ p hp => n.tup (ts.cut lo hi) p hp⟩
    rw [el] at hw
    rw [cut_whole hw] at n
    exact n.dat t
  · rename_i y
    split at hd
    · rename_i hz
      cases hd
      exact C8.sl_txt pins s σ H _ v vl vu lo hi sl Q I rx hs pl pu ⟨y, t.str_of, hz, n.dat (.str _)⟩
    · cases hd
  · cases hd
def mSl (m : M O) (l h : M (Option Int)) : M O := fun ev => (m ev).bind fun p => (l p.2).bind fun a => (h a.2).bind fun b => (slD p.1.data a.1 b.1).map fun r => (r, b.2)
theorem zSl {lo hi : Option Expr} {p2 : Pos} {ml mh : M (Option Int)} (he : PE X e (tM X m)) (hl : PO X lo (tOi X ml)) (hh : PO X hi (tOi X mh)) : PE X (.Subscript e (.Slice lo hi none p2) pos) (tM X (mSl m ml mh)) := PEimp (pe_slice sl_data (PEfz he) hl hh) fun σ H Q h => by
  obtain ⟨pv, ev, F, o, ev', r, nd, hm, q⟩ := h
  unfold mSl at hm
  cases e1 : m ev with
  | none => rw [e1] at hm; cases hm
  | some p =>
    simp only [e1, Option.bind_some] at hm
    cases e2 : ml p.2 with
    | none => rw [e2] at hm; cases hm
    | some a =>
      simp only [e2, Option.bind_some] at hm
      cases e3 : mh a.2 with
      | none => rw [e3] at hm; cases hm
      | some b =>
        simp only [e3, Option.bind_some] at hm
        cases e4 : slD p.1.data a.1 b.1 with
        | none => rw [e4] at hm; cases hm
        | some z =>
          rw [e4] at hm
          cases hm
          refine one e1 r nd fun x H1 F1 r1 n1 s1 t1 => ⟨pv, p.2, F1, a.1, a.2, r1, n1, e2, fun H2 F2 r2 n2 s2 => ⟨pv, a.2, F2, b.1, b.2, r2, n2, e3, fun H3 F3 r3 n3 s3 => ?_⟩⟩
          exact ⟨_, _, (t1.grow (s2.grow r1.mut)).grow (s3.grow r2.mut), e4, fin_new (A := []) r3 (by simpa using n3) (by simpa using (s1.trans s2).trans s3) q⟩

/-! ### range -/
theorem yl_rng {H : Hp} (lo : Int) (n : Nat) : Yl X (Itr lo n) H ((List.range n).map fun k => .int (lo + (k : Nat))) := fun i H2 g => by
  refine ⟨fun d e => ?_, fun l => (show n ≤ i by simpa using l)⟩
  rw [List.getElem?_map] at e
  obtain ⟨k, hk, rfl⟩ := Option.map_eq_some_iff.mp e
  obtain ⟨h1, h2⟩ := List.getElem?_eq_some_iff.mp hk
  rw [List.getElem_range] at h2
  subst h2
  refine ⟨(show i < n by simpa using h1), fun x H3 y => ?_⟩
  obtain ⟨rfl, rfl⟩ := y
  exact ⟨.int _, Stp.refl _ _⟩
def rngOk (i : Int) : Bool := decide (-(2 ^ 62) ≤ i ∧ i < 2 ^ 62)
def intsD (lo : Int) (n : Nat) : List PyData := (List.range n).map fun k => .int (lo + (k : Nat))
def mRng1 (m : M O) : M (List PyData) := fun ev => (m ev).bind fun p => match p.1 with
  | .dat (.int j) => if rngOk j = true then some (intsD 0 j.toNat, p.2) else none
  | _ => none
def mRng2 (m m' : M O) : M (List PyData) := fun ev => (m ev).bind fun p => (m' p.2).bind fun p' => match p.1, p'.1 with
  | .dat (.int i), .dat (.int j) => if rngOk i = true ∧ rngOk j = true then some (intsD i (j - i).toNat, p'.2) else none
  | _, _ => none
theorem ziRng1 {tg a : Expr} {p : Pos} (hm : X.mg "range" = none) (ha : PE X a (tM X m)) (hg : Gl X "range" := by rfl) (hs : starEach [a] X.env = [(false, eval a X.env)] := by rfl) (hs' : starEach [a] X.env = (false, eval a X.env) :: starEach [] X.env := by rfl) : PI X tg (.Call (.Name "range" p) [a] [] pos) (tI X (mRng1 m)) := PIimp (pi_range1 hg hm (pa_cons ha pa_nil hs') hs) fun σ H R h => by
  obtain ⟨pv, ev, F, ds, ev', r, nd, hm, q⟩ := h
  unfold mRng1 at hm
  cases e1 : m ev with
  | none => rw [e1] at hm; cases hm
  | some p =>
    simp only [e1, Option.bind_some] at hm
    split at hm
    · rename_i j e2
      split at hm
      · rename_i hj
        cases hm
        refine ⟨pv, ev, F, p.1, p.2, r, nd, e1, fun v H1 F1 G r1 ro n1 s1 => ?_⟩
        rw [e2] at ro
        obtain ⟨rfl, t⟩ := RO.flat ro
        rw [List.append_nil] at n1 s1
        have hj := of_decide_eq_true hj
        exact ⟨j, by rw [t.int_of], hj.1, hj.2, q _ H1 F1 r1 n1 s1 (yl_rng 0 _)⟩
      · cases hm
    · cases hm
theorem ziRng2 {tg a b : Expr} {p : Pos} {m' : M O} (hm : X.mg "range" = none) (ha : PE X a (tM X m)) (hb : PE X b (tM X m')) (hg : Gl X "range" := by rfl) (hs : starEach [a, b] X.env = [(false, eval a X.env), (false, eval b X.env)] := by rfl) (hs2 : starEach [b] X.env = [(false, eval b X.env)] := by rfl)
    (hs' : starEach [a, b] X.env = (false, eval a X.env) :: starEach [b] X.env := by rfl) (hs2' : starEach [b] X.env = (false, eval b X.env) :: starEach [] X.env := by rfl) : PI X tg (.Call (.Name "range" p) [a, b] [] pos) (tI X (mRng2 m m')) := PIimp (pi_range2 hg hm (pa_cons (PEfz ha) (pa_cons (PEfz hb) pa_nil hs2') hs') hs hs2) fun σ H R h => by
  obtain ⟨pv, ev, F, ds, ev', r, nd, hm, q⟩ := h
  unfold mRng2 at hm
  cases e1 : m ev with
  | none => rw [e1] at hm; cases hm
  | some p =>
    simp only [e1, Option.bind_some] at hm
    cases e2 : m' p.2 with
    | none => rw [e2] at hm; cases hm
    | some p' =>
      simp only [e2, Option.bind_some] at hm
      split at hm
      · rename_i i j e3 e4
        split at hm
        · rename_i hj
          cases hm
          refine one e1 r nd fun x H1 F1 r1 n1 s1 t1 => one e2 r1 n1 fun y H2 F2 r2 n2 s2 t2 => ?_
          rw [e3] at t1
          rw [e4] at t2
          have h1 := of_decide_eq_true hj.1
          have h2 := of_decide_eq_true hj.2
          refine ⟨i, j, ?_, ⟨h1.1, h1.2, h2.1, h2.2⟩, q _ H2 F2 r2 n2 (s1.trans s2) (yl_rng i _)⟩
          rw [T.int_of t1, T.int_of t2]
        · cases hm
      · cases hm

/-! ### {} and names of the module -/
def mDct0 : M O := fun ev => some (.dct [], ev)
theorem zDct0 : PE X (.Dict [] [] pos) (tM X mDct0) := PEimp pe_dnewK fun σ H Q h => by
  obtain ⟨pv, ev, F, o, ev', r, nd, hm, q⟩ := h
  cases hm
  intro p hp
  exact fin_new (A := []) r (by simpa using nd) (by simpa using Stp.refl F H) q _ _ [p] (.dct upd_same (.dK []) .nil) (by simp) (upd_stp hp)
theorem zGc {x : Str} {v : V} {d : PyData} (t : ∀ H, TX X H v d) (h : ∃ u, X.mg x = some u ∧ RelV v u) (hg : Gl X x := by rfl) (hd : (x == ("__debug__" : Str)) = false := by decide) : PE X (.Name x pos) (tM X (mC d)) := PEimp (C8.pe_gc hg h hd) fun σ H Q h => tM_const t h
theorem zqGc {x : Str} {v : V} {d : PyData} (t : ∀ H, TX X H v d) (h : ∃ u, X.mg x = some u ∧ RelV v u) (hg : Gl X x := by rfl) (hd : (x == ("__debug__" : Str)) = false := by decide) : PE X (.Name x pos) (tQ X (qC d)) := PEimp (C8.pe_gc hg h hd) fun σ H Q h => tQ_const t h
end
end Z
set_option Elab.async false
set_option linter.all false
set_option maxRecDepth 100000
set_option maxHeartbeats 1000000
/-! Z14: list comprehensions. -/
namespace Z
open PySem PySem.Spec PyProof.Rows L2

/-! ### targets that write known slots -/
def Off (is : List Nat) (σ σ' : L2.St) : Prop := σ'.length = σ.length ∧ ∀ j, j ∉ is → σ'[j]? = σ[j]?
theorem Off.refl (σ : L2.St) : Off [] σ σ := ⟨rfl, fun _ _ => rfl⟩
theorem Off.trans {is js : List Nat} {σ σ1 σ2 : L2.St} (a : Off is σ σ1) (b : Off js σ1 σ2) : Off (is ++ js) σ σ2 := ⟨b.1.trans a.1, fun j h => by
  rw [List.mem_append, not_or] at h
  rw [b.2 j h.2, a.2 j h.1]⟩
theorem wipe_get (σ : L2.St) : ∀ (vs : List Nat) (j : Nat), (wipe σ vs)[j]? = if j ∈ vs then (if j < σ.length then some none else none) else σ[j]?
  | [], j => by simp [wipe]
  | v :: vs, j => by
    unfold wipe
    by_cases e : v = j
    · subst e
      rw [if_pos List.mem_cons_self]
      by_cases hl : v < σ.length
      · rw [List.getElem?_set_self (by rw [wipe_length]; exact hl), if_pos hl]
      · rw [if_neg hl, List.getElem?_eq_none (by rw [List.length_set, wipe_length]; omega)]
    · rw [List.getElem?_set_ne e, wipe_get σ vs j]
      by_cases m : j ∈ vs
      · rw [if_pos m, if_pos (List.mem_cons_of_mem _ m)]
      · rw [if_neg m, if_neg (by rw [List.mem_cons, not_or]; exact ⟨fun z => e z.symm, m⟩)]
theorem Off.wipe {is vs : List Nat} {σ σ' : L2.St} (h : Off is σ σ') (s : ∀ j ∈ is, j ∈ vs) : wipe σ' vs = wipe σ vs := by
  apply List.ext_getElem?
  intro j
  rw [wipe_get, wipe_get, h.1]
  by_cases m : j ∈ vs
  · rw [if_pos m, if_pos m]
  · rw [if_neg m, if_neg m, h.2 j fun z => m (s j z)]
theorem wipe_wipe (σ : L2.St) (vs : List Nat) : wipe (wipe σ vs) vs = wipe σ vs := by
  apply List.ext_getElem?
  intro j
  rw [wipe_get, wipe_get, wipe_length]
  by_cases m : j ∈ vs
  · rw [if_pos m, if_pos m]
  · rw [if_neg m, if_neg m]

def gV (X : Cx) (is : List Nat) (mt : PyData → Ev → Option Ev) : TG := fun v σ H Q => ∃ pv ev F d ev', Rp X H pv σ ev F ∧ F.Nodup ∧ TX X H v d ∧ mt d ev = some ev' ∧ ∀ σ' F', Off is σ σ' → Rp X H pv σ' ev' F' → F'.Nodup → (∀ a ∈ F', a ∈ F) → Q σ' H
def gVs (X : Cx) (is : List Nat) (mt : List PyData → Ev → Option Ev) : TGs := fun vs σ H Q => ∃ pv ev F ds ev', Rp X H pv σ ev F ∧ F.Nodup ∧ TsX X H vs ds ∧ mt ds ev = some ev' ∧ ∀ σ' F', Off is σ σ' → Rp X H pv σ' ev' F' → F'.Nodup → (∀ a ∈ F', a ∈ F) → Q σ' H
section
variable {X : Cx} {pos : Pos}
theorem gV_M {is : List Nat} {tg : Expr} {mt : PyData → Ev → Option Ev} (h : PG X tg (gV X is mt)) : PG X tg (gM X mt) := PGimp h fun v σ H Q ⟨pv, ev, F, d, ev', a, b, c, e, q⟩ => ⟨pv, ev, F, d, ev', a, b, c, e, fun σ' F' _ => q σ' F'⟩
theorem zvN {x : Str} (i : Nat) (hN : X.N.Nodup) (hi : X.N[i]? = some x := by rfl) (hx : Loc X.env.scope x := by first | exact Or.inl rfl | exact Or.inr rfl) (hf : X.fn x = true ∨ X.env.scope.names.lookup x = some .local := by first | exact .inl rfl | exact .inr rfl) :
    PG X (.Name x pos) (gV X [i] (tgN i)) := PGimp (pg_name hN hi hx hf) fun v σ H Q h => by
  obtain ⟨pv, ev, F, d, ev', r, nd, t, hm, q⟩ := h
  obtain ⟨sl, a1, a2, a3, rfl⟩ := mPut_some hm
  obtain ⟨Fo, R, p1, _, p2⟩ := r.store a1 a2 a3
  exact q _ R ⟨List.length_set, fun j h => List.getElem?_set_ne fun z => h (by rw [z]; exact List.mem_singleton.mpr rfl)⟩ (p2 (fun a m z => by cases z) (.dat t)) (nd_app.mp (p1.nodup_iff.mp nd)).2.1 fun a m => p1.mem_iff.mpr (List.mem_append_right _ m)
theorem zvNil : PGs X [] (gVs X [] tgNil) := PGsimp pgs_nil fun vs σ H Q h => by
  obtain ⟨pv, ev, F, ds, ev', r, nd, t, hm, q⟩ := h
  cases t with
  | nil => cases hm; exact ⟨rfl, q σ F (Off.refl σ) r nd fun _ m => m⟩
  | cons _ _ => cases hm
theorem zvCons {is js : List Nat} {tg : Expr} {tgs : List Expr} {t : PyData → Ev → Option Ev} {u : List PyData → Ev → Option Ev} (h : PG X tg (gV X is t)) (h' : PGs X tgs (gVs X js u)) (hs : (assignEach (tg :: tgs) X.env).map (·.2) = assign tg X.env :: (assignEach tgs X.env).map (·.2) := by rfl) :
    PGs X (tg :: tgs) (gVs X (is ++ js) (tgCons t u)) := PGsimp (pgs_cons h h' hs) fun vs σ H Q q => by
  obtain ⟨pv, ev, F, ds, ev', r, nd, ts, hm, q⟩ := q
  cases ts with
  | nil => cases hm
  | cons t1 ts =>
    rename_i v d vs ds
    have hm : (t d ev).bind (u ds) = some ev' := hm
    cases e : t d ev with
    | none => rw [e] at hm; cases hm
    | some e1 =>
      rw [e] at hm
      exact ⟨v, vs, rfl, pv, ev, F, d, e1, r, nd, t1, e, fun σ1 F1 o1 r1 n1 s1 => ⟨pv, e1, F1, ds, ev', r1, n1, ts, hm, fun σ2 F2 o2 r2 n2 s2 => q σ2 F2 (o1.trans o2) r2 n2 fun a m => s1 a (s2 a m)⟩⟩
theorem zvTup {is : List Nat} {tgs : List Expr} {k n : Nat} {u : List PyData → Ev → Option Ev} (hc : X.calm = true) (h : PGs X tgs (gVs X is u)) (hn : (assignEach tgs X.env).length = n := by rfl) (hst : (assignEach tgs X.env).findIdx? (·.1) = none := by rfl) : PG X (.Tuple tgs k pos) (gV X is (tgTup n u)) :=
  PGimp (pg_tup hc h hn hst) fun v σ H Q q => by
  obtain ⟨pv, ev, F, d, ev', r, nd, t, hm, q⟩ := q
  cases t with
  | tup hl ts =>
    rename_i a xs ds
    have hm : (if ds.length = n then u ds ev else none) = some ev' := hm
    split at hm
    · rename_i hlen
      exact ⟨a, xs, rfl, hl, ts.length.trans hlen, pv, ev, F, ds, ev', r, nd, ts, hm, q⟩
    · cases hm
  | _ => cases hm
end

/-! ### slots forgotten -/
def wipeE (ev : Ev) : List Nat → Ev
  | [] => ev
  | v :: vs => (wipeE ev vs).set v .un
theorem RE.wipe {P : Program} {w : World} {K : PySem.W.Frag} {H : Hp} : ∀ {pv : List (Option V)} {σ : L2.St} {ev : Ev} {F : List Addr} (v : Nat) (x : Option V), RE P w K H pv σ ev F → ∃ F', RE P w K H pv (σ.set v x) (ev.set v .un) F' ∧ F'.Sublist F
  | _, _, _, _, _, _, .nil => ⟨[], .nil, List.Sublist.refl _⟩
  | _, _, _, _, 0, x, .un t => ⟨_, .un t, List.Sublist.refl _⟩
  | _, _, _, _, 0, x, .var _ t => ⟨_, .un t, List.sublist_append_right _ _⟩
  | _, _, _, _, 0, x, .par _ t => ⟨_, .un t, List.sublist_append_right _ _⟩
  | _, _, _, _, v + 1, x, .un t => by
    obtain ⟨F', r, s⟩ := RE.wipe v x t
    exact ⟨F', .un r, s⟩
  | _, _, _, _, v + 1, x, @RE.var _ _ _ _ p v1 o1 pv σ ev F G q t => by
    obtain ⟨F', r, s⟩ := RE.wipe v x t
    exact ⟨F ++ F', .var q r, (List.Sublist.refl F).append s⟩
  | _, _, _, _, v + 1, x, @RE.par _ _ _ _ v1 o1 pv σ ev F G q t => by
    obtain ⟨F', r, s⟩ := RE.wipe v x t
    exact ⟨F ++ F', .par q r, (List.Sublist.refl F).append s⟩
section
variable {X : Cx} {H : Hp} {pv : Pv} {σ : L2.St} {ev : Ev} {F : List Addr}
theorem Rp.wipe1 (r : Rp X H pv σ ev F) (v : Nat) (x : Option V) : ∃ F', Rp X H pv (σ.set v x) (ev.set v .un) F' ∧ (∀ a ∈ F', a ∈ F) ∧ (F.Nodup → F'.Nodup) := by
  obtain ⟨F0, r, p, w⟩ := r
  obtain ⟨F', q, l⟩ := r.wipe v x
  have sub : ∀ a ∈ F', a ∈ F := fun a m => p.mem_iff.mp (l.subset m)
  have w' := w.set (i := v) (sl := .un) (fun o z => by cases z) (σ.set v x) fun j o z => by
    have ne : v ≠ j := fun e => by
      subst e
      have hl : v < ev.length := by
        rcases Nat.lt_or_ge v ev.length with h | h
        · exact h
        · rw [List.getElem?_eq_none (by simpa using h)] at z; cases z
      rw [List.getElem?_set_self hl] at z
      cases z
    rw [List.getElem?_set_ne ne]
  exact ⟨F', ⟨F', by rw [core_set]; exact q, List.Perm.refl _, w'.sub sub⟩, sub, fun n => (p.nodup_iff.mpr n).sublist l⟩
/-- the slots vs forgotten, their values too -/
theorem Rp.wipe : ∀ (vs : List Nat) {F : List Addr} {ev : Ev} {σ : L2.St}, Rp X H pv σ ev F → ∃ F', Rp X H pv (wipe σ vs) (wipeE ev vs) F' ∧ (∀ a ∈ F', a ∈ F) ∧ (F.Nodup → F'.Nodup)
  | [], F, _, _, r => ⟨F, r, fun _ m => m, id⟩
  | v :: vs, F, ev, σ, r => by
    obtain ⟨F1, r1, s1, n1⟩ := Rp.wipe vs r
    obtain ⟨F2, r2, s2, n2⟩ := r1.wipe1 v none
    exact ⟨F2, r2, fun a m => s1 a (s2 a m), fun n => n2 (n1 n)⟩
theorem wipeE_un {vs : List Nat} {ev : Ev} : ∀ v ∈ vs, v < ev.length → (wipeE ev vs)[v]? = some .un := by
  induction vs with
  | nil => intro v m; cases m
  | cons u vs ih =>
    intro v m hl
    have hlen : ∀ vs : List Nat, (wipeE ev vs).length = ev.length := fun vs => by
      induction vs with
      | nil => rfl
      | cons a vs ih => unfold wipeE; rw [List.length_set, ih]
    unfold wipeE
    by_cases e : u = v
    · subst e
      rw [List.getElem?_set_self (by rw [hlen]; exact hl)]
    · rw [List.getElem?_set_ne e]
      exact ih v (by rcases List.mem_cons.mp m with z | z; exact absurd z.symm e; exact z) hl
/-- an idle slot's value does not matter -/
theorem RE.idle {P : Program} {w : World} {K : PySem.W.Frag} {H : Hp} : ∀ {pv : List (Option V)} {σ : L2.St} {ev : Ev} {F : List Addr} (v : Nat) (x : Option V), RE P w K H pv σ ev F → (∀ sl, ev[v]? = some sl → sl = .un) → RE P w K H pv (σ.set v x) ev F
  | _, _, _, _, _, _, .nil, _ => .nil
  | _, _, _, _, 0, x, .un t, _ => .un t
  | _, _, _, _, 0, x, .var _ t, h => by cases h _ rfl
  | _, _, _, _, 0, x, .par _ t, h => by cases h _ rfl
  | _, _, _, _, v + 1, x, .un t, h => .un (RE.idle v x t fun sl e => h sl (by simpa using e))
  | _, _, _, _, v + 1, x, .var q t, h => .var q (RE.idle v x t fun sl e => h sl (by simpa using e))
  | _, _, _, _, v + 1, x, .par q t, h => .par q (RE.idle v x t fun sl e => h sl (by simpa using e))
/-- the slots as they were ahead: what is wiped alike -/
theorem RE.swap {P : Program} {w : World} {K : PySem.W.Frag} {H : Hp} : ∀ {pv : List (Option V)} {σ σ' : L2.St} {ev : Ev} {F : List Addr}, RE P w K H pv σ ev F → σ'.length = σ.length → (∀ (j : Nat) (sl : Sl), ev[j]? = some sl → sl ≠ Sl.un → σ'[j]? = σ[j]?) → RE P w K H pv σ' ev F
  | _, _, σ', _, _, .nil, hl, _ => by
    have : σ' = [] := List.eq_nil_of_length_eq_zero hl
    subst this
    exact .nil
  | _, _, [], _, _, .un t, hl, _ => by cases hl
  | _, _, y :: σ', _, _, .un t, hl, h => .un (RE.swap t (by simpa using hl) fun j sl e ne => by simpa using h (j + 1) sl (by simpa using e) ne)
  | _, _, [], _, _, .var _ t, hl, _ => by cases hl
  | _, _, y :: σ', _, _, @RE.var _ _ _ _ p v1 o1 pv σ ev F G q t, hl, h => by
    have : y = some v1 := by simpa using h 0 (.var o1) rfl (fun z => nomatch z)
    subst this
    exact .var q (RE.swap t (by simpa using hl) fun j sl e ne => by simpa using h (j + 1) sl (by simpa using e) ne)
  | _, _, [], _, _, .par _ t, hl, _ => by cases hl
  | _, _, y :: σ', _, _, @RE.par _ _ _ _ v1 o1 pv σ ev F G q t, hl, h => by
    have : y = some v1 := by simpa using h 0 (.par o1) rfl (fun z => nomatch z)
    subst this
    exact .par q (RE.swap t (by simpa using hl) fun j sl e ne => by simpa using h (j + 1) sl (by simpa using e) ne)
theorem Rp.swap {σ' : L2.St} (r : Rp X H pv σ ev F) (hl : σ'.length = σ.length) (h : ∀ (j : Nat) (sl : Sl), ev[j]? = some sl → sl ≠ Sl.un → σ'[j]? = σ[j]?) : Rp X H pv σ' ev F := by
  obtain ⟨F0, r, p, w⟩ := r
  refine ⟨F0, r.swap hl fun j sl e ne => ?_, p, w.off, w.mu, w.tb, fun i o e => ?_⟩
  · rw [List.getElem?_map] at e
    obtain ⟨s, hs, rfl⟩ := Option.map_eq_some_iff.mp e
    exact h j s hs fun z => by subst z; exact ne rfl
  · obtain ⟨v, Fo, a, b⟩ := w.see i o e
    exact ⟨v, Fo, by rw [h i _ e (fun z => nomatch z)]; exact a, b⟩
theorem wipeE_length (vs : List Nat) : (wipeE ev vs).length = ev.length := by
  induction vs with
  | nil => rfl
  | cons a vs ih => unfold wipeE; rw [List.length_set, ih]
/-- back to the slots ahead of the block -/
theorem Rp.back {σ2 : L2.St} {vs : List Nat} (r : Rp X H pv (L2.wipe σ2 vs) (wipeE ev vs) F) (h : L2.wipe σ2 vs = L2.wipe σ vs) : Rp X H pv σ (wipeE ev vs) F := by
  have hlen : σ.length = (L2.wipe σ2 vs).length := by rw [h, wipe_length]
  refine r.swap hlen fun j sl e ne => ?_
  have m : j ∉ vs := fun m => by
    have hl : j < ev.length := by
      rcases Nat.lt_or_ge j ev.length with z | z
      · exact z
      · rw [List.getElem?_eq_none (by rw [wipeE_length]; exact z)] at e; cases e
    rw [wipeE_un j m hl] at e
    cases e
    exact ne rfl
  rw [h, wipe_get, if_neg m]
end

/-! ### the comprehension -/
def tTs (X : Cx) (m : M Bool) : TT := tTst X m
theorem PTsimp {X : Cx} {ifs : List Expr} {t t' : TT} (h : PTs X ifs t) (i : ∀ σ H Q, t' σ H Q → t σ H Q) : PTs X ifs t' := ⟨fun pins s σ H Q I q => h.run pins s σ H Q I (i σ H Q q)⟩
def mYes : M Bool := fun ev => some (true, ev)
theorem zYes {X : Cx} : PTs X [] (tTst X mYes) := PTsimp pts_nil fun σ H Q h => by
  obtain ⟨pv, ev, F, b, ev', r, nd, hm, q⟩ := h
  cases hm
  exact q H F r nd (Stp.refl _ _)
theorem zIfs {X : Cx} {c : Expr} {m : M Bool} (h : PT X c (tTst X m)) : PTs X [c] (tTst X m) := pts_one h
def lcL (vs : List Nat) (t : PyData → Ev → Option Ev) (c : M Bool) (me : M O) : List PyData → Ev → Option (List O × Ev)
  | [], ev => some ([], ev)
  | d :: ds, ev => (t d ev).bind fun e1 => (c e1).bind fun q => if q.1 = true then (me q.2).bind fun p => (lcL vs t c me ds (wipeE p.2 vs)).map fun r => (p.1 :: r.1, r.2) else lcL vs t c me ds (wipeE q.2 vs)
def mLc (vs : List Nat) (mi : M (List PyData)) (t : PyData → Ev → Option Ev) (c : M Bool) (me : M O) : M O := fun ev => (mi ev).bind fun p => (lcL vs t c me p.1 (wipeE p.2 vs)).bind fun r => if r.1.length ≤ sizeLine then some (.lst r.1, r.2) else none
section
variable {X : Cx} {σ : L2.St} {H : Hp}
theorem lc_read {vs is : List Nat} {mi : M (List PyData)} {t : PyData → Ev → Option Ev} {c : M Bool} {me : M O} {Q : VK} (sub : ∀ j ∈ is, j ∈ vs) (h : tM X (mLc vs mi t c me) σ H Q) : tLc (tI X mi) (gV X is t) (tTst X c) (tM X me) vs σ H Q := by
  obtain ⟨pv, ev, F, o, ev', r, nd, hm, q⟩ := h
  unfold mLc at hm
  cases e1 : mi ev with
  | none => rw [e1] at hm; cases hm
  | some p =>
    obtain ⟨ds, ev1⟩ := p
    simp only [e1, Option.bind_some] at hm
    cases e2 : lcL vs t c me ds (wipeE ev1 vs) with
    | none => rw [e2] at hm; cases hm
    | some z =>
      simp only [e2, Option.bind_some] at hm
      split at hm
      · rename_i hz
        cases hm
        refine ⟨pv, ev, F, ds, ev1, r, nd, e1, fun J H1 F1 r1 n1 s1 y D hD => ?_⟩
        obtain ⟨F2, r2, sb2, n2⟩ := r1.wipe vs
        have stD : Stp [] H1 [D] (upd H1 D (.lst [])) := upd_stp hD
        -- the state ahead of turn i
        refine ⟨fun i k H' => ∃ e' F' G acc rest vsA, Rp X H' pv (L2.wipe σ vs) e' F' ∧ H' D = some (.lst vsA) ∧ RsX X H' vsA acc G ∧ (F' ++ (D :: G)).Nodup ∧ Stp F H (F' ++ (D :: G)) H' ∧ Grow H1 H' ∧ i ≤ ds.length ∧ k = ds.length - i ∧ lcL vs t c me (ds.drop i) e' = some (rest, z.2) ∧ z.1 = acc ++ rest ∧ (wipeE e' vs = e'), ⟨_, wipeE ev1 vs, F2, [], [], z.1, [], r2.stp stD, upd_same, .nil, ?_, ?_, stD.grow (fun _ m => by cases m), Nat.zero_le _, rfl, by simpa using e2, rfl, ?_⟩, ?_⟩
        · exact r2.nd (n2 n1) stD (by simp)
        · have := s1.trans (stD.frame (F := F1))
          exact this.sub fun a m => by
            rcases List.mem_append.mp m with m | m
            · exact List.mem_append_left _ (sb2 a m)
            · exact List.mem_append_right _ m
        · apply List.ext_getElem?
          intro j
          by_cases mj : j ∈ vs
          · by_cases hl : j < ev1.length
            · rw [wipeE_un j mj (by rw [wipeE_length]; exact hl), wipeE_un j mj hl]
            · rw [List.getElem?_eq_none (by rw [wipeE_length, wipeE_length]; omega), List.getElem?_eq_none (by rw [wipeE_length]; omega)]
          · have off : ∀ (ws : List Nat) (ev : Ev), j ∉ ws → (wipeE ev ws)[j]? = ev[j]? := fun ws ev => by
              induction ws with
              | nil => intro _; rfl
              | cons a ws ih =>
                intro h
                rw [List.mem_cons, not_or] at h
                unfold wipeE
                rw [List.getElem?_set_ne (Ne.symm h.1), ih h.2]
            rw [off vs _ mj]
        · rintro i k H2 ⟨e', F', G, acc, rest, vsA, r', hD', rs, nn, st, g2, hi, rfl, hf, hr, hw⟩
          obtain ⟨k1, k2, k3⟩ := nd_app.mp nn
          by_cases hlt : i < ds.length
          · obtain ⟨d, hd⟩ : ∃ d, ds[i]? = some d := ⟨ds[i], List.getElem?_eq_getElem hlt⟩
            have hdrop : ds.drop i = d :: ds.drop (i + 1) := by
              rw [List.drop_eq_getElem_cons hlt]
              rw [List.getElem?_eq_getElem hlt] at hd
              cases hd
              rfl
            rw [hdrop] at hf
            simp only [lcL] at hf
            obtain ⟨go, yl⟩ := (y i H2 g2).1 d hd
            cases et : t d e' with
            | none => rw [et] at hf; cases hf
            | some e3 =>
              simp only [et, Option.bind_some] at hf
              cases ec : c e3 with
              | none => rw [ec] at hf; cases hf
              | some q4 =>
                simp only [ec, Option.bind_some] at hf
                refine .inr ⟨go, fun H' => ∃ e' F' G acc rest vsA, Rp X H' pv (L2.wipe σ vs) e' F' ∧ H' D = some (.lst vsA) ∧ RsX X H' vsA acc G ∧ (F' ++ (D :: G)).Nodup ∧ Stp F H (F' ++ (D :: G)) H' ∧ Grow H1 H' ∧ lcL vs t c me (ds.drop (i + 1)) e' = some (rest, z.2) ∧ z.1 = acc ++ rest ∧ (wipeE e' vs = e'), fun H' hN => ?_, fun x H3 hy => ?_⟩
                · obtain ⟨e5, F5, G5, a5, re5, v5, b1, b2, b3, b4, b5, b6, b7, b8, b9⟩ := hN
                  exact ⟨ds.length - (i + 1), by omega, e5, F5, G5, a5, re5, v5, b1, b2, b3, b4, b5, b6, hlt, rfl, b7, b8, b9⟩
                · obtain ⟨tx, sy⟩ := yl x H3 hy
                  have r3 := r'.stp sy
                  have mD : Mut (H2 D) := by rw [hD']; exact True.intro
                  have hD3 : H3 D = some (.lst vsA) := by rw [sy.at (by simp) mD]; exact hD'
                  have rs3 := rs.keep (sy.grow fun _ m => by cases m) fun a m => sy.at (by simp) (rs.mut a m)
                  have st3 : Stp F H (F' ++ (D :: G)) H3 := st.trans ((sy.frame (F := F' ++ (D :: G))).sub fun a m => by simpa using m)
                  have g3 : Grow H1 H3 := g2.trans (sy.grow fun _ m => by cases m)
                  refine ⟨pv, e', F', d, e3, r3, k1, tx, et, fun σ4 F4 o4 r4 n4 s4 => ⟨?_, pv, e3, F4, q4.1, q4.2, r4, n4, ec, fun H5 F5 r5 n5 s5 => ?_⟩⟩
                  · rw [o4.wipe sub, wipe_wipe]
                  have apDG : ∀ a ∈ D :: G, a ∉ F4 := fun a m z => k3 a (s4 a z) m
                  have mDG3 : ∀ a ∈ D :: G, Mut (H3 a) := fun a m => by
                    rcases List.mem_cons.mp m with e | m
                    · rw [e, hD3]; exact True.intro
                    · exact rs3.mut a m
                  have keep5 : ∀ a ∈ D :: G, H5 a = H3 a := fun a m => s5.at (apDG a m) (mDG3 a m)
                  have ap5 : ∀ a ∈ D :: G, a ∉ F5 := fun a m => s5.apart (apDG a m) (mDG3 a m)
                  have rs5 := rs3.keep (s5.grow r4.mut) fun a m => keep5 a (List.mem_cons_of_mem _ m)
                  have hD5 : H5 D = some (.lst vsA) := by rw [keep5 D List.mem_cons_self]; exact hD3
                  have mDG5 : ∀ a ∈ D :: G, Mut (H5 a) := fun a m => by rw [keep5 a m]; exact mDG3 a m
                  have st4 : Stp F H (F4 ++ (D :: G)) H3 := st3.sub fun a m => by
                    rcases List.mem_append.mp m with m | m
                    · exact List.mem_append_left _ (s4 a m)
                    · exact List.mem_append_right _ m
                  have st5 : Stp F H (F5 ++ (D :: G)) H5 := st4.trans (((s5.more (D :: G)).wide (F2 := F4 ++ (D :: G)) fun a m => by simpa [or_comm, or_left_comm, or_assoc] using m).sub fun a m => by simpa [or_comm, or_left_comm, or_assoc] using m)
                  have g5 : Grow H1 H5 := g3.trans (s5.grow r4.mut)
                  have hw4 : L2.wipe σ4 vs = L2.wipe σ vs := by rw [o4.wipe sub, wipe_wipe]
                  have done : ∀ {H6 : Hp} {F6 : List Addr} {e6 : Ev}, Rp X H6 pv σ4 e6 F6 → F6.Nodup → ∃ F7, Rp X H6 pv (L2.wipe σ vs) (wipeE e6 vs) F7 ∧ F7.Nodup ∧ (∀ a ∈ F7, a ∈ F6) ∧ wipeE (wipeE e6 vs) vs = wipeE e6 vs := fun {H6 F6 e6} r6 n6 => by
                    obtain ⟨F7, c1, c2, c3⟩ := r6.wipe vs
                    rw [hw4] at c1
                    refine ⟨F7, c1, c3 n6, c2, ?_⟩
                    apply List.ext_getElem?
                    intro j
                    by_cases mj : j ∈ vs
                    · by_cases hl : j < e6.length
                      · rw [wipeE_un j mj (by rw [wipeE_length]; exact hl), wipeE_un j mj hl]
                      · rw [List.getElem?_eq_none (by rw [wipeE_length, wipeE_length]; omega), List.getElem?_eq_none (by rw [wipeE_length]; omega)]
                    · have off : ∀ (ws : List Nat) (ev : Ev), j ∉ ws → (wipeE ev ws)[j]? = ev[j]? := fun ws ev => by
                        induction ws with
                        | nil => intro _; rfl
                        | cons a ws ih =>
                          intro h
                          rw [List.mem_cons, not_or] at h
                          unfold wipeE
                          rw [List.getElem?_set_ne (Ne.symm h.1), ih h.2]
                      rw [off vs _ mj]
                  cases hb : q4.1 with
                  | false =>
                    rw [hb] at hf
                    simp only [Bool.false_eq_true, if_false] at hf ⊢
                    obtain ⟨F7, c1, c2, c3, c4⟩ := done r5 n5
                    exact ⟨_, F7, G, acc, rest, vsA, c1, hD5, rs5, nd_app.mpr ⟨c2, k2, fun a m z => ap5 a z (c3 a m)⟩, st5.sub fun a m => by
                      rcases List.mem_append.mp m with m | m
                      · exact List.mem_append_left _ (c3 a m)
                      · exact List.mem_append_right _ m, g5, hf, hr, c4⟩
                  | true =>
                    rw [hb] at hf
                    simp only [if_true] at hf ⊢
                    cases em : me q4.2 with
                    | none => rw [em] at hf; cases hf
                    | some p6 =>
                      simp only [em, Option.bind_some] at hf
                      cases el : lcL vs t c me (ds.drop (i + 1)) (wipeE p6.2 vs) with
                      | none => rw [el] at hf; cases hf
                      | some r6 =>
                        rw [el] at hf
                        obtain ⟨e7, e8⟩ := Prod.mk.inj (Option.some.inj hf)
                        have e8 : r6.2 = z.2 := e8
                        have el : lcL vs t c me (ds.drop (i + 1)) (wipeE p6.2 vs) = some (r6.1, z.2) := by rw [el, ← e8]
                        subst e7
                        refine ⟨pv, q4.2, F5, p6.1, p6.2, r5, n5, em, fun v H6 F6 G6 r6' ro6 n6 s6 => ?_⟩
                        obtain ⟨m1, m2, m3⟩ := nd_app.mp n6
                        have keep6 : ∀ a ∈ D :: G, H6 a = H5 a := fun a m => s6.at (ap5 a m) (mDG5 a m)
                        have ap6 : ∀ a ∈ D :: G, a ∉ F6 ++ G6 := fun a m => s6.apart (ap5 a m) (mDG5 a m)
                        have hD6 : H6 D = some (.lst vsA) := by rw [keep6 D List.mem_cons_self]; exact hD5
                        have rs6 := rs5.keep (s6.grow r5.mut) fun a m => keep6 a (List.mem_cons_of_mem _ m)
                        have mD6 : Mut (H6 D) := by rw [hD6]; exact True.intro
                        refine ⟨vsA, hD6, ?_, ?_⟩
                        · rw [rs6.length]
                          rw [hr, List.length_append, List.length_cons] at hz
                          omega
                        · obtain ⟨F7, c1, c2, c3, c4⟩ := done r6' m1
                          have nG : D ∉ G := (List.nodup_cons.mp k2).1
                          have dF7 : D ∉ F7 := fun z => ap6 D List.mem_cons_self (List.mem_append_left _ (c3 D z))
                          have dG6 : D ∉ G6 := fun z => ap6 D List.mem_cons_self (List.mem_append_right _ z)
                          have stD6 : Stp [D] H6 [D] (upd H6 D (.lst (vsA ++ [v]))) := upd_step mD6 (List.mem_singleton.mpr rfl) fun _ m => m
                          have dW : ∀ a ∈ pv.W, a ≠ D := fun a m z => by
                            subst z
                            have := r'.off a m
                            have hD1 := s1.keep
                            -- D is new
                            have : Mut (H a) := r.vw.mu a m
                            obtain ⟨u, hu⟩ := Mut.some this
                            rw [hu] at this
                            have := s1.keep a u (r.off a m) (Mut.tbl this) hu
                            rw [hD] at this
                            cases this
                          have r7 : Rp X (upd H6 D (.lst (vsA ++ [v]))) pv (L2.wipe σ vs) (wipeE p6.2 vs) F7 := c1.keep (upd_grow mD6) (fun a m => upd_ne fun z => dF7 (z ▸ m)) fun a m => upd_ne (dW a m)
                          refine ⟨_, F7, G ++ G6, acc ++ [p6.1], r6.1, vsA ++ [v], r7, upd_same, (keepS mD6 nG rs6).append (ROs.one (keep1 mD6 dG6 ro6)), nd_app.mpr ⟨c2, ?_, fun a m z => ?_⟩, ?_, ?_, el, ?_, c4⟩
                          · rw [List.nodup_cons, List.mem_append, not_or]
                            exact ⟨⟨nG, dG6⟩, nd_app.mpr ⟨(List.nodup_cons.mp k2).2, m2, fun a m z => ap6 a (List.mem_cons_of_mem _ m) (List.mem_append_right _ z)⟩⟩
                          · rcases List.mem_cons.mp z with z | z
                            · exact dF7 (z ▸ m)
                            · rcases List.mem_append.mp z with z | z
                              · exact ap6 a (List.mem_cons_of_mem _ z) (List.mem_append_left _ (c3 a m))
                              · exact m3 a (c3 a m) z
                          · have q1 : Stp (F5 ++ (D :: G)) H5 ((F6 ++ G6) ++ (D :: G)) H6 := ((s6.more (D :: G)).wide (F2 := F5 ++ (D :: G)) fun a m => by simpa [or_comm, or_left_comm, or_assoc] using m).sub fun a m => by simpa [or_comm, or_left_comm, or_assoc] using m
                            have q2 := (st5.trans q1).trans (upd_step (u' := .lst (vsA ++ [v])) (F' := (F6 ++ G6) ++ (D :: G)) mD6 (List.mem_append_right _ List.mem_cons_self) fun _ m => m)
                            refine q2.sub fun a m => ?_
                            simp only [List.mem_append, List.mem_cons] at m ⊢
                            rcases m with m | m | m | m
                            · exact .inl (.inl (c3 a m))
                            · exact .inr (.inl m)
                            · exact .inr (.inr m)
                            · exact .inl (.inr m)
                          · exact (g5.trans (s6.grow r5.mut)).trans (upd_grow mD6)
                          · rw [hr, List.append_assoc]; rfl
          · have hi' : i = ds.length := by omega
            subst hi'
            rw [List.drop_length] at hf
            cases hf
            refine .inl ⟨(y _ H2 g2).2 (Nat.le_refl _), ?_⟩
            have hacc : z.1 = acc := by rw [hr, List.append_nil]
            rw [hacc] at q
            have rb : Rp X H2 pv σ z.2 F' := by
              have e3 : L2.wipe σ vs = L2.wipe (L2.wipe σ vs) vs := (wipe_wipe σ vs).symm
              rw [← hw]
              rw [← hw, e3] at r'
              exact r'.back (wipe_wipe σ vs)
            exact q _ H2 F' (D :: G) rb (.lst hD' rs) nn st
      · cases hm
theorem zLc {elt tg iter : Expr} {ifs : List Expr} {scope : Scope} {own : List (Str × Nat)} {pos : Pos} {is : List Nat} {mi : M (List PyData)} {t : PyData → Ev → Option Ev} {c : M Bool} {me : M O} (hc : X.calm = true) (hN : X.N.Nodup) (ok : BlkOk X.N X.env.scope scope own) (hi : PI X tg iter (tI X mi))
    (hg : ∀ (s : Shared) (H : Hp) (C : Addr) (cl : List (Str × Addr)) (fp : List Addr), PG (X.blk s H scope (compEnvC scope cl C X.env) fp) tg (gV (X.blk s H scope (compEnvC scope cl C X.env) fp) is t))
    (ht : ∀ (s : Shared) (H : Hp) (C : Addr) (cl : List (Str × Addr)) (fp : List Addr), PTs (X.blk s H scope (compEnvC scope cl C X.env) fp) ifs (tTst (X.blk s H scope (compEnvC scope cl C X.env) fp) c))
    (he : ∀ (s : Shared) (H : Hp) (C : Addr) (cl : List (Str × Addr)) (fp : List Addr), PE (X.blk s H scope (compEnvC scope cl C X.env) fp) elt (tM (X.blk s H scope (compEnvC scope cl C X.env) fp) me))
    (sub : ∀ j ∈ is, j ∈ own.map (·.2) := by decide) (hs : ∀ x, foldedSetIterable iter X.env x = pure x := by intro _; rfl) : PE X (.ListComp elt [⟨tg, iter, ifs, 0⟩] scope pos) (tM X (mLc (own.map (·.2)) mi t c me)) :=
  PEimp (pe_lc (g := gV X is t) (tt := tTst X c) (te := tM X me) hc hN hi ok hg ht he hs) fun _ _ _ h => lc_read sub h
theorem zSetLc {i : Nat} {y : Str} {py spos : Pos} {elt tg iter : Expr} {ifs : List Expr} {scope : Scope} {own : List (Str × Nat)} {pos : Pos} {is : List Nat} {mi : M (List PyData)} {t : PyData → Ev → Option Ev} {c : M Bool} {me : M O} (hc : X.calm = true) (hN : X.N.Nodup) (ok : BlkOk X.N X.env.scope scope own)
    (hsw : swapsWith (.ListComp elt [⟨tg, iter, ifs, 0⟩] scope pos) (some (.Name y py)) spos.line X.env = pure true) (hi : PI X tg iter (tI X mi))
    (hg : ∀ (s : Shared) (H : Hp) (C : Addr) (cl : List (Str × Addr)) (fp : List Addr), PG (X.blk s H scope (compEnvC scope cl C X.env) fp) tg (gV (X.blk s H scope (compEnvC scope cl C X.env) fp) is t))
    (ht : ∀ (s : Shared) (H : Hp) (C : Addr) (cl : List (Str × Addr)) (fp : List Addr), PTs (X.blk s H scope (compEnvC scope cl C X.env) fp) ifs (tTst (X.blk s H scope (compEnvC scope cl C X.env) fp) c))
    (he : ∀ (s : Shared) (H : Hp) (C : Addr) (cl : List (Str × Addr)) (fp : List Addr), PE (X.blk s H scope (compEnvC scope cl C X.env) fp) elt (tM (X.blk s H scope (compEnvC scope cl C X.env) fp) me))
    (hy : X.N[i]? = some y := by rfl) (hyl : X.env.scope.names.lookup y = some .local := by rfl) (sub : ∀ j ∈ is, j ∈ own.map (·.2) := by decide) (hs : ∀ x, foldedSetIterable iter X.env x = pure x := by intro _; rfl) :
    PS X (.Assign [.Name y py] (.ListComp elt [⟨tg, iter, ifs, 0⟩] scope pos) spos) (tS X (mAsg i (mLc (own.map (·.2)) mi t c me))) :=
  PSimp (ps_setLc (g := gV X is t) (tt := tTst X c) (te := tM X me) hc hN hy hyl hsw hi ok hg ht he hs) fun D σ H h => lc_read sub (put_read h)
end
end Z
set_option Elab.async false
set_option linter.all false
set_option maxRecDepth 100000
set_option maxHeartbeats 1000000
/-! Z15: order of data that may be compared up to the place where they part; sorted. -/
namespace Z
open PySem PySem.Spec PyProof.Rows L2
open PySem.SeqAt PySem.W PySem.AutoSeq1

def tagD : PyData → Nat
  | .none => 0
  | .bool _ => 1
  | .int _ => 2
  | .str _ => 3
  | .list _ => 4
  | .tuple _ => 5
  | .dict _ => 6
mutual
/-- they may be compared: alike up to the first place that differs -/
def lik : PyData → PyData → Bool
  | .tuple xs, .tuple ys => likAll xs ys
  | x, y => alike x y
def likAll : List PyData → List PyData → Bool
  | x :: xs, y :: ys => if PyData.eqv x y = true then tagD x == tagD y && likAll xs ys else lik x y
  | _, _ => true
end
theorem lik_tag {x y : PyData} (h : lik x y = true) : tagD x = tagD y := by
  cases x <;> cases y <;> first | rfl | (simp [lik, alike] at h)
theorem lik_none {y : PyData} (h : lik .none y = true) : y = .none := by
  cases y <;> first | rfl | (simp [lik, alike] at h)
mutual
theorem eqv_toks : ∀ (x y : PyData), x.plain = true → y.plain = true → PyData.eqv x y = true → keyToks x = keyToks y
  | .none, y, _, _, h => by cases y <;> first | rfl | (simp [PyData.eqv] at h)
  | .bool a, y, _, _, h => by
    cases y <;> simp [PyData.eqv] at h
    · rw [h]
    · simp only [keyToks]; rw [h]
  | .int a, y, _, _, h => by
    cases y <;> simp [PyData.eqv] at h
    · simp only [keyToks]; rw [h]
    · rw [h]
  | .str a, y, _, _, h => by
    cases y <;> simp [PyData.eqv] at h
    rw [h]
  | .list xs, y, hx, hy, h => by
    cases y with
    | list ys => simp only [keyToks]; exact eqvAll_toks xs ys (by simpa [PyData.plain] using hx) (by simpa [PyData.plain] using hy) (by simpa [PyData.eqv] using h)
    | _ => simp [PyData.eqv] at h
  | .tuple xs, y, hx, hy, h => by
    cases y with
    | tuple ys => simp only [keyToks]; exact eqvAll_toks xs ys (by simpa [PyData.plain] using hx) (by simpa [PyData.plain] using hy) (by simpa [PyData.eqv] using h)
    | _ => simp [PyData.eqv] at h
  | .dict _, _, hx, _, _ => by simp [PyData.plain] at hx
theorem eqvAll_toks : ∀ (xs ys : List PyData), PyData.plainAll xs = true → PyData.plainAll ys = true → PyData.eqvAll xs ys = true → keyToksAll xs = keyToksAll ys
  | [], [], _, _, _ => rfl
  | [], _ :: _, _, _, h => by simp [PyData.eqvAll] at h
  | _ :: _, [], _, _, h => by simp [PyData.eqvAll] at h
  | x :: xs, y :: ys, hx, hy, h => by
    rw [PyData.plainAll, Bool.and_eq_true] at hx hy
    rw [PyData.eqvAll, Bool.and_eq_true] at h
    rw [toks_all_cons, toks_all_cons, eqv_toks x y hx.1 hy.1 h.1, eqvAll_toks xs ys hx.2 hy.2 h.2]
end
mutual
theorem lik_toks : ∀ (x y : PyData), x.plain = true → y.plain = true → lik x y = true → PyData.eqv x y = false → ∀ l m, lexLt itemOrd (keyToks x ++ l) (keyToks y ++ m) = lexLt itemOrd (keyToks x) (keyToks y)
  | .tuple xs, y, hx, hy, h, e => by
    cases y with
    | tuple ys => simp only [keyToks]; exact likAll_toks xs ys (by simpa [PyData.plain] using hx) (by simpa [PyData.plain] using hy) (by simpa [lik] using h) (by simpa [PyData.eqv] using e)
    | _ => simp [lik, alike] at h
  | .none, y, _, _, h, e => (toks_eqv .none y (by simpa [lik] using h)).2 e
  | .bool a, y, _, _, h, e => (toks_eqv (.bool a) y (by simpa [lik] using h)).2 e
  | .int a, y, _, _, h, e => (toks_eqv (.int a) y (by simpa [lik] using h)).2 e
  | .str a, y, _, _, h, e => (toks_eqv (.str a) y (by simpa [lik] using h)).2 e
  | .list a, y, _, _, h, e => (toks_eqv (.list a) y (by simpa [lik] using h)).2 e
  | .dict a, y, hx, _, _, _ => by simp [PyData.plain] at hx
theorem likAll_toks : ∀ (xs ys : List PyData), PyData.plainAll xs = true → PyData.plainAll ys = true → likAll xs ys = true → PyData.eqvAll xs ys = false → ∀ l m, lexLt itemOrd (keyToksAll xs ++ l) (keyToksAll ys ++ m) = lexLt itemOrd (keyToksAll xs) (keyToksAll ys)
  | [], [], _, _, _, e => by simp [PyData.eqvAll] at e
  | [], y :: ys, _, _, _, _ => fun l m => by
    simp only [keyToksAll, List.cons_append, List.nil_append]
    exact Eq.trans (lex_atom (by simp) _ _) (Eq.symm (lex_atom (by simp) _ _))
  | x :: xs, [], _, _, _, _ => fun l m => by
    simp only [keyToksAll, List.cons_append, List.nil_append]
    exact Eq.trans (lex_atom (by simp) _ _) (Eq.symm (lex_atom (by simp) _ _))
  | x :: xs, y :: ys, hx, hy, h, e => fun l m => by
    rw [PyData.plainAll, Bool.and_eq_true] at hx hy
    rw [PyData.eqvAll] at e
    rw [likAll] at h
    rw [toks_all_cons, toks_all_cons, List.cons_append, List.cons_append, List.append_assoc, List.append_assoc, lex_self (O := itemOrd), lex_self (O := itemOrd)]
    cases q : PyData.eqv x y with
    | true =>
      rw [q, if_pos rfl, Bool.and_eq_true] at h
      rw [q, Bool.true_and] at e
      rw [eqv_toks x y hx.1 hy.1 q, lex_pre, lex_pre]
      exact likAll_toks xs ys hx.2 hy.2 h.2 e l m
    | false =>
      rw [q, if_neg (by simp)] at h
      rw [lik_toks x y hx.1 hy.1 h q, lik_toks x y hx.1 hy.1 h q]
end
/-- the order of rows, place by place -/
theorem lt_cons_yes {x y : PyData} {xs ys : List PyData} (hx : x.plain = true) (hy : y.plain = true) (e : PyData.eqv x y = true) : lexLt itemOrd (keyToksAll (x :: xs)) (keyToksAll (y :: ys)) = lexLt itemOrd (keyToksAll xs) (keyToksAll ys) := by
  rw [toks_all_cons, toks_all_cons, eqv_toks x y hx hy e, lex_self (O := itemOrd), lex_pre]
theorem lt_cons_no {x y : PyData} {xs ys : List PyData} (hx : x.plain = true) (hy : y.plain = true) (h : lik x y = true) (e : PyData.eqv x y = false) : lexLt itemOrd (keyToksAll (x :: xs)) (keyToksAll (y :: ys)) = dataLt x y := by
  rw [toks_all_cons, toks_all_cons, lex_self (O := itemOrd), lik_toks x y hx hy h e]
  rfl

/-! ### tuple.__lt__ -/
/-- what the rows' comparison asks, from the front -/
inductive Lex (A : Around) (s : Shared) : List Value → List Value → Bool → Prop
  | nil {ws : List Value} : Lex A s [] ws (!ws.isEmpty)
  | stop {v : Value} {vs : List Value} : Lex A s (v :: vs) [] false
  | next {v w : Value} {vs ws : List Value} {k : Bool} : EqAt A s v w true → Lex A s vs ws k → Lex A s (v :: vs) (w :: ws) k
  | here {v w : Value} {vs ws : List Value} {k : Bool} : EqAt A s v w false → RcLt A s v w k → Lex A s (v :: vs) (w :: ws) k
theorem tup_lt (l b : Addr) (its its2 : Array Value) (n n2 : Nat) (dd dd2 : Option Addr) (sl sl2 : Array (Option Value)) (k : Bool) :
    Meets (Builtin.«tuple.__lt__» ⟨[.ref l, .ref b], []⟩) (fun A R s => s.heap.get? l = some { cls := .type "tuple", dict := dd, data := .seq its n, slots := sl } ∧
      s.heap.get? b = some { cls := .type "tuple", dict := dd2, data := .seq its2 n2, slots := sl2 } ∧ Lex A.in1 s its.toList its2.toList k ∧ R (.ok (.ret (.bool k))) s) :=
  .of_wp fun prog w A R s h => by
    obtain ⟨hp, g, d, tk, os⟩ := s
    obtain ⟨hl, hb, hx, h⟩ := h
    have z0 := AutoSeq1.sub_tuple_tuple
    wp_walk using wpAny_loadPart' hl, wpAny_loadPart' hb, wpAny_forIn_list _ (fun rest b s' => b.1 = none ∧ s' = ⟨hp, g, d, tk, os⟩ ∧ ∃ vs ws, rest = vs.zip ws ∧ Lex A.in1 ⟨hp, g, d, tk, os⟩ vs ws k ∧ vs.length + its2.size = ws.length + its.size) _
    case h => exact ⟨rfl, rfl, its.toList, its2.toList, rfl, hx, by simp [Nat.add_comm]⟩
    case turn =>
      rintro ⟨y, x⟩ rest b s' ⟨hn, rfl, vs, ws, hz, hq, hs⟩
      cases hq with
      | nil => rw [List.zip_nil_left] at hz; cases hz
      | stop => rw [List.zip_nil_right] at hz; cases hz
      | next e1 t1 =>
        rw [List.zip_cons_cons] at hz
        obtain ⟨e2, e3⟩ := List.cons.inj hz
        obtain ⟨rfl, rfl⟩ := Prod.mk.inj e2
        refine wpAny_bind (e1 prog w _ _ ?_)
        wp_walk
        exact ⟨rfl, rfl, _, _, e3, t1, by simp only [List.length_cons] at hs; omega⟩
      | here e1 t1 =>
        rw [List.zip_cons_cons] at hz
        obtain ⟨e2, e3⟩ := List.cons.inj hz
        obtain ⟨rfl, rfl⟩ := Prod.mk.inj e2
        refine wpAny_bind (e1 prog w _ _ ?_)
        have t2 := fun E Q => t1 prog w E Q
        wp_walk using t2
        exact ⟨_, rfl, h⟩
    case fin =>
      rintro ⟨b1, b2⟩ s' ⟨hn, rfl, vs, ws, hz, hq, hs⟩
      simp only at hn
      subst hn
      have ek : k = decide (its.size < its2.size) := by
        cases hq with
        | nil =>
          cases ws with
          | nil => exact (decide_eq_false (by simp only [List.length_nil] at hs; omega)).symm
          | cons a r => exact (decide_eq_true (by simp only [List.length_nil, List.length_cons] at hs; omega)).symm
        | stop => exact (decide_eq_false (by simp only [List.length_nil, List.length_cons] at hs; omega)).symm
        | next _ _ => rw [List.zip_cons_cons] at hz; cases hz
        | here _ _ => rw [List.zip_cons_cons] at hz; cases hz
      rw [ek] at h
      wp_walk
      exact ⟨_, rfl, by simpa [Builtin.Tuple.tupleCompareSizes] using h⟩
theorem lt_tups {A : Around} {s : Shared} {l b : Addr} {its its2 : Array Value} {k : Bool} (hl : s.heap.IsTuple l its) (hb : s.heap.IsTuple b its2) (hu : A.units < cLine) (hx : Lex A.in1 s its.toList its2.toList k) : RcLt A s (.ref l) (.ref b) k := fun prog w E Q h => by
  obtain ⟨⟨c1, d1, x1, sl1⟩, ho, hc, n, hd⟩ := id hl
  obtain ⟨⟨c2, d2, x2, sl2⟩, ho2, hc2, n2, hd2⟩ := id hb
  simp only at hc hd hc2 hd2
  subst hc hd hc2 hd2
  exact richCompare_meets_room (op := .Lt) ⟨_, ho, rfl⟩ ⟨_, ho2, rfl⟩ PySem.F.slot_tuple_lt PySem.F.entry_tuple_lt (PySem.F.args_tuple_lt_2 _ _) (tup_lt l b its its2 n n2 d1 d2 sl1 sl2 k) ⟨ho, ho2, hx, (fun x => nomatch x), h⟩ hu
mutual
theorem lt_lik : ∀ (da db : PyData) (A : Around) (s : Shared) (a b : Value) (as bs : List Addr), Reads s.heap a da as → Reads s.heap b db bs → da.plain = true → db.plain = true → lik da db = true → da ≠ .none → A.units + min da.depth db.depth < cLine → RcLt A s a b (dataLt da db)
  | .tuple xs, db, A, s, a, b, as, bs, ra, rb, hx, hy, h, _, hu => by
    cases db with
    | tuple ys =>
      rw [dataLt_tuple]
      cases ra with
      | @tuple l o vs n _ as1 h1 h2 h3 h4 =>
        cases rb with
        | @tuple l' o' vs' n' _ bs1 k1 k2 k3 k4 =>
          exact lt_tups ⟨_, h1, h2, _, h3⟩ ⟨_, k1, k2, _, k3⟩ (room_here hu) (lt_likAll xs ys A.in1 s vs.toList vs'.toList _ _ h4 k4 (by simpa [PyData.plain] using hx) (by simpa [PyData.plain] using hy) (by simpa [lik] using h) (room_in hu))
    | _ => simp [lik, alike] at h
  | .none, _, _, _, _, _, _, _, _, _, _, _, _, n, _ => absurd rfl n
  | .bool a, db, A, s, _, _, _, _, ra, rb, _, _, h, n, hu => rcLt_alike (.bool a) db A s _ _ _ _ ra rb (by simpa [lik] using h) n hu
  | .int a, db, A, s, _, _, _, _, ra, rb, _, _, h, n, hu => rcLt_alike (.int a) db A s _ _ _ _ ra rb (by simpa [lik] using h) n hu
  | .str a, db, A, s, _, _, _, _, ra, rb, _, _, h, n, hu => rcLt_alike (.str a) db A s _ _ _ _ ra rb (by simpa [lik] using h) n hu
  | .list a, db, A, s, _, _, _, _, ra, rb, _, _, h, n, hu => rcLt_alike (.list a) db A s _ _ _ _ ra rb (by simpa [lik] using h) n hu
  | .dict a, _, _, _, _, _, _, _, _, _, hx, _, _, _, _ => by simp [PyData.plain] at hx
theorem lt_likAll : ∀ (xs ys : List PyData) (A : Around) (s : Shared) (vs ws : List Value) (as bs : List Addr), ReadsAll s.heap vs xs as → ReadsAll s.heap ws ys bs → PyData.plainAll xs = true → PyData.plainAll ys = true → likAll xs ys = true →
    A.units + min (PyData.depthAll xs) (PyData.depthAll ys) < cLine → Lex A s vs ws (lexLt itemOrd (keyToksAll xs) (keyToksAll ys))
  | [], [], A, s, _, _, _, _, ra, rb, _, _, _, _ => by
    cases ra; cases rb
    rw [lex_irrefl]
    exact Lex.nil (ws := [])
  | [], y :: ys, A, s, _, _, _, _, ra, rb, _, _, _, _ => by
    cases ra
    cases rb with
    | cons r' rs' =>
      have e : lexLt itemOrd (keyToksAll []) (keyToksAll (y :: ys)) = true := by
        rw [toks_all_cons]
        simp only [keyToksAll]
        rw [lex_diff (O := itemOrd) (by simp)]
        rfl
      rw [e]
      exact Lex.nil (ws := _ :: _)
  | x :: xs, [], A, s, _, _, _, _, ra, rb, _, _, _, _ => by
    cases rb
    cases ra with
    | cons r rs =>
      have e : lexLt itemOrd (keyToksAll (x :: xs)) (keyToksAll []) = false := by
        rw [toks_all_cons]
        simp only [keyToksAll]
        rw [lex_diff (O := itemOrd) (by simp)]
        rfl
      rw [e]
      exact .stop
  | x :: xs, y :: ys, A, s, _, _, _, _, ra, rb, hx, hy, h, hu => by
    rw [PyData.plainAll, Bool.and_eq_true] at hx hy
    rw [likAll] at h
    cases ra with
    | cons r rs =>
      cases rb with
      | cons r' rs' =>
        have q := eqAt_plain x y A s _ _ _ _ r r' hx.1 hy.1 (room_head hu)
        cases e : PyData.eqv x y with
        | true =>
          rw [e, if_pos rfl, Bool.and_eq_true] at h
          rw [lt_cons_yes hx.1 hy.1 e]
          rw [e] at q
          exact .next q (lt_likAll xs ys A s _ _ _ _ rs rs' hx.2 hy.2 h.2 (room_tail hu))
        | false =>
          rw [e, if_neg (by simp)] at h
          rw [lt_cons_no hx.1 hy.1 h e]
          rw [e] at q
          exact .here q (lt_lik x y A s _ _ _ _ r r' hx.1 hy.1 h (fun z => by subst z; rw [lik_none h] at e; simp [PyData.eqv] at e) (room_head hu))
end
end Z
set_option Elab.async false
set_option linter.all false
set_option maxRecDepth 100000
set_option maxHeartbeats 1000000
/-! Z16: sorted of a list or of a dict's keys. -/
namespace Z
open PySem PySem.Spec PyProof.Rows L2
open PySem.SeqAt PySem.W

theorem lik_alike {x y : PyData} (h : lik x y = true) (n : ∀ xs, x ≠ .tuple xs) : alike x y = true := by
  cases x with
  | tuple xs => exact absurd rfl (n xs)
  | _ => simpa [lik] using h
theorem tag_type {x y : PyData} (h : tagD x = tagD y) : dataType x = dataType y := by
  cases x <;> cases y <;> first | rfl | (simp [tagD] at h)
section
variable {prog : Program} {w : World} {A : Around} {E : Value → Shared → Prop} {s : Shared}
theorem one_lik {f : Bool} {da db : PyData} {a b : Value} {as bs : List Addr} {Q : Bool → Shared → Prop} (hf : f = true → ∀ xs, da ≠ .tuple xs) (ra : Reads s.heap a da as) (rb : Reads s.heap b db bs) (hx : da.plain = true) (hy : db.plain = true) (h : lik da db = true) (hn : da ≠ .none)
    (hu : A.units + min da.depth db.depth < cLine) (hq : Q (dataLt da db) s) : wpAny (model prog w) A (oneLt' f a b) Q E s := by
  cases f with
  | true => exact oneLt_alike hf ra rb (lik_alike h (hf rfl)) hn hu hq
  | false =>
    rw [oneLt'_eq]
    simp only [Bool.false_eq_true, if_false]
    exact wpAny_bind (lt_lik da db A s a b as bs ra rb hx hy h hn hu prog w E _ (wpAny_truthy_bool hq))
theorem kat_lik {b fin : Bool} {Q : Bool → Shared → Prop} : ∀ (xs ys : List PyData) (i : Nat) (vs ws : List Value) (as bs : List Addr), ReadsAll s.heap vs xs as → ReadsAll s.heap ws ys bs → PyData.plainAll xs = true → PyData.plainAll ys = true → likAll xs ys = true →
    A.units + min (PyData.depthAll xs) (PyData.depthAll ys) < cLine → (b = true → i = 0 → ∀ x r t, xs = x :: r → x ≠ .tuple t) → fin = decide (xs.length < ys.length) → Q (PyProof.Rows.lexLt itemOrd (keyToksAll xs) (keyToksAll ys)) s → KatLex prog w A b fin Q (vs.zip ws) i s
  | [], [], i, _, _, _, _, ra, rb, _, _, _, _, _, hf, hq => by
    cases ra; cases rb
    subst hf
    rw [lex_irrefl] at hq
    exact kat_nil hq
  | [], y :: ys, i, _, _, _, _, ra, rb, _, _, _, _, _, hf, hq => by
    cases ra
    subst hf
    rw [toks_all_cons] at hq
    simp only [keyToksAll] at hq
    rw [lex_diff (O := itemOrd) (by simp)] at hq
    rw [List.zip_nil_left]
    exact kat_nil (by simpa [itemLt] using hq)
  | x :: xs, [], i, _, _, _, _, ra, rb, _, _, _, _, _, hf, hq => by
    cases rb
    subst hf
    rw [toks_all_cons] at hq
    simp only [keyToksAll] at hq
    rw [lex_diff (O := itemOrd) (by simp)] at hq
    rw [List.zip_nil_right]
    exact kat_nil (by simpa [itemLt] using hq)
  | x :: xs, y :: ys, i, _, _, _, _, ra, rb, hx, hy, h, hu, hb, hf, hq => by
    rw [PyData.plainAll, Bool.and_eq_true] at hx hy
    rw [likAll] at h
    cases ra with
    | cons r rs =>
      cases rb with
      | cons r' rs' =>
        rw [List.zip_cons_cons]
        have q := eqAt_plain x y A s _ _ _ _ r r' hx.1 hy.1 (room_head hu)
        refine kat_cons (q prog w _ _ ?_)
        cases e : PyData.eqv x y with
        | true =>
          rw [e, if_pos rfl, Bool.and_eq_true] at h
          rw [lt_cons_yes hx.1 hy.1 e] at hq
          exact kat_yes (kat_lik xs ys (i + 1) _ _ _ _ rs rs' hx.2 hy.2 h.2 (room_tail hu) (fun _ z => by cases z) (by rw [hf, List.length_cons, List.length_cons]; simp) hq)
        | false =>
          rw [e, if_neg (by simp)] at h
          rw [lt_cons_no hx.1 hy.1 h e] at hq
          refine kat_no (one_lik (fun hbi t => ?_) r r' hx.1 hy.1 h (fun z => by subst z; rw [lik_none h] at e; simp [PyData.eqv] at e) (room_head hu) hq)
          rw [Bool.and_eq_true] at hbi
          exact hb hbi.1 (by simpa using hbi.2) x xs t rfl
/-- the data may be sorted -/
def tupNe : PyData → Bool
  | .tuple (_ :: _) => true
  | _ => false
def noTup : PyData → Bool
  | .tuple _ => false
  | .none => false
  | _ => true
def srt (ds : List PyData) : Bool := (ds.all fun d => pl d) && (ds.all fun d => ds.all fun e => lik d e) && (ds.all tupNe || ds.all noTup)
theorem srt_ok {ds : List PyData} (h : srt ds = true) : (∀ d ∈ ds, pl d = true) ∧ (∀ d ∈ ds, ∀ e ∈ ds, lik d e = true) ∧ ((∀ d ∈ ds, tupNe d = true) ∨ ∀ d ∈ ds, noTup d = true) := by
  unfold srt at h
  simp only [Bool.and_eq_true, Bool.or_eq_true, List.all_eq_true] at h
  exact ⟨h.1.1, h.1.2, h.2⟩
theorem kind_some {h : Heap} {ds : List PyData} (hp : ∀ d ∈ ds, pl d = true) {v : Value} {d : PyData} {as : List Addr} (hd : d ∈ ds) (r : Reads h v d as) : (dataKind h ds).keyOf v = some (keyToks d) := by
  have q : ∃ d, d ∈ ds ∧ ∃ as, Reads h v d as := ⟨d, hd, as, r⟩
  have e : (dataKind h ds).keyOf v = some (keyToks q.choose) := by
    show (open Classical in if q : ∃ d, d ∈ ds ∧ ∃ as, Reads h v d as then some (keyToks q.choose) else none) = some (keyToks q.choose)
    exact dif_pos q
  obtain ⟨h1, as', h2⟩ := q.choose_spec
  rw [e, plain_unique _ _ _ _ _ (pl_ok (hp _ h1)).1 h2 r]
theorem sorts {vs : List Value} {ds : List PyData} (e : EachIs (fun v d => ∃ as, Reads s.heap v d as) vs ds) (h : srt ds = true) (hu : A.units + 40 < cLine) : SortsAt prog w A s (dataKind s.heap ds) vs := by
  obtain ⟨hp, hl, hk⟩ := srt_ok h
  have hp' : ∀ d ∈ ds, d.plain = true := fun d m => (pl_ok (hp d m)).1
  have room : ∀ {d d' : PyData}, d ∈ ds → A.units + min d.depth d'.depth < cLine := fun {d d'} m => by
    have := (pl_ok (hp d m)).2
    have := Nat.min_le_left d.depth d'.depth
    omega
  refine ⟨fun v hv => ?_, ?_⟩
  · obtain ⟨d, hd, as, r⟩ := e.left v hv
    exact ⟨_, kind_some hp hd r⟩
  rcases hk with ht | hn
  · have ht' : ∀ d, d ∈ ds → ∃ x r, d = .tuple (x :: r) := fun d m => by
      have := ht d m
      cases d with
      | tuple xs => cases xs with
        | nil => cases this
        | cons x r => exact ⟨x, r, rfl⟩
      | _ => cases this
    cases ds with
    | nil =>
      cases e
      exact ⟨general', (fun E x y a b Q ha _ _ => by
        obtain ⟨d, _, hd, _⟩ := dataKind_inv ha
        cases hd), fun h2 => by cases h2⟩
    | cons d0 ds0 =>
      obtain ⟨x0, r0, e0⟩ := ht' d0 List.mem_cons_self
      have first : ∀ x r, PyData.tuple (x :: r) ∈ d0 :: ds0 → dataType x = dataType x0 := fun x r m => by
        have q := hl _ m d0 List.mem_cons_self
        rw [e0] at q
        have q : likAll (x :: r) (x0 :: r0) = true := by simpa [lik] using q
        rw [likAll] at q
        split at q
        · rw [Bool.and_eq_true] at q
          exact tag_type (by simpa using q.1)
        · exact tag_type (lik_tag q)
      refine ⟨tuples' (dataType x0 != Value.type "tuple"), ?_, fun h2 E Q hq => ?_⟩
      · intro E x y a b Q ha hb hq
        obtain ⟨d, as, hd, ra, rfl⟩ := dataKind_inv ha
        obtain ⟨d', as', hd', rb, rfl⟩ := dataKind_inv hb
        have hdd := hl d hd d' hd'
        have hr := room (d' := d') hd
        have p1 := hp' d hd
        have p2 := hp' d' hd'
        obtain ⟨x1, r1, rfl⟩ := ht' d hd
        obtain ⟨x2, r2, rfl⟩ := ht' d' hd'
        have hq2 : Q (dataLt (.tuple (x1 :: r1)) (.tuple (x2 :: r2))) s := hq
        rw [dataLt_tuple] at hq2
        cases ra with
        | @tuple l o xs n _ _ h1 h2 h3 h4 =>
          cases rb with
          | @tuple l' o' xs' n' _ _ k1 k2 k3 k4 =>
            have n1 : xs.size = (x1 :: r1).length := by simpa using SeqAt.ReadsAll.length _ _ _ h4
            have n2 : xs'.size = (x2 :: r2).length := by simpa using SeqAt.ReadsAll.length _ _ _ k4
            refine kat_lt h1 h3 k1 k3 (kat_lik (x1 :: r1) (x2 :: r2) 0 _ _ _ _ h4 k4 (by simpa [PyData.plain] using p1) (by simpa [PyData.plain] using p2) (by simpa [lik] using hdd) (by have := SeqAt.room_in hr; omega) (fun hb _ x r t ex => ?_) (by rw [n1, n2]) hq2)
            obtain ⟨rfl, rfl⟩ := List.cons.inj ex
            rw [← first _ _ hd] at hb
            exact dataType_tuple hb t
      · obtain ⟨fs, t1, t2, t3⟩ := each_katTups e ht'
        refine kat_kind (T := dataType x0) t1 (by omega) (fun f hf => ?_) (beq_self_eq_true _) hq
        obtain ⟨x, r, as, m1, m2⟩ := t3 f hf
        rw [← first x r m1]
        exact looks_reads m2
  · have hn' : ∀ d, d ∈ ds → d ≠ .none ∧ ∀ xs, d ≠ .tuple xs := fun d m => by
      have q := hn d m
      refine ⟨fun z => ?_, fun xs z => ?_⟩ <;> (rw [z] at q; cases q)
    refine ⟨oneType', ?_, fun h2 E Q hq => ?_⟩
    · intro E x y a b Q ha hb hq
      obtain ⟨d, as, hd, ra, rfl⟩ := dataKind_inv ha
      obtain ⟨d', as', hd', rb, rfl⟩ := dataKind_inv hb
      rw [keyLt'_oneType]
      exact one_lik (fun _ => (hn' d hd).2) ra rb (hp' d hd) (hp' d' hd') (hl d hd d' hd') (hn' d hd).1 (room hd) hq
    · cases ds with
      | nil => cases e; cases h2
      | cons d0 ds0 =>
        refine kas_kind (T := dataType d0) h2 (fun v hv => ?_) (dataType_other (hn' d0 List.mem_cons_self).2) (beq_self_eq_true _) hq
        obtain ⟨d, hd, as, r⟩ := e.left v hv
        rw [← tag_type (lik_tag (hl d hd d0 List.mem_cons_self))]
        exact looks_reads r
end

/-! ### by values -/
/-- data, sorted -/
def sortD (ds : List PyData) : List PyData := ds.mergeSort (dataLe false id)
section
variable {X : Cx} {pins : List (Addr × Obj)} {σ : L2.St} {H : Hp} {s : Shared}
theorem each_of {vs : List Value} : ∀ {xs : List V} {ds : List PyData}, Vals xs vs → TsX X H xs ds → EachIs (fun v d => ∃ x, RelV x v ∧ TX X H x d) vs ds := by
  induction vs with
  | nil => intro xs ds r t; cases r; cases t; exact .nil
  | cons v vs ih =>
    intro xs ds r t
    cases r with
    | cons r rs => cases t with
      | cons t ts => exact .cons ⟨_, r, t⟩ (ih rs ts)
theorem of_each : ∀ {vs : List Value} {ds : List PyData}, EachIs (fun v d => ∃ x, RelV x v ∧ TX X H x d) vs ds → ∃ xs, Vals xs vs ∧ TsX X H xs ds
  | _, _, .nil => ⟨[], .nil, .nil⟩
  | _, _, .cons ⟨x, r, t⟩ h => by
    obtain ⟨xs, rs, ts⟩ := of_each h
    exact ⟨x :: xs, .cons r rs, .cons t ts⟩
theorem each_reads (I : Inv X pins σ H s) : ∀ {vs : List Value} {ds : List PyData}, (∀ d ∈ ds, pl d = true) → EachIs (fun v d => ∃ x, RelV x v ∧ TX X H x d) vs ds → EachIs (fun v d => ∃ as, Reads s.heap v d as) vs ds
  | _, _, _, .nil => .nil
  | _, _, hp, .cons ⟨x, r, t⟩ h => .cons (t.reads I (pl_ok (hp _ List.mem_cons_self)).1 r) (each_reads I (fun d m => hp d (List.mem_cons_of_mem _ m)) h)
/-- list.sort on a new list -/
theorem sort_run {A : Around} {E : Value → Shared → Prop} {g : Heap} {tk : Nat} {p : Addr} {vs : List Value} {ds : List PyData} (I : Inv X pins σ H s) (kp : ∀ b o, s.heap.get? b = some o → g.get? b = some o) (hp : s.heap.objs.size ≤ p) (hg : g.get? p = some (seqObj "list" vs.toArray 0))
    (e : EachIs (fun v d => ∃ x, RelV x v ∧ TX X H x d) vs ds) (h : srt ds = true) (hu : A.units + 40 < cLine) (hL : vs.length ≤ sizeLine) :
    wpAny (model X.prog X.w) A (Builtin.«list.sort» ⟨[.ref p], []⟩) (fun f s' => f = .done (.ret .none) ∧ ∃ xs, TsX X H xs (sortD ds) ∧ H p = none ∧ Inv X pins σ (upd H p (.lst xs)) s') E { s with heap := g, toks := tk } := by
  have hp' := (srt_ok h).1
  have keep2 : ∀ b o, s.heap.get? b = some o → (sortingHeap g p vs).get? b = some o := fun b o eb => sortingHeap_old (Nat.ne_of_lt (Nat.lt_of_lt_of_le (Heap.lt_size eb) hp)) (kp b o eb)
  have I2 : Inv X pins σ H { s with heap := sortingHeap g p vs, toks := tk } := I.kept keep2
  have er := each_reads I2 hp' e
  refine list_sort_vals (s := { s with heap := g, toks := tk }) hg (sorts (s := { s with heap := sortingHeap g p vs, toks := tk }) er h hu) hL ⟨rfl, ?_⟩
  have eo : EachIs (fun v d => ∃ x, RelV x v ∧ TX X H x d) (sortVals (dataKind (sortingHeap g p vs) ds) false vs vs) (sortD ds) := by
    refine sortVals_each (κ := dataKind (sortingHeap g p vs) ds) (fun b => keyToks (id b)) e ?_
    have mem := each_mem er
    exact mem.mono fun v d ⟨⟨as, r⟩, m⟩ => kind_some hp' m r
  obtain ⟨xs, rv, ts⟩ := of_each eo
  have hn : H p = none := by
    cases q : H p with
    | none => rfl
    | some u =>
      obtain ⟨o, ho⟩ := got (I.hok p u q)
      exact absurd (Heap.lt_size ho) (Nat.not_lt.mpr hp)
  refine ⟨xs, ts, hn, ?_⟩
  obtain ⟨c, hc⟩ := PyProof.Rows.sortedHeap_at (vs := vs) (out := (sortVals (dataKind (sortingHeap g p vs) ds) false vs vs).toArray) hg
  refine I.laid (a := p) (t' := tk) (fun b o eb => ?_) hp ⟨?_, _, c, rv, hc⟩
  · rw [PyProof.Rows.sortedHeap_old (Nat.ne_of_lt (Nat.lt_of_lt_of_le (Heap.lt_size eb) hp)) (Heap.lt_size (kp b o eb))]
    exact kp b o eb
  · rw [rv.length, sortVals_length false rfl]
    exact hL

/-! ### a dict's entries, raw -/
theorem dat_raw {a : Addr} {es : Es} (I : Inv X pins σ H s) (d : DAt X H a es) : (a == sysModules) = false ∧ es.length ≤ sizeLine ∧ ∃ (o : Obj) (des : Array DictEntry) (ep : Nat), s.heap.get? a = some o ∧ o.ExactDict ∧ o.data = .dict des ep ∧ des.size = es.length ∧
    ∀ (j : Nat) (p : NestedKey × V × V), es[j]? = some p → ∃ en, des[j]? = some en ∧ RelV p.2.1 en.key ∧ RelV p.2.2 en.val := by
  obtain ⟨u, d, e⟩ := d
  cases e with
  | dK kvs =>
    obtain ⟨z, hd, vs, rel, o, des, ep, h1, h2, h3, h4, h5, h6⟩ := dk_rd I.hok d
    have el := rel.length
    refine ⟨hd, by rw [List.length_map]; exact z, o, des, ep, h1, h2, h3, by rw [List.length_map, el, ← h5.length, Array.length_toList], fun j p hj => ?_⟩
    rw [List.getElem?_map] at hj
    obtain ⟨x, hx, rfl⟩ := Option.map_eq_some_iff.mp hj
    have gen : ∀ {l : List DictEntry} {m : List (L2.Key × Value)} {n : List (L2.Key × V)}, Pairs (mixKind X.prog X.w) l m → KV n m → ∀ (j : Nat) (x : L2.Key × V), n[j]? = some x → ∃ en, l[j]? = some en ∧ RelV (kV x.1) en.key ∧ RelV x.2 en.val := by
      intro l m n pr
      induction pr generalizing n with
      | nil => intro kv j x hx; cases kv; simp at hx
      | cons q1 q2 _ ih =>
        intro kv j x hx
        cases kv with
        | cons k1 k2 =>
          cases j with
          | zero =>
            cases Option.some.inj hx
            refine ⟨_, rfl, ?_, ?_⟩
            · rw [k1.1]; exact keyIs_rel q1
            · rw [q2]; exact k1.2
          | succ j =>
            obtain ⟨en, a1, a2, a3⟩ := ih k2 j x (by simpa using hx)
            exact ⟨en, by simpa using a1, a2, a3⟩
    obtain ⟨en, a1, a2, a3⟩ := gen h5 rel j x hx
    exact ⟨en, by rw [← Array.getElem?_toList]; exact a1, a2, a3⟩
  | dN kvs _ _ _ =>
    obtain ⟨⟨z, hd, zs, rel, o, des, ep, h1, h2, h3, h4, h5⟩, _⟩ := (show ObjOk X.prog X.w H s.heap a (HoN X.prog X.w a kvs) from d.ok I.hok)
    have el := Paired.length rel
    have l4 : des.size = zs.length := by
      have := congrArg List.length h4
      simpa using this
    refine ⟨hd, by rw [List.length_map]; exact z, o, des, ep, h1, h2, h3, by rw [List.length_map, el, l4], fun j p hj => ?_⟩
    rw [List.getElem?_map] at hj
    obtain ⟨x, hx, rfl⟩ := Option.map_eq_some_iff.mp hj
    have gen : ∀ {n : List (NestedKey × Addr × V)} {m : List (NestedKey × Addr × Value)}, Paired (fun (p : NestedKey × Addr × V) (q : NestedKey × Addr × Value) => p.1 = q.1 ∧ p.2.1 = q.2.1 ∧ RelV p.2.2 q.2.2) n m → ∀ (j : Nat) (x : NestedKey × Addr × V), n[j]? = some x → ∃ y, m[j]? = some y ∧ x.2.1 = y.2.1 ∧ RelV x.2.2 y.2.2 := by
      intro n m q
      induction q with
      | nil => intro j x hx; simp at hx
      | cons h _ ih =>
        intro j x hx
        cases j with
        | zero => cases Option.some.inj hx; exact ⟨_, rfl, h.2.1, h.2.2⟩
        | succ j => simpa using ih j x (by simpa using hx)
    obtain ⟨y, b1, b2, b3⟩ := gen rel j x hx
    refine ⟨entryOfKey (nestedKind X.prog X.w) y, ?_, ?_, ?_⟩
    · rw [← Array.getElem?_toList, h4, List.getElem?_map, b1]; rfl
    · show RelV (.ref x.2.1) (Value.ref y.2.1)
      rw [b2]; rfl
    · exact b3
/-- its keys, collected -/
theorem keys_vals {es : Es} {des : Array DictEntry} {acc : Array Value} (hs : des.size = es.length) (h : ∀ (j : Nat) (p : NestedKey × V × V), es[j]? = some p → ∃ en, des[j]? = some en ∧ RelV p.2.1 en.key ∧ RelV p.2.2 en.val)
    (ha : acc.size = des.size) (hv : ∀ (j : Nat) (v : Value), acc[j]? = some v → ∃ en : DictEntry, des[j]? = some en ∧ v = en.key) : Vals (es.map fun p => p.2.1) acc.toList := by
  refine vals_of_at (by rw [List.length_map]; exact hs.symm.trans (ha.symm.trans Array.length_toList.symm)) fun j x v h1 h2 => ?_
  rw [List.getElem?_map] at h1
  obtain ⟨p, hp, rfl⟩ := Option.map_eq_some_iff.mp h1
  obtain ⟨en, e1, e2, _⟩ := h j p hp
  obtain ⟨en', e3, rfl⟩ := hv j v (by rw [← Array.getElem?_toList]; exact h2)
  rw [e1] at e3
  cases e3
  exact e2
theorem keys_ts {es : Es} (tk : Keys X H es) : TsX X H (es.map fun p => p.2.1) (es.map fun p => p.1.data) := by
  induction es with
  | nil => exact .nil
  | cons p r ih => exact .cons (tk p List.mem_cons_self) (ih fun q m => tk q (List.mem_cons_of_mem _ m))

/-! ### sorted -/
/-- a list's items, or a dict's keys -/
def rowO (o : O) : Option (List PyData) := match o with
  | .dat (.list ds) => some ds
  | .lst os => datsO os
  | .dct kvs => some (kvs.map fun p => p.1.data)
  | .dat (.dict ds) => (thawK ds).map fun kvs => kvs.map fun p => p.1.data
  | _ => none
def sortedO (o : O) : Option O := (rowO o).bind fun ds => if srt ds = true then some (.lst ((sortD ds).map .dat)) else none
theorem pSorted (hc : X.calm = true) (hu : X.A.units + 64 < cLine) : CallP X (.builtin "sorted") sortedO := fun pins s σ H xs us Q I rx ⟨x, o, G, r, e1, ro, ng, hg, n⟩ => by
  subst e1
  unfold sortedO at hg
  cases e : rowO o with
  | none => rw [e] at hg; cases hg
  | some ds =>
    simp only [e, Option.bind_some] at hg
    split at hg
    · rename_i hs
      cases hg
      have fin : ∀ (p : Addr) (s' : Shared), (∃ ys, TsX X H ys (sortD ds) ∧ H p = none ∧ Inv X pins σ (upd H p (.lst ys)) s') → EP X pins σ Q (.ref p) s' := fun p s' ⟨ys, t, hp, I'⟩ => ⟨.ref p, _, I', rfl, n.lst t p hp⟩
      have hu2 : X.A.in1.in1.units + 40 < cLine := by
        show X.A.units + 1 + 1 + 40 < cLine
        omega
      have lst : ∀ a ys, x = .ref a → SqL X.K H a ys → TsX X H ys ds → wpAny (model X.prog X.w) X.A (call (.builtin "sorted") us) (EP X pins σ Q) X.xe s := fun a ys ex hl ts => by
        subst ex
        obtain ⟨u, rfl, ru⟩ := rx.one
        cases ru
        obtain ⟨its, rv, pl, hz⟩ := I.list hl
        have hlen : its.length ≤ sizeLine := by rw [← rv.length]; exact hz
        refine sorted_of_sort pl.isList hlen (PyProof.Rows.args_sorted1 _) (fun _ => PyProof.Rows.args_list_sort _) fun E' => ?_
        exact wpAny_mono (sort_run (tk := s.toks) I (fun b o => copyHeap_old) (Nat.le_succ _) (copyHeap_at s.heap its) (each_of rv ts) hs hu2 hlen) (fun f s' ⟨h1, h2⟩ => ⟨h1, fin _ s' h2⟩) fun _ _ z => z
      have dct : ∀ kvs, asD o = some kvs → ds = kvs.map (fun p => p.1.data) → wpAny (model X.prog X.w) X.A (call (.builtin "sorted") us) (EP X pins σ Q) X.xe s := fun kvs ha hds => by
        obtain ⟨a, es, G', rfl, d, tk, _, _⟩ := asD_at ro ha
        obtain ⟨u, rfl, ru⟩ := rx.one
        cases ru
        have en : es.map (fun p => p.1.data) = ds := by
          rw [hds]
          have := congrArg (List.map NestedKey.data) tk.names
          simpa [List.map_map, Function.comp_def] using this
        obtain ⟨lo, hz, ob, des, ep, h1, h2, h3, h4, h5⟩ := dat_raw I d
        refine Calls.call_function_entry PyProof.Rows.kind_sorted PyProof.Rows.plain_sorted PyProof.Rows.entry_sorted (PyProof.Rows.args_sorted1 _) ?_
        unfold Builtin.«sorted»
        refine wpAny_bind (m := checkCount "sorted" 1 1 _) (wpAny_pure ?_)
        refine wpAny_bind (PySem.W.kdu_collect (A := X.A.in1) (kdl_raw lo h2 h3) (I.ok.hd hc) h1 (by omega) fun h' tk' acc hk hacc => ?_)
        have I1 : Inv X pins σ H { s with heap := h', toks := tk' } := I.kept hk
        have rv := keys_vals h4 h5 hacc.1 hacc.2
        have hlen : acc.toList.length ≤ sizeLine := by rw [← rv.length, List.length_map]; exact hz
        refine wpAny_bind (wpAny_newList ?_ hlen)
        have ts := keys_ts tk.keys
        rw [en] at ts
        have at' : (h'.push (seqObj "list" acc.toList.toArray 0)).get? h'.objs.size = some (seqObj "list" acc.toList.toArray 0) := Heap.get?_push_size _ rfl
        refine wpAny_bind (wpAny_holding (wpAny_call_entry PyProof.Rows.slot_list_sort ⟨_, at', rfl⟩ PyProof.Rows.entry_list_sort ?_ (PyProof.Rows.args_list_sort _)))
        refine wpAny_mono (sort_run (tk := tk') I1 (fun b o q => Heap.get?_push_of_some _ q) (Nat.le_refl _) at' (each_of rv ts) hs hu2 hlen) (fun f s' ⟨z1, z2⟩ => ?_) fun _ _ z => z
        exact ⟨_, z1, wpAny_pure ⟨_, rfl, fin _ s' z2⟩⟩
      unfold rowO at e
      split at e
      · cases e
        obtain ⟨a, ys, h1, h2, h3⟩ := ro.flat.2.lst_of
        exact lst a ys h1 h2.seq h3
      · cases ro with
        | lst h1 h2 => exact lst _ _ rfl (SqL.of h1) (datsO_ok h2 e)
      · cases e; exact dct _ rfl rfl
      · rename_i dd
        cases e2 : thawK dd with
        | none => rw [e2] at e; cases e
        | some kvs => rw [e2] at e; cases e; exact dct kvs e2 rfl
      · cases e
    · cases hg
end
end Z
set_option Elab.async false
set_option linter.all false
set_option maxRecDepth 100000
set_option maxHeartbeats 1000000
/-! Z17: walks over dicts that last. -/
namespace Z
open PySem PySem.Spec PyProof.Rows L2
open PySem.W

/-- the keys of the dict at d, in order -/
def ItK (P : Program) (w : World) (d : Addr) (o : Obj) (u : HO) (es : Es) : It :=
  ⟨fun i H => H d = some (.frz o u) ∧ i < es.length, fun i H x H' => H' = H ∧ ∃ p, es[i]? = some p ∧ x = p.2.1, fun i H => H d = some (.frz o u) ∧ es.length ≤ i⟩
/-- the items -/
def ItP (P : Program) (w : World) (d : Addr) (o : Obj) (u : HO) (es : Es) : It :=
  ⟨fun i H => H d = some (.frz o u) ∧ i < es.length, fun i H x H' => ∃ p q, es[i]? = some q ∧ x = .ref p ∧ H p = none ∧ H' = upd H p (.tup [q.2.1, q.2.2]), fun i H => H d = some (.frz o u) ∧ es.length ≤ i⟩
section
variable {X : Cx} {pins : List (Addr × Obj)} {σ : L2.St} {H : Hp} {s : Shared}
/-- a lasting dict, raw: its object stays -/
theorem frz_raw {d : Addr} {o : Obj} {u : HO} {es : Es} (I : Inv X pins σ H s) (h : H d = some (.frz o u)) (e : Ent X.prog X.w d u es) : (d == sysModules) = false ∧ es.length ≤ sizeLine ∧ s.heap.get? d = some o ∧ o.ExactDict ∧ ∃ (des : Array DictEntry) (ep : Nat), o.data = .dict des ep ∧ des.size = es.length ∧
    ∀ (j : Nat) (p : NestedKey × V × V), es[j]? = some p → ∃ en, des[j]? = some en ∧ RelV p.2.1 en.key ∧ RelV p.2.2 en.val := by
  obtain ⟨lo, hz, o', des, ep, h1, h2, h3, h4, h5⟩ := dat_raw I ⟨u, .inr ⟨o, h⟩, e⟩
  have := (I.hok d _ h).1
  rw [h1] at this
  cases this
  exact ⟨lo, hz, h1, h2, des, ep, h3, h4, h5⟩
end
section
variable {P : Program} {w : World} {K : PySem.W.Frag} {tg : Expr}
theorem turnK {d : Addr} {o : Obj} {u : HO} {es : Es} {des : Array DictEntry} {ep : Nat} (it : Addr) (en : Ent P w d u es) (hod : o.data = .dict des ep) : Turn P w K tg (ItK P w d o u es) [it] it (fun i h => h.IsKeyIter it d i es.length ep) where
  mem := List.mem_singleton.mpr rfl
  obj := fun i h st b hb => by
    obtain rfl := List.mem_singleton.mp hb
    obtain ⟨oi, e, c, dd⟩ := st
    exact ⟨oi, e, fun v z => by rw [dd] at z; cases z⟩
  keep := fun i h h' st k => st.at fun oi e => k it (List.mem_singleton.mpr rfl) oi e
  item := fun X hP hw hK hc i pins s σ H E I hf st hg => by
    subst hP hw hK
    obtain ⟨hd, hi⟩ := hg
    obtain ⟨f0, f1, f2, f3, f4, f5⟩ := hf it (List.mem_singleton.mpr rfl)
    obtain ⟨lo, hz, g1, g2, des', ep', g3, g4, g5⟩ := frz_raw I hd en
    obtain ⟨rfl, rfl⟩ := dict_ep hod g3
    obtain ⟨p, hp⟩ : ∃ p, es[i]? = some p := ⟨es[i], List.getElem?_eq_getElem hi⟩
    obtain ⟨e1, a1, a2, a3⟩ := g5 i p hp
    refine next_key_item st g1 hod g4 a1 fun h' st' sb => ?_
    have I1 : Inv X pins σ H { s with heap := h' } := I.turned (t' := s.toks) (fun b ob hb e => (sb.2 b hb).trans e) f0 f1 f3 f4 f5
    obtain ⟨oi, e, c, dd⟩ := id st'
    exact ⟨e1.key, rfl, go_of (s := { s with heap := h' }) e c dd (by decide) ⟨p.2.1, H, I1, a2, ⟨rfl, p, hp, rfl⟩, st', fun b hb => (hf b hb).1⟩⟩
  done := fun X hP hw hK hc i pins s σ H E I hf st hg => by
    subst hP hw hK
    obtain ⟨hd, hi⟩ := hg
    obtain ⟨f0, f1, f2, f3, f4, f5⟩ := hf it (List.mem_singleton.mpr rfl)
    obtain ⟨lo, hz, g1, g2, des', ep', g3, g4, g5⟩ := frz_raw I hd en
    obtain ⟨rfl, rfl⟩ := dict_ep hod g3
    exact next_key_end (I.ok.hd hc) st g1 hod g4 hi fun h' eb => ⟨rfl, I.turned (t' := s.toks) (fun b ob hb e => eb b ob hb e) f0 f1 f3 f4 f5⟩
  self := fun A i s Q E st h => wpAny_pyIter_keyiter st h
theorem turnP {d : Addr} {o : Obj} {u : HO} {es : Es} {des : Array DictEntry} {ep : Nat} {elts : List Expr} {kk : Nat} {tpos : Pos} (it : Addr) (en : Ent P w d u es) (hod : o.data = .dict des ep) :
    Turn P w K (.Tuple elts kk tpos) (ItP P w d o u es) [it] it (fun i h => ∃ ok ov, IsItemIter h it d i es.length ep ok ov) where
  mem := List.mem_singleton.mpr rfl
  obj := fun i h st b hb => by
    obtain rfl := List.mem_singleton.mp hb
    obtain ⟨ok, ov, e⟩ := st
    exact ⟨_, e, fun v z => nomatch z⟩
  keep := fun i h h' st k => let ⟨ok, ov, e⟩ := st; ⟨ok, ov, k it (List.mem_singleton.mpr rfl) _ e⟩
  item := fun X hP hw hK hc i pins s σ H E I hf st hg => by
    subst hP hw hK
    obtain ⟨hd, hi⟩ := hg
    obtain ⟨lo, hz, g1, g2, des', ep', g3, g4, g5⟩ := frz_raw I hd en
    obtain ⟨rfl, rfl⟩ := dict_ep hod g3
    obtain ⟨p, hp⟩ : ∃ p, es[i]? = some p := ⟨es[i], List.getElem?_eq_getElem hi⟩
    obtain ⟨e1, a1, a2, a3⟩ := g5 i p hp
    obtain ⟨ok, ov, he⟩ := st
    rw [← g4] at he hi
    have e1' : des'[i] = e1 := by
      rw [Array.getElem?_eq_getElem hi] at a1
      exact Option.some.inj a1
    refine wpAny_pyNext_items_item_raw he ⟨o, g1, g2, hod⟩ hi fun h' ho hT hsz hk => ?_
    have hlt := Heap.lt_size he
    refine ⟨_, rfl, wpAny_letOwnedTupleGo_items (s := { s with heap := h' }) ho fun h'' he' sb => ?_⟩
    have hT2 := (sb.2 _ (Nat.ne_of_gt hlt)).trans hT
    rw [e1'] at hT2 he'
    have new : ObjOk X.prog X.w (upd H s.heap.objs.size (.tup [p.2.1, p.2.2])) h'' s.heap.objs.size (.tup [p.2.1, p.2.2]) :=
      ⟨(by show 2 ≤ sizeLine; decide), [e1.key, e1.val], .cons a2 (.cons a3 .nil), ⟨_, hT2, rfl, _, rfl⟩⟩
    have I1 : Inv X pins σ (upd H s.heap.objs.size (.tup [p.2.1, p.2.2])) { s with heap := h'' } :=
      I.turnedNew (t' := s.toks) (ch := [it]) (fun b ob hb e => (sb.2 b (by simpa using hb)).trans (hk b ob (by simpa using hb) e)) hf (Nat.le_refl _) new
    refine ⟨.ref s.heap.objs.size, _, I1, rfl, ⟨_, p, hp, rfl, I.hok.fresh (Nat.le_refl _), rfl⟩, ⟨_, _, by rw [← g4]; exact he'⟩, fun b hb => ?_⟩
    obtain rfl := List.mem_singleton.mp hb
    rw [upd_ne (Nat.ne_of_lt hlt)]
    exact (hf b hb).1
  done := fun X hP hw hK hc i pins s σ H E I hf st hg => by
    subst hP hw hK
    obtain ⟨hd, hi⟩ := hg
    obtain ⟨f0, f1, f2, f3, f4, f5⟩ := hf it (List.mem_singleton.mpr rfl)
    obtain ⟨lo, hz, g1, g2, des', ep', g3, g4, g5⟩ := frz_raw I hd en
    obtain ⟨rfl, rfl⟩ := dict_ep hod g3
    obtain ⟨ok, ov, he⟩ := st
    rw [← g4] at he hi
    exact wpAny_pyNext_items_end_raw (I.ok.hd hc) he ⟨o, g1, g2, hod⟩ hi fun h' eb => ⟨rfl, I.turned (t' := s.toks) (fun b ob hb e => eb b ob hb e) f0 f1 f3 f4 f5⟩
  self := fun A i s Q E st h => let ⟨_, _, e⟩ := st; kcp_self e h
end
/-! ### the walks' rules -/
def iK (X : Cx) (td : TE) : TI := fun σ H R => td σ H fun x H1 => ∃ d o u es, x = .ref d ∧ H1 d = some (.frz o u) ∧ Ent X.prog X.w d u es ∧ R (ItK X.prog X.w d o u es) H1
def iP (X : Cx) (td : TE) : TI := fun σ H R => td σ H fun x H1 => ∃ d o u es, x = .ref d ∧ H1 d = some (.frz o u) ∧ Ent X.prog X.w d u es ∧ R (ItP X.prog X.w d o u es) H1
section
variable {X : Cx} {tg e : Expr} {td : TE} {apos cpos : Pos} {m : M O}
theorem pi_k (he : PE X e td) : PI X tg e (iK X td) := ⟨fun pins s σ H R I h => thn (he.run pins s σ H _ I h) fun v s1 ⟨x, H1, I1, rx, d, o, u, es, ex, hd, en, q⟩ => by
  subst ex
  obtain rfl : v = Value.ref d := rx
  obtain ⟨lo, hz, g1, g2, des, ep, g3, g4, g5⟩ := frz_raw I1 hd en
  refine iter_keys lo g1 g2 g3 (pi_one (tk := s1.toks) I1 _ (turnK _ en g3) ⟨_, Heap.get?_push_size _ rfl, rfl, ?_⟩ q)
  rw [g4] <;> rfl⟩
theorem pi_p {elts : List Expr} {kk : Nat} {tpos : Pos} (he : PE X e td) (hbase : attributeBase e "items" X.env (eval e X.env) = eval e X.env := by rfl) (hline : (apos.endLine == cpos.line) = true := by rfl) :
    PI X (.Tuple elts kk tpos) (.Call (.Attribute e "items" apos) [] [] cpos) (iP X td) := ⟨fun pins s σ H R I h => by
  refine wpAny_Call_method (T := "dict") (id := "dict.items") hbase rfl hline F.plainAttrs_dict F.slot_dict_items F.type_dict_items (thn (he.run pins s σ H _ I h) fun v s1 ⟨x, H1, I1, rx, d, o, u, es, ex, hd, en, q⟩ => ?_)
  subst ex
  obtain rfl : v = Value.ref d := rx
  obtain ⟨lo, hz, g1, g2, des, ep, g3, g4, g5⟩ := frz_raw I1 hd en
  obtain ⟨t1, t2⟩ := dat_type I1 ⟨u, .inr ⟨o, hd⟩, en⟩
  refine ⟨t1, t2, ?_⟩
  have I2 : Inv X pins σ H1 { s1 with heap := s1.heap.push { cls := .type "dict_items", data := .fields #[.ref d] } } := I1.kept (t' := s1.toks) fun b ob q => Heap.get?_push_of_some _ q
  have fin : wpAny (model X.prog X.w) X.A (pyIter (.ref s1.heap.objs.size)) (PIE X pins σ (.Tuple elts kk tpos) R) X.xe { s1 with heap := s1.heap.push { cls := .type "dict_items", data := .fields #[.ref d] } } := by
    refine wpAny_pyIter_items_raw (d := d) ⟨_, Heap.get?_push_size _ rfl, rfl, rfl⟩ ⟨o, Heap.get?_push_of_some _ g1, g2, g3⟩ (pi_one (tk := s1.toks) I2 _ (turnP _ en g3) ⟨.none, .none, ?_⟩ q)
    rw [← g4]
    exact Heap.get?_push_size _ rfl
  show wpAny _ _ (callWith cpos (.builtin "dict.items") [.ref d] [] []) _ X.xe s1
  exact method_meetsIn F.slot_dict_items F.entry_dict_items rfl (PySem.evalArgs_none ⟨rfl, t1, F.args_dict_items_1 _, _, meets_dict_items_raw d lo, ⟨des, ep, o, g1, g2, g3⟩, fin⟩)⟩
theorem Tk.at {P : Program} {w : World} {K : PySem.W.Frag} {H : Hp} : ∀ {es : Es} {ds : List (PyData × PyData)} {i : Nat} {q : PyData × PyData}, Tk P w K H es ds → ds[i]? = some q → ∃ p, es[i]? = some p ∧ T P w K H p.2.1 q.1 ∧ T P w K H p.2.2 q.2
  | _, _, i, _, .nil, h => by simp at h
  | _, _, 0, _, .cons a b _, h => by
    cases Option.some.inj h
    exact ⟨_, rfl, a, b⟩
  | _, _, i + 1, _, .cons _ _ t, h => by simpa using Tk.at (i := i) t (by simpa using h)
theorem Tk.length {P : Program} {w : World} {K : PySem.W.Frag} {H : Hp} : ∀ {es : Es} {ds : List (PyData × PyData)}, Tk P w K H es ds → es.length = ds.length
  | _, _, .nil => rfl
  | _, _, .cons _ _ t => congrArg (· + 1) (Tk.length t)
/-- the keys of a dict -/
def mItK (m : M O) : M (List PyData) := fun ev => (m ev).bind fun p => match p.1.data with
  | .dict ds => some (ds.map (·.1), p.2)
  | _ => none
def mItP (m : M O) : M (List PyData) := fun ev => (m ev).bind fun p => match p.1.data with
  | .dict ds => some (ds.map fun q => .tuple [q.1, q.2], p.2)
  | _ => none
theorem ziK (he : PE X e (tM X m)) : PI X tg e (tI X (mItK m)) := PIimp (pi_k (PEfz he)) fun σ H R h => by
  obtain ⟨pv, ev, F, ds, ev', r, nd, hm, q⟩ := h
  unfold mItK at hm
  cases e1 : m ev with
  | none => rw [e1] at hm; cases hm
  | some p =>
    simp only [e1, Option.bind_some] at hm
    split at hm
    · rename_i dd e2
      cases hm
      refine one e1 r nd fun x H1 F1 r1 n1 s1 t1 => ?_
      rw [e2] at t1
      cases t1 with
      | dct hd en tk =>
        refine ⟨_, _, _, _, rfl, hd, en, q _ H1 F1 r1 n1 s1 fun i H2 g => ⟨fun d hd' => ?_, fun l => ⟨g.frz _ _ _ hd, by rw [tk.length]; simpa using l⟩⟩⟩
        rw [List.getElem?_map] at hd'
        obtain ⟨z, hz, rfl⟩ := Option.map_eq_some_iff.mp hd'
        obtain ⟨p', a1, a2, a3⟩ := tk.at hz
        refine ⟨⟨g.frz _ _ _ hd, (List.getElem?_eq_some_iff.mp a1).1⟩, fun x H3 ⟨eH, p2, b1, b2⟩ => ?_⟩
        subst eH
        rw [a1] at b1
        cases b1
        rw [b2]
        exact ⟨a2.grow g, Stp.refl _ _⟩
    · cases hm
theorem ziP {elts : List Expr} {kk : Nat} {tpos : Pos} (he : PE X e (tM X m)) (hbase : attributeBase e "items" X.env (eval e X.env) = eval e X.env := by rfl) (hline : (apos.endLine == cpos.line) = true := by rfl) :
    PI X (.Tuple elts kk tpos) (.Call (.Attribute e "items" apos) [] [] cpos) (tI X (mItP m)) := PIimp (pi_p (PEfz he) hbase hline) fun σ H R h => by
  obtain ⟨pv, ev, F, ds, ev', r, nd, hm, q⟩ := h
  unfold mItP at hm
  cases e1 : m ev with
  | none => rw [e1] at hm; cases hm
  | some p =>
    simp only [e1, Option.bind_some] at hm
    split at hm
    · rename_i dd e2
      cases hm
      refine one e1 r nd fun x H1 F1 r1 n1 s1 t1 => ?_
      rw [e2] at t1
      cases t1 with
      | dct hd en tk =>
        refine ⟨_, _, _, _, rfl, hd, en, q _ H1 F1 r1 n1 s1 fun i H2 g => ⟨fun d hd' => ?_, fun l => ⟨g.frz _ _ _ hd, by rw [tk.length]; simpa using l⟩⟩⟩
        rw [List.getElem?_map] at hd'
        obtain ⟨z, hz, rfl⟩ := Option.map_eq_some_iff.mp hd'
        obtain ⟨p', a1, a2, a3⟩ := tk.at hz
        refine ⟨⟨g.frz _ _ _ hd, (List.getElem?_eq_some_iff.mp a1).1⟩, fun x H3 ⟨p3, p2, b1, b2, b3, b4⟩ => ?_⟩
        rw [a1] at b1
        cases b1
        subst b2 b4
        have st : Stp [] H2 [] (upd H2 p3 (.tup [p'.2.1, p'.2.2])) := (upd_stp b3).sub fun _ m => by cases m
        have g2 := st.grow fun _ m => by cases m
        exact ⟨.tup (.inl (.inl upd_same)) (.cons ((a2.grow g).grow g2) (.cons ((a3.grow g).grow g2) .nil)), st⟩
    · cases hm
end
end Z
set_option Elab.async false
set_option linter.all false
set_option maxRecDepth 100000
set_option maxHeartbeats 1000000
/-! Z18: {k: v}, walks of any container, stores into any container, list.index. -/
namespace Z
open PySem PySem.Spec PyProof.Rows L2

section
variable {X : Cx} {pins : List (Addr × Obj)} {σ : L2.St} {H : Hp} {s : Shared} {a : Addr} {es : Es} {k : NestedKey} {y v : V} {uy uv : Value}
/-- a dict's entry is stored, without a look at subclasses -/
theorem n_dset {A : Around} {E : Value → Shared → Prop} {u : HO} {Q : Unit → Shared → Prop} (hu : A.units + 64 < cLine) (I : Inv X pins σ H s) (d : H a = some u) (e : Ent X.prog X.w a u es) (tk : Keys X H es) (t : TX X H y k.data) (ry : RelV y uy) (rv : RelV v uv) (ok : okKey es k = true) (hz : es.length < sizeLine)
    (h : ∀ u' s', Ent X.prog X.w a u' (eput es k y v) → Inv X pins σ (upd H a u') s' → Q () s') : wpAny (model X.prog X.w) A (dictSet a uy uv) Q E s := by
  rcases ok_cases ok with ⟨q, hq, al⟩ | ⟨ks, rfl, al, h8⟩
  · obtain ⟨kvs, rfl, rfl⟩ := ent_k e al
    have ey := key_v t hq
    subst ey
    rw [List.length_map] at hz
    obtain ⟨z, hd, vs, rel, dd⟩ := dk_of I.hok d
    have hsz : vs.length ≤ sizeLine := by rw [← rel.length]; exact z
    have hl : (putK kvs q v).length ≤ sizeLine := by have := length_putK kvs q v; omega
    refine wpAny_dictSet_pairs (hsz := hsz) (kV_is ry) dd fun h' dd' hs => ?_
    have he : ∃ o, h'.get? a = some o := let ⟨o, _, _, ho, _⟩ := dd'; ⟨o, ho⟩
    refine h (.dK (putK kvs q v)) _ ?_ (d_write I (by rw [d]; exact True.intro) hs he (dk_new hl hd (rel.put q rv) dd'))
    rw [← kK_nk hq, eput_k]
    exact .dK _
  · obtain ⟨zs, dd, ez, hd, hz'⟩ := entH I (.inl d) e al tk
    obtain ⟨b, rfl, rfl, ki⟩ := key_is I t h8 ry
    have hzz : zs.length ≤ sizeLine := by rw [← Paired.length ez]; exact hz'
    have room : (nestedKind X.prog X.w).room A := by show A.units + 8 < cLine; omega
    refine wpAny_dictSet_heap (hsz := hzz) room ki dd fun h' hm' hs => ?_
    obtain ⟨u', e', I'⟩ := n_new (t' := s.toks + _) I d e al h8 ez hd hz rv hm' hs
    exact h u' _ e' I'
end
section
variable {X : Cx} {pos : Pos} {ek e : Expr} {mk mv m : M O} {pv : Pv} {σ : L2.St} {H : Hp} {ev : Ev} {F : List Addr}
/-- {k: v} -/
def mDct1 (mk mv : M O) : M O := fun ev => (mk ev).bind fun p => (mv p.2).bind fun q => (nkD p.1.data).bind fun k => if okKey ([] : List (NestedKey × O)) k = true then some (.dct [(k, q.1)], q.2) else none
theorem zDct1 (hu : X.A.units + 64 < cLine) (hk : PE X ek (tM X mk)) (hv : PE X e (tM X mv)) : PE X (.Dict [some ek] [e] pos) (tM X (mDct1 mk mv)) := by
  refine ⟨fun pins s σ H Q I h => ?_⟩
  obtain ⟨pv, ev, F, o, ev', r, nd, hm, q⟩ := h
  unfold mDct1 at hm
  cases e1 : mk ev with
  | none => rw [e1] at hm; cases hm
  | some p =>
    simp only [e1, Option.bind_some] at hm
    cases e2 : mv p.2 with
    | none => rw [e2] at hm; cases hm
    | some p2 =>
      simp only [e2, Option.bind_some] at hm
      cases e3 : nkD p.1.data with
      | none => rw [e3] at hm; cases hm
      | some k =>
        simp only [e3, Option.bind_some] at hm
        split at hm
        · rename_i ok
          cases hm
          have hn := I.hok.fresh (Nat.le_refl s.heap.objs.size)
          have I1 := I.laid (a := s.heap.objs.size) (o := .dK []) (h' := s.heap.push { cls := .type "dict", data := .dict #[] }) (t' := s.toks) (fun _ _ q => Heap.get?_push_of_some _ q) (Nat.le_refl _) (dk_empty s.heap I.big)
          have st0 : Stp [] H [s.heap.objs.size] (upd H s.heap.objs.size (.dK [])) := upd_stp hn
          have dF : s.heap.objs.size ∉ F := fun z => by have := r.mut _ z; rw [hn] at this; exact this
          refine wpAny_Dict_any rfl rfl (by simp) (by simp) (pairTrees_cons_walk ?_)
          refine thn ((PEfz hk).run pins _ σ _ (fun x H' => tM X mv σ H' fun y H2 => ∃ F2 G, Rp X H2 pv σ p2.2 F2 ∧ RX X H2 y p2.1 G ∧ (F2 ++ G).Nodup ∧ TX X H2 x p.1.data ∧ Stp F (upd H s.heap.objs.size (.dK [])) (F2 ++ G) H2) I1 ?_) fun u1 s1 hq => ?_
          · refine one e1 (r.stp st0) nd fun x H1 F1 r1 n1 s1 t1 => ⟨pv, p.2, F1, p2.1, p2.2, r1, n1, e2, fun y H2 F2 G r2 ro n2 s2 => ⟨F2, G, r2, ro, n2, t1.grow (s2.grow r1.mut), s1.trans s2⟩⟩
          · obtain ⟨x, H1, J1, rx, q1⟩ := hq
            refine thn (hv.run pins s1 σ H1 _ J1 q1) fun u2 s2 hq2 => ?_
            obtain ⟨y, H2, J2, ry, F2, G, r2, ro, n2, tx, st⟩ := hq2
            refine pairTrees_nil_walk ?_
            have m0 : Mut ((upd H s.heap.objs.size (.dK [])) s.heap.objs.size) := by rw [upd_same]; exact True.intro
            have hd : H2 s.heap.objs.size = some (.dK []) := by rw [st.at dF m0]; exact upd_same
            have apD : s.heap.objs.size ∉ F2 ++ G := st.apart dF m0
            have mD : Mut (H2 s.heap.objs.size) := by rw [hd]; exact True.intro
            rw [← nkD_ok e3] at tx
            show wpAny (model X.prog X.w) X.A (storeAll s.heap.objs.size [(u1, u2)]) (fun _ s3 => EP X pins σ Q (.ref s.heap.objs.size) s3) X.xe s2
            unfold storeAll
            rw [List.forIn_cons]
            refine wpAny_bind (wpAny_bind (n_dset (es := []) hu J2 hd (.dK []) (fun _ m => by cases m) tx rx ry ((okKey_keys (es := ([] : Es)) (fs := ([] : List (NestedKey × O))) rfl k).trans ok) (by decide) fun u' s3 e' J3 => wpAny_pure ?_))
            show wpAny _ _ (forIn ([] : List (Value × Value)) PUnit.unit _) _ _ _
            rw [List.forIn_nil]
            refine wpAny_pure ⟨.ref s.heap.objs.size, _, J3, rfl, ?_⟩
            have nd2 : (([s.heap.objs.size] ++ []) ++ G).Nodup := by
              simp only [List.append_nil, List.singleton_append, List.nodup_cons]
              exact ⟨fun z => apD (List.mem_append_right _ z), (nd_app.mp n2).2.1⟩
            obtain ⟨F', a1, a2, a3⟩ := put_fin (es := []) (kvs := []) (F := []) hd (.dK []) .nil (by simpa using nd2) List.nodup_nil tx ro e'
            have ek : tput ([] : List (NestedKey × O)) k p2.1 = [(k, p2.1)] := rfl
            rw [ek] at a1
            obtain ⟨b1, b2, b3⟩ := nd_app.mp n2
            have apF : ∀ c ∈ F2, c ∉ [s.heap.objs.size] ++ G := fun c m z => by
              rcases List.mem_append.mp z with z | z
              · rw [List.mem_singleton.mp z] at m; exact apD (List.mem_append_left _ m)
              · exact b3 c m z
            have mG : ∀ c ∈ [s.heap.objs.size] ++ G, Mut (H2 c) := fun c m => by
              rcases List.mem_append.mp m with m | m
              · rw [List.mem_singleton.mp m]; exact mD
              · exact ro.mut c m
            have a3' : Stp ([s.heap.objs.size] ++ G) H2 F' (upd H2 s.heap.objs.size u') := a3
            have wD : ∀ c ∈ pv.W, c ≠ s.heap.objs.size := fun c m z => by
              have := r.vw.mu c m
              rw [z, hn] at this
              exact this
            have r3 : Rp X (upd H2 s.heap.objs.size u') pv σ p2.2 F2 := r2.keep (upd_grow mD) (fun c m => upd_ne fun z => apD (List.mem_append_left _ (z ▸ m))) fun c m => upd_ne (wD c m)
            refine q _ _ F2 F' r3 a1 (nd_app.mpr ⟨b1, a2, fun c m z => a3'.apart (apF c m) (r2.mut c m) z⟩) ?_
            have q1 : Stp F H (F ++ [s.heap.objs.size]) (upd H s.heap.objs.size (.dK [])) := st0.frame
            have q2 : Stp (F ++ [s.heap.objs.size]) (upd H s.heap.objs.size (.dK [])) ([s.heap.objs.size] ++ (F2 ++ G)) H2 := (st.more [s.heap.objs.size]).wide fun c m => by simpa [or_comm] using m
            have q3 : Stp ([s.heap.objs.size] ++ (F2 ++ G)) H2 (F2 ++ F') (upd H2 s.heap.objs.size u') := (a3'.more F2).wide fun c m => by
              simp only [List.mem_append, List.mem_singleton] at m ⊢
              rcases m with m | m | m
              · exact .inr (.inl m)
              · exact .inl m
              · exact .inr (.inr m)
            exact (q1.trans q2).trans q3
        · cases hm

/-! ### a list, a tuple or a dict, walked -/
def mItA (m : M O) : M (List PyData) := fun ev => (m ev).bind fun p => match p.1.data with
  | .list ds => some (ds, p.2)
  | .tuple ds => some (ds, p.2)
  | .dict ds => some (ds.map (·.1), p.2)
  | _ => none
theorem ziA {tg : Expr} (he : PE X e (tM X m)) : PI X tg e (tI X (mItA m)) := PIimp (PIor (ziD he) (ziK he)) fun σ H R h => by
  obtain ⟨pv, ev, F, ds, ev', r, nd, hm, q⟩ := h
  unfold mItA at hm
  cases e1 : m ev with
  | none => rw [e1] at hm; cases hm
  | some p =>
    simp only [e1, Option.bind_some] at hm
    split at hm
    · rename_i e2; cases hm
      exact .inl ⟨pv, ev, F, ds, p.2, r, nd, by unfold mItD; rw [e1, Option.bind_some, e2]; rfl, q⟩
    · rename_i e2; cases hm
      exact .inl ⟨pv, ev, F, ds, p.2, r, nd, by unfold mItD; rw [e1, Option.bind_some, e2]; rfl, q⟩
    · rename_i e2; cases hm
      exact .inr ⟨pv, ev, F, _, p.2, r, nd, by unfold mItK; rw [e1, Option.bind_some, e2], q⟩
    · cases hm
/-! ### a store into any own container -/
def sAny (o : O) (d : PyData) (v : O) : Option O := match o with
  | .lst os => sLst (.lst os) d v
  | .dct kvs => sDct (.dct kvs) d v
  | _ => none
theorem setAny (hu : X.A.units + 64 < cLine) : PSO X sAny := fun pins s σ H x y z ov iv u Q I ro ri rz ⟨node, d, o, Fo, G, node', rn, td, rg, nd, hf, q⟩ => by
  cases node with
  | dat _ => cases hf
  | lst os => exact setL X pins s σ H x y z ov iv u Q I ro ri rz ⟨_, d, o, Fo, G, node', rn, td, rg, nd, hf, q⟩
  | dct kvs => exact setD hu pins s σ H x y z ov iv u Q I ro ri rz ⟨_, d, o, Fo, G, node', rn, td, rg, nd, hf, q⟩
/-! ### list.index -/
def idxD (d : PyData) : List PyData → Nat → Option Nat
  | [], _ => none
  | x :: r, n => if PyData.eqv x d = true then some n else idxD d r (n + 1)
theorem idxD_some {d : PyData} : ∀ {ds : List PyData} {n j : Nat}, idxD d ds n = some j → n ≤ j ∧ ∃ z, ds[j - n]? = some z ∧ PyData.eqv z d = true ∧ ∀ m z', m < j - n → ds[m]? = some z' → PyData.eqv z' d = false
  | [], _, _, h => by cases h
  | x :: r, n, j, h => by
    unfold idxD at h
    split at h
    · rename_i e
      cases h
      rw [Nat.sub_self]
      exact ⟨Nat.le_refl _, x, rfl, e, fun m _ l => absurd l (Nat.not_lt_zero _)⟩
    · rename_i e
      obtain ⟨h1, z, h2, h3, h4⟩ := idxD_some h
      have ej : j - n = (j - (n + 1)) + 1 := by omega
      refine ⟨by omega, z, by rw [ej]; exact h2, h3, fun m z' l hz => ?_⟩
      cases m with
      | zero => cases Option.some.inj hz; simpa using e
      | succ m => exact h4 m z' (by omega) (by simpa using hz)
def fIndex : O → List O → Option (O × O)
  | .lst os, [.dat d] => (datsO os).bind fun ds => if pl d = true ∧ PyData.plainAll ds = true then (idxD d ds 0).map fun j => (.dat (.int (j : Nat)), .lst os) else none
  | _, _ => none
theorem oIndex (hu : X.A.units + 64 < cLine) : MtO X "list.index" fIndex := fun pins s σ H x xs v us Q I rx rs ⟨node, os, Fo, G, r, node', rn, rg, nd, hf, q⟩ => by
  unfold fIndex at hf
  split at hf
  · rename_i ls d
    cases e : datsO ls with
    | none => rw [e] at hf; cases hf
    | some ds =>
      simp only [e, Option.bind_some] at hf
      split at hf
      · rename_i hp
        cases e2 : idxD d ds 0 with
        | none => rw [e2] at hf; cases hf
        | some j =>
          rw [e2] at hf
          cases hf
          obtain ⟨h0, z, h1, h2, h3⟩ := idxD_some e2
          rw [Nat.sub_zero] at h1 h3
          obtain ⟨a, ys, F, rfl, rfl, h, t⟩ := rn.lst_of
          have ts := datsO_ok t e
          obtain ⟨y, rfl, ry⟩ := rg.one_of
          obtain ⟨rfl, ty⟩ := RO.flat ry
          cases rx
          obtain ⟨uy, rfl, ru⟩ := rs.one
          obtain ⟨zz, its, n, rv, hl, ho⟩ := I.lstM h
          obtain ⟨bs, r1⟩ := ty.reads I (pl_ok hp.1).1 ru
          obtain ⟨as, r2⟩ := ts.reads I hp.2 rv
          have hn := PySem.SeqAt.ReadsAll.length _ _ _ r2
          have hmap := PySem.SeqAt.readsAll_map_plain ds its as hp.2 r2
          have hjd := (List.getElem?_eq_some_iff.mp h1).1
          have hj : j < its.toArray.size := by rw [List.size_toArray, hn]; exact hjd
          have at' : ∀ (m : Nat) (hm : m < its.toArray.size) (z' : PyData), ds[m]? = some z' → PySem.SeqAt.readOf s.heap its.toArray[m] = z' := fun m hm z' hz' => by
            have hm2 : m < its.length := by simpa using hm
            rw [← hmap, List.getElem?_map, List.getElem?_eq_getElem hm2] at hz'
            simpa using Option.some.inj hz'
          have room := rm2 (n := d.depth) (m := PyData.depthAll ds) hu (pl_ok hp.1).2
          have hsl := sizeLine_eq
          have hyz := t.length
          refine call_meets PySem.F.slot_list_index ⟨_, ho, rfl⟩ PySem.F.entry_list_index (PySem.F.args_list_index_2 _ _)
            (PySem.SeqAt.list_indexAt a its.toArray n none #[] uy (fun w => PyData.eqv (PySem.SeqAt.readOf s.heap w) d) j hj (by omega) ?_ ?_) ⟨ho, PySem.SeqAt.items_plain (vs := its.toArray) (by simpa using r2) r1 hp.2 (pl_ok hp.1).1 room, ?_⟩
          · show PyData.eqv (PySem.SeqAt.readOf s.heap its.toArray[j]) d = true
            rw [at' j hj z h1]; exact h2
          · intro m hm hmj
            have hz' : ds[m]? = some ds[m] := List.getElem?_eq_getElem (by omega)
            show PyData.eqv (PySem.SeqAt.readOf s.heap its.toArray[m]) d = false
            rw [at' m hm _ hz']
            exact h3 m _ hmj hz'
          · exact ⟨.int (j : Nat), H, I.tok _, ⟨_, rfl⟩, q _ H (a :: F) [] (.lst h t) (.dat (.int _)) (by simpa using nd) ((Stp.refl _ _).sub fun x mx => by simpa using mx)⟩
      · cases hf
  · cases hf
end
end Z
set_option Elab.async false
set_option linter.all false
set_option maxRecDepth 100000
set_option maxHeartbeats 1000000
/-! Z19: repr of data. -/
namespace Z
open PySem PySem.Spec PyProof.Rows L2

mutual
theorem noDict : ∀ d : PyData, d.plain = true → d.hasDict = false
  | .none, _ => rfl
  | .bool _, _ => rfl
  | .int _, _ => rfl
  | .str _, _ => rfl
  | .list xs, h => by simp only [PyData.hasDict]; exact noDicts xs (by simpa [PyData.plain] using h)
  | .tuple xs, h => by simp only [PyData.hasDict]; exact noDicts xs (by simpa [PyData.plain] using h)
  | .dict _, h => by simp [PyData.plain] at h
theorem noDicts : ∀ xs : List PyData, PyData.plainAll xs = true → PyData.hasDictAll xs = false
  | [], _ => rfl
  | x :: xs, h => by
    rw [PyData.plainAll, Bool.and_eq_true] at h
    simp only [PyData.hasDictAll, noDict x h.1, noDicts xs h.2, Bool.or_self]
end
/-- it reads as the datum, as long as the abstract heap holds -/
def Sees (X : Cx) (H : Hp) (x : V) (d : PyData) : Prop := ∀ (pins : List (Addr × Obj)) (σ : L2.St) (s : Shared) (u : Value), Inv X pins σ H s → RelV x u → ∃ as, Reads s.heap u d as
section
variable {X : Cx} {pins : List (Addr × Obj)} {σ : L2.St} {H : Hp} {s : Shared}
mutual
theorem RO.reads (I : Inv X pins σ H s) : ∀ {v : V} {o : O} {F : List Addr}, RX X H v o F → o.data.plain = true → ∀ {u : Value}, RelV v u → ∃ as, Reads s.heap u o.data as
  | _, _, _, .dat t, p, _, r => t.reads I p r
  | _, _, _, .lst h t, p, _, r => by
    cases r
    obtain ⟨its, rv, ⟨o, n, ho, hc, hdi, hd⟩, _⟩ := I.list (SqL.of h)
    obtain ⟨as, q⟩ := ROs.reads I t (by simpa [O.data, PyData.plain] using p) rv
    exact ⟨_, .list ho hc hd (by simpa using q)⟩
  | _, _, _, .dct _ _ _, p, _, _ => by simp [O.data, PyData.plain] at p
theorem ROs.reads (I : Inv X pins σ H s) : ∀ {vs : List V} {os : List O} {F : List Addr}, RsX X H vs os F → PyData.plainAll (O.datas os) = true → ∀ {us : List Value}, Vals vs us → ∃ as, ReadsAll s.heap us (O.datas os) as
  | _, _, _, .nil, _, _, r => by cases r; exact ⟨_, .nil⟩
  | _, _, _, .cons h t, p, _, r => by
    rw [O.datas, PyData.plainAll, Bool.and_eq_true] at p
    cases r with
    | cons r1 r2 =>
      obtain ⟨as, q⟩ := RO.reads I h p.1 r1
      obtain ⟨bs, q2⟩ := ROs.reads I t p.2 r2
      exact ⟨_, .cons q q2⟩
end
theorem RO.sees {v : V} {o : O} {F : List Addr} (r : RX X H v o F) (p : o.data.plain = true) : Sees X H v o.data := fun _ _ _ _ I rv => r.reads I p rv
end
/-- a list or a tuple that can be shown -/
def okShow (d : PyData) : Bool := (match d with
  | .list _ => true
  | .tuple _ => true
  | _ => false) && pl d && d.showable && decide (d.shown.length ≤ sizeLine)
section
variable {X : Cx} {pos : Pos} {e : Expr} {es : List Expr} {m : M O} {pv : Pv} {σ : L2.St} {H : Hp} {ev : Ev} {F : List Addr}
theorem call_rep (hG : X.A.guards = some []) (hu : X.A.units + 64 < cLine) : CallR X (.builtin "repr") (fun xs H Q => ∃ x d, xs = [x] ∧ Sees X H x d ∧ okShow d = true ∧ Q (.str d.shown) H) := fun pins s σ H xs us Q I rx ⟨x, d, e1, hs, ok, q⟩ => by
  subst e1
  obtain ⟨u, rfl, ru⟩ := rx.one
  unfold okShow at ok
  simp only [Bool.and_eq_true, decide_eq_true_eq] at ok
  obtain ⟨⟨⟨o1, o2⟩, o3⟩, o4⟩ := ok
  obtain ⟨p1, p2⟩ := pl_ok o2
  obtain ⟨as, r⟩ := hs pins σ s u I ru
  have fin : ∀ a, u = .ref a → wpAny (model X.prog X.w) X.A (call (.builtin "repr") [u]) (EP X pins σ Q) X.xe s := fun a eu => by
    subst eu
    refine repr_of_reads' r o3 (fun z => by rw [noDict d p1] at z; cases z) hG (by omega) (fun _ _ z => z) (fun h' t tk hk => ⟨.str d.shown, H, I.kept hk, ⟨t, rfl⟩, q⟩) o4
  cases r with
  | list _ _ _ _ => exact fin _ rfl
  | tuple _ _ _ _ => exact fin _ rfl
  | dict _ _ _ _ _ => exact fin _ rfl
  | none => cases o1
  | bool _ => cases o1
  | int _ _ => cases o1
  | str _ _ => cases o1
def reprO (o : O) : Option O := if okShow o.data = true then oS o.data.shown else none
theorem pRepr (hG : X.A.guards = some []) (hu : X.A.units + 64 < cLine) : CallP X (.builtin "repr") reprO := fun pins s σ H xs us Q I rx ⟨x, o, G, r, e1, ro, ng, hg, n⟩ => by
  unfold reprO at hg
  split at hg
  · rename_i ok
    cases hg
    have p1 : o.data.plain = true := by
      unfold okShow at ok
      simp only [Bool.and_eq_true] at ok
      exact (pl_ok ok.1.1.2).1
    exact call_rep hG hu pins s σ H xs us Q I rx ⟨x, o.data, e1, ro.sees p1, ok, n.dat (.str _)⟩
  · cases hg
/-! ### repr of a new tuple of what is read -/
def tQs (X : Cx) (q : Ev → Option (List O)) : TA := fun σ H Q => ∃ pv ev F os, Rp X H pv σ ev F ∧ F.Nodup ∧ q ev = some os ∧ ∀ vs, Paired (fun v o => ∃ G, RX X H v o G ∧ ∀ a ∈ G, a ∈ F ∨ a ∈ pv.W) vs os → Q vs H
def qNil : Ev → Option (List O) := fun _ => some []
def qCons (q : Ev → Option O) (qs : Ev → Option (List O)) : Ev → Option (List O) := fun ev => (q ev).bind fun o => (qs ev).map fun os => o :: os
theorem zqNil : PA X [] (tQs X qNil) := PAimp pa_nil fun σ H Q h => by
  obtain ⟨pv, ev, F, os, r, nd, hm, q⟩ := h
  cases hm
  exact q [] .nil
theorem zqCons {q : Ev → Option O} {qs : Ev → Option (List O)} (ha : PE X e (tQ X q)) (hr : PA X es (tQs X qs)) (hs : starEach (e :: es) X.env = (false, eval e X.env) :: starEach es X.env := by rfl) : PA X (e :: es) (tQs X (qCons q qs)) := PAimp (pa_cons ha hr hs) fun σ H Q h => by
  obtain ⟨pv, ev, F, os, r, nd, hm, k⟩ := h
  unfold qCons at hm
  cases e1 : q ev with
  | none => rw [e1] at hm; cases hm
  | some o =>
    simp only [e1, Option.bind_some] at hm
    cases e2 : qs ev with
    | none => rw [e2] at hm; cases hm
    | some os1 =>
      rw [e2] at hm
      cases hm
      exact ⟨pv, ev, F, o, r, nd, e1, fun v G rv _ sg => ⟨pv, ev, F, os1, r, nd, e2, fun vs pr => k (v :: vs) (.cons ⟨G, rv, sg⟩ pr)⟩⟩
def mReprT (qs : Ev → Option (List O)) : M O := fun ev => (qs ev).bind fun os => if okShow (.tuple (O.datas os)) = true ∧ os.length ≤ sizeLine then some (.dat (.str (PyData.tuple (O.datas os)).shown), ev) else none
theorem zReprT {qs : Ev → Option (List O)} {p tp : Pos} {kt : Nat} (hG : X.A.guards = some []) (hu : X.A.units + 64 < cLine) (hm : X.mg "repr" = none) (hv : bootBuiltins "repr" = some (.builtin "repr")) (ha : PA X es (tQs X qs)) (hg : Gl X "repr" := by rfl)
    (hs : starEach [.Tuple es kt tp] X.env = (false, eval (.Tuple es kt tp) X.env) :: starEach [] X.env := by rfl) (hpl : (backTo pos (starEach [] X.env)).any (·.1) = false := by rfl) : PE X (.Call (.Name "repr" p) [.Tuple es kt tp] [] pos) (tM X (mReprT qs)) :=
  PEimp (pe_callB (call_rep hG hu) hg hm hv (pa_cons (pe_tup ha) pa_nil hs) (by decide) (by decide) hs hpl) fun σ H Q h => by
  obtain ⟨pv, ev, F, o, ev', r, nd, hmm, q⟩ := h
  unfold mReprT at hmm
  cases e1 : qs ev with
  | none => rw [e1] at hmm; cases hmm
  | some os =>
    simp only [e1, Option.bind_some] at hmm
    split at hmm
    · rename_i hc
      cases hmm
      have p1 : PyData.plainAll (O.datas os) = true := by
        have := hc.1
        unfold okShow at this
        simp only [Bool.and_eq_true] at this
        simpa [PyData.plain] using (pl_ok this.1.1.2).1
      refine ⟨pv, ev, F, os, r, nd, e1, fun vs pr => ⟨by rw [Paired.length pr]; exact hc.2, fun d hd => ?_⟩⟩
      have st : Stp [] H [] (upd H d (.tup vs)) := (upd_stp hd).sub fun _ m => by cases m
      refine ⟨.ref d, _, rfl, fun pins σ' s u I ru => ?_, hc.1, ?_⟩
      · cases ru
        obtain ⟨its, rv, ⟨ob, ho, hcl, n, hdt⟩, _⟩ := I.tuple (.inl (.inl (upd_same : upd H d (.tup vs) d = some (.tup vs))))
        have all : ∀ {vs : List V} {os : List O} {us : List Value}, Paired (fun v o => ∃ G, RX X H v o G ∧ ∀ a ∈ G, a ∈ F ∨ a ∈ pv.W) vs os → Vals vs us → PyData.plainAll (O.datas os) = true → ∃ as, ReadsAll s.heap us (O.datas os) as := by
          intro vs os us pr
          induction pr generalizing us with
          | nil => intro rv _; cases rv; exact ⟨_, .nil⟩
          | cons h _ ih =>
            intro rv p
            rw [O.datas, PyData.plainAll, Bool.and_eq_true] at p
            cases rv with
            | cons r1 r2 =>
              obtain ⟨G, rg, sg⟩ := h
              have rg2 := rg.keep (st.grow fun _ m => by cases m) fun a m => st.at (by simp) (rg.mut a m)
              obtain ⟨as, q1⟩ := rg2.reads I p.1 r1
              obtain ⟨bs, q2⟩ := ih r2 p.2
              exact ⟨_, .cons q1 q2⟩
        obtain ⟨as, q2⟩ := all pr rv p1
        exact ⟨_, .tuple ho hcl hdt (by simpa using q2)⟩
      · exact (fin_new (A := []) r (by simpa using nd) (by simpa using Stp.refl F H) q) _ _ [] (.dat (.str _)) List.nodup_nil st
    · cases hmm
end
end Z
set_option Elab.async false
set_option linter.all false
set_option maxRecDepth 100000
set_option maxHeartbeats 2000000
/-! Z20: all(..), any(..) of a generator expression over a row of data, its element a quiet test. -/
namespace Z
open PySem PySem.Spec PyProof.Rows L2
open GxR

/-- the element's test of the datum d, where the slots are ev: quiet -/
def QEl (X : Cx) (scope : Scope) (x : Str) (elt : Expr) (el : PyData → Ev → Option Bool) : Prop :=
  ∀ (pins : List (Addr × Obj)) (σ : L2.St) (H : Hp) (s0 s2 : Shared) (pv : Pv) (ev : Ev) (F : List Addr) (d : PyData) (xv : V) (u : Value) (b : Bool) (cenv : Env) (A' : Around) (E' : Value → Shared → Prop) (m2 : Str → Option Value),
    Inv X pins σ H s0 → s0.heap = s2.heap → Rp X H pv σ ev F → F.Nodup → TX X H xv d → RelV xv u → el d ev = some b → cenv.scope = scope → cenv.cells = cloFrom X.env.cells scope.names [] → A'.handled = none → A'.units ≤ X.A.units + 8 →
    s2.heap.Ns cenv.locals m2 → m2 x = some u → wpAny (model X.prog X.w) A' (eval elt cenv) (fun y s3 => y = .bool b ∧ Keeps s2 s3) E' s2
/-- the running def's code object and its table -/
structure Code (X : Cx) (c P : Addr) : Prop where
  tb : TabB X.base X.mg c P
  mark : X.base.objs[P]? = some mkT
  at_ : X.env.code = .ref c
def elsM (el : PyData → Ev → Option Bool) (ev : Ev) : List PyData → Option (List Bool)
  | [] => some []
  | d :: ds => (el d ev).bind fun b => (elsM el ev ds).map fun r => b :: r
theorem elsM_len {el : PyData → Ev → Option Bool} {ev : Ev} : ∀ {ds : List PyData} {bs : List Bool}, elsM el ev ds = some bs → ds.length = bs.length
  | [], _, h => by cases h; rfl
  | d :: ds, bs, h => by
    unfold elsM at h
    cases e : el d ev with
    | none => rw [e] at h; cases h
    | some b =>
      simp only [e, Option.bind_some] at h
      cases e2 : elsM el ev ds with
      | none => rw [e2] at h; cases h
      | some r => rw [e2] at h; cases h; exact congrArg (· + 1) (elsM_len e2)
theorem elsM_at {el : PyData → Ev → Option Bool} {ev : Ev} : ∀ {ds : List PyData} {bs : List Bool} {j : Nat} {d : PyData}, elsM el ev ds = some bs → ds[j]? = some d → ∃ b, bs[j]? = some b ∧ el d ev = some b
  | [], _, _, _, _, hd => by simp at hd
  | d :: ds, bs, j, d', h, hd => by
    unfold elsM at h
    cases e : el d ev with
    | none => rw [e] at h; cases h
    | some b =>
      simp only [e, Option.bind_some] at h
      cases e2 : elsM el ev ds with
      | none => rw [e2] at h; cases h
      | some r =>
        rw [e2] at h
        cases h
        cases j with
        | zero => cases Option.some.inj hd; exact ⟨b, rfl, e⟩
        | succ j => simpa using elsM_at e2 (by simpa using hd)
def trB (bs : List Bool) (j : Nat) : Bool := bs.getD j false
theorem all_trB (bs : List Bool) : (List.range bs.length).all (trB bs) = bs.all id := by
  rw [Bool.eq_iff_iff, List.all_eq_true, List.all_eq_true]
  constructor
  · intro h b hb
    obtain ⟨j, hj, e⟩ := List.getElem_of_mem hb
    have := h j (List.mem_range.mpr hj)
    rw [trB, List.getD_eq_getElem?_getD, List.getElem?_eq_getElem hj] at this
    rw [← e]; exact this
  · intro h j hj
    have hj := List.mem_range.mp hj
    rw [trB, List.getD_eq_getElem?_getD, List.getElem?_eq_getElem hj]
    exact h _ (List.getElem_mem hj)
theorem any_trB (bs : List Bool) : (List.range bs.length).any (trB bs) = bs.any id := by
  rw [Bool.eq_iff_iff, List.any_eq_true, List.any_eq_true]
  constructor
  · rintro ⟨j, hj, h⟩
    have hj := List.mem_range.mp hj
    rw [trB, List.getD_eq_getElem?_getD, List.getElem?_eq_getElem hj] at h
    exact ⟨_, List.getElem_mem hj, h⟩
  · rintro ⟨b, hb, h⟩
    obtain ⟨j, hj, e⟩ := List.getElem_of_mem hb
    refine ⟨j, List.mem_range.mpr hj, ?_⟩
    rw [trB, List.getD_eq_getElem?_getD, List.getElem?_eq_getElem hj]
    show bs[j] = true
    rw [e]; exact h
/-- the table has grown -/
theorem tab_stp {H : Hp} {P : Addr} {ps more : Array Value} (hP : H P = some (.tbl ps)) (ht : TriplesOk (ps ++ more).toList) (F : List Addr) : Stp F H F (upd H P (.tbl (ps ++ more))) ∧ Grow H (upd H P (.tbl (ps ++ more))) := by
  have ne : ∀ p u, H p = some u → (∀ q, u ≠ .tbl q) → p ≠ P := fun p u e h z => by subst z; rw [hP] at e; cases e; exact h _ rfl
  have tab : ∀ p, TabG H p → TabG (upd H P (.tbl (ps ++ more))) p := fun p ⟨qs, e, t⟩ => by
    by_cases z : p = P
    · subst z; exact ⟨_, upd_same, ht⟩
    · exact ⟨qs, by rw [upd_ne z]; exact e, t⟩
  refine ⟨⟨fun p u _ hu e => by rw [upd_ne (ne p u e hu)]; exact e, fun p _ e => ?_, tab, fun a m => .inl m⟩, ⟨fun p xs e => by rw [upd_ne (ne p _ e fun q z => nomatch z)]; exact e, fun p o u e => by rw [upd_ne (ne p _ e fun q z => nomatch z)]; exact e, tab⟩⟩
  by_cases z : p = P
  · subst z; rw [upd_same] at e; cases e
  · rw [upd_ne z] at e; exact e
section
variable {X : Cx} {pins : List (Addr × Obj)} {σ : L2.St} {H : Hp} {s : Shared}
/-- the generator, ready to be walked -/
def ReadyB (X : Cx) (pins : List (Addr × Obj)) (σ : L2.St) (H1 : Hp) (P : Addr) (ps : Array Value) (bs : List Bool) (g : Addr) (s5 : Shared) : Prop :=
  ∃ (fp wr : List Addr) (G : Array GenState → Array GenState → Prop) (F : Nat → Value → Prop) (St : Nat → Shared → Prop) (more : Array Value),
    WalksS X.prog X.w X.A.in1 g fp wr G bs.length F St ∧ St 0 s5 ∧ TruthOf X.prog X.w X.A.in1 F (trB bs) ∧ TriplesOk (ps ++ more).toList ∧ ∀ s', Moved wr G s5 s' → Inv X pins σ (upd H1 P (.tbl (ps ++ more))) s'
theorem gen_row {c P : Addr} {elt iter : Expr} {x : Str} {px gpos : Pos} {scope : Scope} {el : PyData → Ev → Option Bool} {te : TE} {k : Nat} {Q' : Value → Shared → Prop}
    (hr : Room k X.A) (C : Code X c P) (S : GenS X.env scope x) (hi : PE X iter te) (hel : QEl X scope x elt el) (hs : ∀ v, genFold iter X.env v = pure v) (I : Inv X pins σ H s)
    (h : te σ H fun v H1 => ∃ pv ev F ds bs, Rp X H1 pv σ ev F ∧ F.Nodup ∧ (TX X H1 v (.list ds) ∨ TX X H1 v (.tuple ds)) ∧ elsM el ev ds = some bs ∧ ∀ ps g s5, H1 P = some (.tbl ps) → ReadyB X pins σ H1 P ps bs g s5 → Q' (.ref g) s5) :
    wpAny (model X.prog X.w) X.A (eval (.GeneratorExp elt [⟨.Name x px, iter, [], 0⟩] scope gpos) X.env) Q' X.xe s := by
  refine wpAny_GeneratorExp_walksQD hr.hd S.co (closure_ok S.free) S.cell S.dot S.loc S.kind (by have := hr.dp; omega) ?_ hs
  refine thn (hi.run pins s σ H _ I h) fun xv s1 ⟨v, H1, I1, r1, pv, ev, F, ds, bs, rp, nd, tv, hbs, hQ⟩ => ?_
  obtain ⟨ps, hP, ht⟩ := rp.vw.tb P C.mark
  have hPs : s1.heap.get? P = some { cls := .none, data := .fields ps } := I1.hok P _ hP
  have hlen := elsM_len hbs
  -- the walked thing, its iterator's object, its walk
  have main : ∀ (a : Addr) (its : Array Value) (vs : List V) (ob : Obj) (St : Nat → Heap → Prop) (IA : Heap → Prop), xv = .ref a → Vals vs its.toList → TsX X H1 vs ds → a < s1.heap.objs.size →
      (∀ A' : Around, A'.handled = none → Walks X.prog X.w A' s1.heap.objs.size [s1.heap.objs.size, a] [s1.heap.objs.size] its.size (fun i v => its[i]? = some v) St) → St 0 (s1.heap.push ob) →
      (s1.heap.push ob).NoLimit ∧ wpAny (model X.prog X.w) X.A (genexprCode X.env gpos (X.env.qual ++ "<genexpr>") scope) (fun code s3 => wpAny (model X.prog X.w) X.A (builtinsFor X.env.globals X.env.builtins) (fun bi s4 =>
        ∃ Ia fp wr n0 Pf St0 pz Fz, Value.ref s1.heap.objs.size = .ref Ia ∧ (∀ A' : Around, A'.handled = none → Walks X.prog X.w A' Ia fp wr n0 Pf St0) ∧ St0 0 s4.heap ∧ (∀ b ∈ fp, b < s4.heap.objs.size) ∧ s4.heap.NoLimit ∧ cStatics ∉ wr ∧
          (∀ href : Heap, (∀ b o, s4.heap.get? b = some o → href.get? b = some o) →
            QuietGenD X.prog X.w (genEnv scope (cloFrom X.env.cells scope.names []) s4.heap.objs.size code bi X.env) x [] elt (List.range s4.heap.objs.size) wr Pf pz Fz href (X.A.depth + 1) (X.A.units + 8)) ∧
          (∀ g h5 tk gs, gs.bare = true → s4.heap.objs.size < g → h5.objs.size = g + 1 → (∀ b o, s4.heap.get? b = some o → h5.get? b = some o) →
            WalksS X.prog X.w X.A.in4 g (g :: s4.heap.objs.size :: List.range s4.heap.objs.size) (s4.heap.objs.size :: wr) (GenOnlyQ s4.gens.size) (passing pz n0 0).length
              (fun j y => ∃ i, (passing pz n0 0)[j]? = some i ∧ Fz i y) (GenAt X.prog X.w X.A.in4 g s4.gens.size s4.heap.objs.size (List.range s4.heap.objs.size) wr pz n0 Fz) →
            GenAt X.prog X.w X.A.in4 g s4.gens.size s4.heap.objs.size (List.range s4.heap.objs.size) wr pz n0 Fz 0 { s4 with gens := s4.gens.push gs, toks := tk, heap := h5 } →
            Q' (.ref g) { s4 with gens := s4.gens.push gs, toks := tk, heap := h5 })) X.xe s3) X.xe { s1 with heap := s1.heap.push ob } := by
    intro a its vs ob St IA exv rv ts ha W hst
    have hPlt : P < s1.heap.objs.size := Heap.lt_size hPs
    have hP2 : (s1.heap.push ob).get? P = some { cls := .none, data := .fields ps } := Heap.get?_push_of_some _ hPs
    have cd : PySem.W.CodeHd (s1.heap.push ob) c P := C.tb.code.keeps fun b u e => Heap.get?_push_of_some _ (I1.bk b u e)
    have lim2 := I1.nolimit.push ob
    have hPa : P ≠ a := fun z => by
      rcases tv with t | t
      · obtain ⟨a', xs, e1, e2, _⟩ := t.lst_of
        rw [e1] at r1
        rw [exv] at r1
        cases r1
        rcases e2 with ⟨o, e2⟩ | ⟨o, _, _, e2, c2, _, d2, _⟩
        · rw [← z, hP] at e2; cases e2
        · have := I1.kIn _ _ e2
          rw [← z, hPs] at this
          cases this
          cases c2
      · obtain ⟨a', xs, e1, e2, _⟩ := t.tup_of
        rw [e1] at r1
        rw [exv] at r1
        cases r1
        obtain ⟨_, _, ⟨o, g1, g2, _⟩, _⟩ := I1.tuple e2
        rw [← z, hPs] at g1
        cases g1
        cases g2
    have cont : ∀ (code : Value) (h3 : Heap) (tk : Nat) (ps' : Array Value), Heap.ExtBut P (s1.heap.push ob) h3 → (s1.heap.push ob).objs.size ≤ h3.objs.size → h3.get? P = some { cls := .none, data := .fields ps' } → (∃ more, ps' = ps ++ more) → TriplesOk ps'.toList →
        wpAny (model X.prog X.w) X.A (builtinsFor X.env.globals X.env.builtins) (fun bi s4 =>
          ∃ Ia fp wr n0 Pf St0 pz Fz, Value.ref s1.heap.objs.size = .ref Ia ∧ (∀ A' : Around, A'.handled = none → Walks X.prog X.w A' Ia fp wr n0 Pf St0) ∧ St0 0 s4.heap ∧ (∀ b ∈ fp, b < s4.heap.objs.size) ∧ s4.heap.NoLimit ∧ cStatics ∉ wr ∧
            (∀ href : Heap, (∀ b o, s4.heap.get? b = some o → href.get? b = some o) →
              QuietGenD X.prog X.w (genEnv scope (cloFrom X.env.cells scope.names []) s4.heap.objs.size code bi X.env) x [] elt (List.range s4.heap.objs.size) wr Pf pz Fz href (X.A.depth + 1) (X.A.units + 8)) ∧
            (∀ g h5 tk gs, gs.bare = true → s4.heap.objs.size < g → h5.objs.size = g + 1 → (∀ b o, s4.heap.get? b = some o → h5.get? b = some o) →
              WalksS X.prog X.w X.A.in4 g (g :: s4.heap.objs.size :: List.range s4.heap.objs.size) (s4.heap.objs.size :: wr) (GenOnlyQ s4.gens.size) (passing pz n0 0).length
                (fun j y => ∃ i, (passing pz n0 0)[j]? = some i ∧ Fz i y) (GenAt X.prog X.w X.A.in4 g s4.gens.size s4.heap.objs.size (List.range s4.heap.objs.size) wr pz n0 Fz) →
              GenAt X.prog X.w X.A.in4 g s4.gens.size s4.heap.objs.size (List.range s4.heap.objs.size) wr pz n0 Fz 0 { s4 with gens := s4.gens.push gs, toks := tk, heap := h5 } →
              Q' (.ref g) { s4 with gens := s4.gens.push gs, toks := tk, heap := h5 })) X.xe { s1 with heap := h3, toks := tk } := by
      intro code h3 tk ps' hx hsz hP3 ⟨more, em⟩ ht3
      subst em
      obtain ⟨bm, oB, e1, e2, e3, e4, e5, e6, e7, e8⟩ := C.tb.bm
      have hcP : cStatics ≠ P := fun e => by
        obtain ⟨_, ⟨o', es, ep, ho, hd, _⟩, _⟩ := I1.nolimit
        rw [e, hPs] at ho
        cases ho
        cases hd
      have hcl : cStatics < s1.heap.objs.size := let ⟨_, hns, _⟩ := I1.nolimit; hns.lt
      have sz2 : (s1.heap.push ob).objs.size = s1.heap.objs.size + 1 := Heap.size_push ..
      have keep3 : ∀ b u, b ≠ P → s1.heap.get? b = some u → h3.get? b = some u := fun b u hb e => hx b u hb (Heap.get?_push_of_some _ e)
      obtain ⟨gst, ggr⟩ := tab_stp (F := F) hP ht3
      have nP : ∀ b, Mut (H1 b) → b ≠ P := fun b mm z => by rw [z, hP] at mm; exact mm
      have rp2 : Rp X (upd H1 P (.tbl (ps ++ more))) pv σ ev F := rp.keep ggr (fun b m => upd_ne (nP b (rp.mut b m))) fun b m => upd_ne (nP b (rp.vw.mu b m))
      have rvl : its.toList.length = vs.length := rv.length.symm
      have hn : its.size = bs.length := by
        rw [Array.length_toList] at rvl
        rw [rvl, ts.length, hlen]
      have hsz3 : s1.heap.objs.size + 1 ≤ h3.objs.size := by rw [← sz2]; exact hsz
      refine wpAny_builtinsFor (m := X.mg) (by rw [I1.ok.glob]; exact ((I1.mod.glob.keeps I1.bk).push ob).extBut hx C.tb.gP) e1 e2 (keep3 _ _ e4 (I1.bk _ _ e5)) e6 e7 e8 ?_
      refine ⟨s1.heap.objs.size, [s1.heap.objs.size, a], [s1.heap.objs.size], its.size, (fun i v => its[i]? = some v), St, (fun _ => true), (fun i y => ∃ b, bs[i]? = some b ∧ y = .bool b), rfl, W, ?_, ?_, lim2.extBut hx hcP, ?_, ?_, ?_⟩
      · refine (W X.A hr.hd).frame _ _ _ hst fun b hb u e => hx b u (fun z => ?_) e
        subst z
        rcases List.mem_cons.mp hb with z2 | z2
        · exact absurd z2 (Nat.ne_of_lt hPlt)
        · exact hPa (List.mem_singleton.mp z2)
      · intro b hb
        show (b : Nat) < h3.objs.size
        rcases List.mem_cons.mp hb with z | z
        · rw [z]; exact hsz3
        · rw [List.mem_singleton.mp z]; exact Nat.lt_of_lt_of_le ha (Nat.le_trans (Nat.le_succ _) hsz3)
      · intro z
        exact Nat.ne_of_lt hcl (List.mem_singleton.mp z)
      · intro href hhref
        refine ⟨fun A' E' i v s2 m2 hA _ _ hv hns hm hk => ?_, fun A' E' i v s2 m2 hA _ hU hv _ hns hm hk => ?_⟩
        · simp only [List.forIn_nil]
          exact wpAny_pure ⟨rfl, keeps_refl _⟩
        · have hv' : its.toList[i]? = some v := by rw [Array.getElem?_toList]; exact hv
          have hkeep : ∀ b o, b ≠ P → s1.heap.get? b = some o → s2.heap.get? b = some o := fun b o hb e => by
            have hl := Heap.lt_size e
            exact hk b (List.mem_range.mpr (Nat.lt_of_lt_of_le hl (Nat.le_trans (Nat.le_succ _) hsz3))) (fun z => Nat.ne_of_lt hl (List.mem_singleton.mp z)) o (hhref b o (keep3 b o hb e))
          have hPk : s2.heap.get? P = some { cls := .none, data := .fields (ps ++ more) } := hk P (List.mem_range.mpr (Nat.lt_of_lt_of_le hPlt (Nat.le_trans (Nat.le_succ _) hsz3))) (fun z => Nat.ne_of_lt hPlt (List.mem_singleton.mp z)) _ (hhref P _ hP3)
          have J := inv_tab (more := more) (h' := s2.heap) (g' := s1.gens) (d' := s1.drawn) (t' := s1.toks) I1 hP hkeep hPk I1.bare
          have hil : i < vs.length := by
            rw [rv.length]
            exact (List.getElem?_eq_some_iff.mp hv').1
          obtain ⟨d, hd, tx⟩ := ts.get' (List.getElem?_eq_getElem hil)
          obtain ⟨u', hu', ru⟩ := rv.get (List.getElem?_eq_getElem hil)
          rw [hv'] at hu'
          cases hu'
          obtain ⟨b, hb, eb⟩ := elsM_at hbs hd
          exact wpAny_mono (hel pins σ _ _ s2 pv ev F d _ v b _ A' E' m2 J rfl rp2 nd (tx.grow ggr) ru eb rfl rfl hA hU hns hm) (fun y s3 r => ⟨⟨b, hb, r.1⟩, r.2⟩) fun _ _ e => e
      · intro g h5 tk5 gs hgb hag hsz5 hk5 W5 hat
        simp only [GxR.passing_true, List.length_range] at W5
        rw [hn] at W5 hat
        refine hQ ps g _ hP ⟨_, _, _, _, _, more, W5.in4_1, hat, ?_, ht3, fun s' hm => ?_⟩
        · intro j y sj Qj Ej hy hQj
          obtain ⟨i, hij, b, hb, rfl⟩ := hy
          obtain ⟨hj, ej⟩ := List.getElem?_eq_some_iff.mp hij
          rw [List.getElem_range] at ej
          subst ej
          have et : trB bs j = b := by
            unfold trB
            rw [List.getD_eq_getElem?_getD, hb]
            rfl
          rw [et] at hQj
          exact wpAny_truthy_bool hQj
        · have nwr : ∀ b u, s1.heap.get? b = some u → b ∉ h3.objs.size :: [s1.heap.objs.size] := fun b u e hb => by
            have hl : (b : Nat) < s1.heap.objs.size := Heap.lt_size e
            rcases List.mem_cons.mp hb with z | z
            · have z' : (b : Nat) = h3.objs.size := z
              rw [z'] at hl
              exact absurd (Nat.lt_of_lt_of_le hl (Nat.le_trans (Nat.le_succ _) hsz3)) (Nat.lt_irrefl _)
            · exact Nat.ne_of_lt hl (List.mem_singleton.mp z)
          have J := inv_tab (more := more) (h' := s'.heap) (g' := s'.gens) (d' := s'.drawn) (t' := s'.toks) I1 hP (fun b u hb e => hm.heap b u (nwr b u e) (hk5 b u (keep3 b u hb e)))
            (hm.heap P _ (nwr P _ hPs) (hk5 P _ hP3)) (AllBare.movedS (I1.bare.push hgb) hm)
          rw [sh_eta s1 s' hm.os] at J
          exact J
    refine ⟨lim2, ?_⟩
    cases hf : codeAmong gpos ps.toList with
    | none =>
      refine wpAny_genexprCodeX C.at_ (cd.code hP2 ht) (cd.tab hP2) hf fun c' h' tk hx hge hlt hco' _ htab' _ => ?_
      obtain ⟨o1, vs1, f1, tf, fl, tg, inF, tx, tt, op, _, _, _, _, _, _, _, _, _, htr, _⟩ := hco'
      exact cont _ h' tk _ hx (Nat.le_trans hge (Nat.le_of_lt hlt)) htab'.2 ⟨_, rfl⟩ htr
    | some cv =>
      refine wpAny_genexprCode_hit C.at_ (cd.code hP2 ht) hf ?_
      exact cont cv (s1.heap.push ob) s1.toks ps (Heap.ExtBut.refl _ _) (Nat.le_refl _) hP2 ⟨#[], by simp⟩ ht
  rcases tv with t | t
  · obtain ⟨a, xs, rfl, h1, ts⟩ := t.lst_of
    cases r1
    obtain ⟨its, rv, pl, hz⟩ := I1.list h1.seq
    obtain ⟨o, n, e1, e2, e3, e4⟩ := id pl
    have hl := pl.isList
    refine wpAny_pyIter_list hl (main a its.toArray xs _ (fun i h => h.IsListIter s1.heap.objs.size a i ∧ h.IsList a its.toArray) (fun _ => True) rfl (by simpa using rv) ts (Heap.lt_size e1) (fun A' hA => Walks.list hA _ a (Nat.ne_of_lt (Heap.lt_size e1)) _) ⟨⟨_, Heap.get?_push_size _ rfl, rfl, rfl⟩, ?_⟩)
    obtain ⟨o, g1, g2⟩ := hl
    exact ⟨o, Heap.get?_push_of_some _ g1, g2⟩
  · obtain ⟨a, xs, rfl, h1, ts⟩ := t.tup_of
    cases r1
    obtain ⟨its, rv, pl, hz⟩ := I1.tuple h1
    obtain ⟨o, e1, e2⟩ := id pl
    refine wpAny_pyIter_tuple pl (main a its.toArray xs _ (fun i h => h.IsTupleIter s1.heap.objs.size a i ∧ h.IsTuple a its.toArray) (fun _ => True) rfl (by simpa using rv) ts (Heap.lt_size e1) (fun A' hA => Walks.tuple hA _ a (Nat.ne_of_lt (Heap.lt_size e1)) _) ⟨⟨_, Heap.get?_push_size _ rfl, rfl, rfl⟩, ?_⟩)
    exact ⟨o, Heap.get?_push_of_some _ e1, e2⟩
end
/-! ### all, any -/
section
variable {X : Cx} {σ : L2.St} {H : Hp} {m : M O}
def mGen (fin : List Bool → Bool) (el : PyData → Ev → Option Bool) (m : M O) : M O := fun ev => (m ev).bind fun p => (itD p.1.data).bind fun ds => (elsM el p.2 ds).map fun bs => (.dat (.bool (fin bs)), p.2)
theorem gen_read {fin : List Bool → Bool} {el : PyData → Ev → Option Bool} {P : Addr} {pins : List (Addr × Obj)} {Q : VK} {Q' : Addr → Shared → Prop} (hQ : ∀ H1 ps bs g s5, H1 P = some (.tbl ps) → ReadyB X pins σ H1 P ps bs g s5 → (∀ more, TriplesOk (ps ++ more).toList → Q (.bl (fin bs)) (upd H1 P (.tbl (ps ++ more)))) → Q' g s5)
    (h : tM X (mGen fin el m) σ H Q) : tM X (mFz m) σ H fun v H1 => ∃ pv ev F ds bs, Rp X H1 pv σ ev F ∧ F.Nodup ∧ (TX X H1 v (.list ds) ∨ TX X H1 v (.tuple ds)) ∧ elsM el ev ds = some bs ∧ ∀ ps g s5, H1 P = some (.tbl ps) → ReadyB X pins σ H1 P ps bs g s5 → Q' g s5 := by
  obtain ⟨pv, ev, F, o, ev', r, nd, hm, q⟩ := h
  unfold mGen at hm
  cases e1 : m ev with
  | none => rw [e1] at hm; cases hm
  | some p =>
    simp only [e1, Option.bind_some] at hm
    cases e2 : itD p.1.data with
    | none => rw [e2] at hm; cases hm
    | some ds =>
      simp only [e2, Option.bind_some] at hm
      cases e3 : elsM el p.2 ds with
      | none => rw [e3] at hm; cases hm
      | some bs =>
        rw [e3] at hm
        cases hm
        refine one e1 r nd fun x H1 F1 r1 n1 s1 t1 => ⟨pv, p.2, F1, ds, bs, r1, n1, ?_, e3, fun ps g s5 hP hR => hQ H1 ps bs g s5 hP hR fun more ht => ?_⟩
        · unfold itD at e2
          split at e2
          · rename_i e4; cases e2; rw [e4] at t1; exact .inl t1
          · rename_i e4; cases e2; rw [e4] at t1; exact .inr t1
          · cases e2
        · obtain ⟨gst, ggr⟩ := tab_stp (F := F1) hP ht
          have nP : ∀ b, Mut (H1 b) → b ≠ P := fun b mm z => by rw [z, hP] at mm; exact mm
          have r2 : Rp X (upd H1 P (.tbl (ps ++ more))) pv σ p.2 F1 := r1.keep ggr (fun b m => upd_ne (nP b (r1.mut b m))) fun b m => upd_ne (nP b (r1.vw.mu b m))
          exact q _ _ F1 [] r2 (.dat (.bl _)) (by simpa using n1) (by simpa using s1.trans gst)
end
section
variable {X : Cx} {m : M O}
theorem zAll {c P : Addr} {elt iter : Expr} {x : Str} {px p pos gpos : Pos} {scope : Scope} {el : PyData → Ev → Option Bool} {k : Nat} (hr : Room k X.A) (C : Code X c P) (S : GenS X.env scope x) (hm : X.mg "all" = none) (hb : bootBuiltins "all" = some (.builtin "all")) (hi : PE X iter (tM X m)) (hel : QEl X scope x elt el) (hg : Gl X "all" := by rfl) (hs : ∀ v, genFold iter X.env v = pure v := by intro _; rfl)
    (he : starEach [.GeneratorExp elt [⟨.Name x px, iter, [], 0⟩] scope gpos] X.env = (false, eval (.GeneratorExp elt [⟨.Name x px, iter, [], 0⟩] scope gpos) X.env) :: starEach [] X.env := by rfl) :
    PE X (.Call (.Name "all" p) [.GeneratorExp elt [⟨.Name x px, iter, [], 0⟩] scope gpos] [] pos) (tM X (mGen (fun bs => bs.all id) el m)) := by
  refine ⟨fun pins s σ H Q I h => ?_⟩
  refine wpAny_Call_Name_kw (ld_blt I hg hm hb (PyProof.Rows.callWith_builtin1 ?_ he (by rfl)))
  rw [he]
  refine Calls.spliced_cons (gen_row hr C S (PEfz hi) hel hs I (gen_read (fun H1 ps bs g s5 hP hR hq => ?_) h))
  obtain ⟨fp, wr, G, F, St, more, W, hst, htr, ht, hI⟩ := hR
  refine Calls.spliced_nil (call_all_walkS (W.self 0 _ _ _ hst ⟨g, fp, wr, G, _, F, St, _, rfl, W, hst, htr, fun s' hmv => ⟨.bl _, _, hI s' hmv, rfl, ?_⟩⟩))
  rw [all_trB]
  exact hq more ht
theorem zAny {c P : Addr} {elt iter : Expr} {x : Str} {px p pos gpos : Pos} {scope : Scope} {el : PyData → Ev → Option Bool} {k : Nat} (hr : Room k X.A) (C : Code X c P) (S : GenS X.env scope x) (hm : X.mg "any" = none) (hb : bootBuiltins "any" = some (.builtin "any")) (hi : PE X iter (tM X m)) (hel : QEl X scope x elt el) (hg : Gl X "any" := by rfl) (hs : ∀ v, genFold iter X.env v = pure v := by intro _; rfl)
    (he : starEach [.GeneratorExp elt [⟨.Name x px, iter, [], 0⟩] scope gpos] X.env = (false, eval (.GeneratorExp elt [⟨.Name x px, iter, [], 0⟩] scope gpos) X.env) :: starEach [] X.env := by rfl) :
    PE X (.Call (.Name "any" p) [.GeneratorExp elt [⟨.Name x px, iter, [], 0⟩] scope gpos] [] pos) (tM X (mGen (fun bs => bs.any id) el m)) := by
  refine ⟨fun pins s σ H Q I h => ?_⟩
  refine wpAny_Call_Name_kw (ld_blt I hg hm hb (PyProof.Rows.callWith_builtin1 ?_ he (by rfl)))
  rw [he]
  refine Calls.spliced_cons (gen_row hr C S (PEfz hi) hel hs I (gen_read (fun H1 ps bs g s5 hP hR hq => ?_) h))
  obtain ⟨fp, wr, G, F, St, more, W, hst, htr, ht, hI⟩ := hR
  refine Calls.spliced_nil (call_any_walkS (W.self 0 _ _ _ hst ⟨g, fp, wr, G, _, F, St, _, rfl, W, hst, htr, fun s' hmv => ⟨.bl _, _, hI s' hmv, rfl, ?_⟩⟩))
  rw [any_trB]
  exact hq more ht
end
end Z
set_option Elab.async false
set_option linter.all false
set_option maxRecDepth 100000
set_option maxHeartbeats 2000000
/-! Z21: from the law's own def to the law's row. -/
namespace Z
open PySem PySem.Spec PyProof.Rows L2

/-! ### the base: the heap without the script and the tables, these marked -/
def mkA : Obj := { cls := .none, data := .freed }
def markO (S T : List Addr) (i : Nat) (o : Obj) : Obj := if i ∈ T then mkT else if i ∈ S then mkA else match o.data with
  | .freed => mkA
  | _ => o
def markH (h : Heap) (S T : List Addr) : Heap := { h with objs := h.objs.mapIdx (markO S T) }
section
variable {h : Heap} {S T : List Addr} {b : Addr} {o : Obj}
theorem mark_size : (markH h S T).objs.size = h.objs.size := by simp [markH]
theorem mark_objs (b : Nat) : (markH h S T).objs[b]? = (h.objs[b]?).map (markO S T b) := by simp [markH]
theorem get_raw (e : h.get? b = some o) : h.objs[b]? = some o ∧ o.data ≠ .freed := by
  unfold Heap.get? at e
  split at e
  · cases e
  · rename_i hn
    refine ⟨e, fun z => ?_⟩
    obtain ⟨c, d, da, sl⟩ := o
    simp only at z
    subst z
    exact hn _ _ _ e
theorem raw_get (e : h.objs[b]? = some o) (n : o.data ≠ .freed) : h.get? b = some o := by
  unfold Heap.get?
  rw [e]
  split
  · rename_i z
    cases z
    exact absurd rfl n
  · rfl
theorem mark_get (e : h.get? b = some o) (hS : b ∉ S) (hT : b ∉ T) : (markH h S T).get? b = some o := by
  obtain ⟨e1, n⟩ := get_raw e
  refine raw_get ?_ n
  rw [mark_objs, e1]
  show some (markO S T b o) = some o
  unfold markO
  rw [if_neg hT, if_neg hS]
  split
  · rename_i z; exact absurd z n
  · rfl
theorem of_mark (e : (markH h S T).get? b = some o) : h.get? b = some o ∧ b ∉ S ∧ b ∉ T := by
  obtain ⟨e1, n⟩ := get_raw e
  rw [mark_objs] at e1
  cases q : h.objs[b]? with
  | none => rw [q] at e1; cases e1
  | some u =>
    rw [q] at e1
    have e2 : markO S T b u = o := Option.some.inj e1
    unfold markO at e2
    split at e2
    · exact absurd (by rw [← e2]; rfl) n
    · rename_i hT
      split at e2
      · exact absurd (by rw [← e2]; rfl) n
      · rename_i hS
        split at e2
        · exact absurd (by rw [← e2]; rfl) n
        · subst e2; exact ⟨raw_get q n, hS, hT⟩
theorem mark_tab (e : (markH h S T).objs[b]? = some mkT) : b ∈ T := by
  rw [mark_objs] at e
  cases q : h.objs[b]? with
  | none => rw [q] at e; cases e
  | some u =>
    rw [q] at e
    have e2 : markO S T b u = mkT := Option.some.inj e
    unfold markO at e2
    split at e2
    · assumption
    · split at e2
      · exact absurd (congrArg Obj.dict e2) (by decide)
      · split at e2
        · exact absurd (congrArg Obj.dict e2) (by decide)
        · rename_i n
          exact absurd (by rw [e2]; rfl) n
theorem mark_at (e : h.get? b = some o) (hT : b ∈ T) : (markH h S T).objs[b]? = some mkT := by
  rw [mark_objs, (get_raw e).1]
  show some (markO S T b o) = some mkT
  unfold markO
  rw [if_pos hT]
end

/-- a script as data -/
def scr (ns : List Int) : O := .dat (.list (ns.map PyData.int))
theorem ts_ints {P : Program} {w : World} {K : PySem.W.Frag} {H : Hp} : ∀ ns : List Int, Ts P w K H (ns.map V.int) (ns.map PyData.int)
  | [] => .nil
  | n :: ns => .cons (.int n) (ts_ints ns)
section
variable {P : Program} {w : World} {K : PySem.W.Frag} {mg mb : Str → Option Value} {k : Nat} {fa a : Addr} {cs : List (Addr × Addr)} {x : Str} {fn : Fn} {s : Shared} {vs : List Value} {ns : List Int} {bs : List (Option O)}
theorem law_run (KX : K.In s.heap) (hns : s.heap.Ns mainGlobals mg) (hb : s.heap.Ns builtinsNs mb) (hbb : ∀ x : Str, x ≠ "__name__" → mb x = bootBuiltins x) (hlim : s.heap.NoLimit) (hg : s.gens = #[])
    (hC : ∀ p ∈ cs, PySem.W.CodeHd s.heap p.1 p.2 ∧ s.heap.get? p.2 = some (PySem.W.tabObj #[]) ∧ K.lookup p.2 = none)
    (hbm : ∃ (bm : Addr) (ob : Obj), mg "__builtins__" = some (.ref bm) ∧ bm ≠ builtinsNs ∧ s.heap.get? bm = some ob ∧ ob.cls = .type "module" ∧ ob.dict = some builtinsNs ∧ ob.data = .plain)
    (ha : s.heap.get? a = some { cls := .type "list", data := .seq vs.toArray }) (hi : IntsAre vs ns) (hl : ns.length ≤ sizeLine) (hr : Room k callerA)
    (F : ∀ base : Heap, K.In base → base.Ns mainGlobals mg → (∀ p ∈ cs, GxR.TabB base mg p.1 p.2 ∧ base.objs[p.2]? = some mkT) → ∃ fd, (∀ (s : Shared) (u : Value), BindsTo s fd ⟨[u], []⟩ [(x, u)]) ∧ FnZ P w K mg base CX0 k fa fd [x] (spF base P w K 1 fn))
    (hfn : fn [scr ns] = some (.dat (.bool true), bs)) :
    codeAny (model P w) callerA (.call (.ref fa) ⟨[.ref a], []⟩) (fun r s' => r = .ok (.ret (.bool true)) ∧ OldK s.heap s'.heap ∧ s'.os = s.os ∧ AllBare s'.gens) s := by
  have hv := vals_ints hi
  -- what is taken out
  obtain ⟨S, hS⟩ : ∃ S : List Addr, S = if K.lookup a = none then [a] else [] := ⟨_, rfl⟩
  obtain ⟨T, hT⟩ : ∃ T : List Addr, T = cs.map (·.2) := ⟨_, rfl⟩
  have inS : ∀ b ∈ S, b = a ∧ K.lookup a = none := fun b m => by
    rw [hS] at m
    split at m
    · rename_i z; exact ⟨List.mem_singleton.mp m, z⟩
    · cases m
  have inT : ∀ b ∈ T, s.heap.get? b = some (PySem.W.tabObj #[]) ∧ K.lookup b = none := fun b m => by
    rw [hT] at m
    obtain ⟨p, hp, rfl⟩ := List.mem_map.mp m
    exact (hC p hp).2
  have aT : a ∉ T := fun z => by
    have q := (inT a z).1
    rw [ha] at q
    have q2 := congrArg Obj.data (Option.some.inj q)
    cases q2
  -- the heap that is tracked
  obtain ⟨H, hH⟩ : ∃ H : Hp, H = fun b => if b ∈ S then some (.frz { cls := .type "list", data := .seq vs.toArray } (.lst (ns.map V.int))) else if b ∈ T then some (.tbl #[]) else none := ⟨_, rfl⟩
  have HS : ∀ b, b ∈ S → H b = some (.frz { cls := .type "list", data := .seq vs.toArray } (.lst (ns.map V.int))) := fun b m => by rw [hH]; exact if_pos m
  have TS : ∀ b ∈ T, b ∉ S := fun b m z => aT ((inS b z).1 ▸ m)
  have HT : ∀ b, b ∈ T → H b = some (.tbl #[]) := fun b m => by rw [hH]; exact (if_neg (TS b m)).trans (if_pos m)
  have HN : ∀ b, b ∉ S → b ∉ T → H b = none := fun b m1 m2 => by rw [hH]; exact (if_neg m1).trans (if_neg m2)
  have hok : HOk P w H s.heap := fun b u e => by
    by_cases m : b ∈ S
    · rw [HS b m] at e
      cases e
      rw [(inS b m).1]
      exact ⟨ha, by rw [List.length_map]; exact hl, vs, 0, hv, ha⟩
    · by_cases m2 : b ∈ T
      · rw [HT b m2] at e
        cases e
        exact (inT b m2).1
      · rw [HN b m m2] at e; cases e
  -- a thing that is neither a row nor a table stands in the base
  have low : ∀ {b : Addr} {o : Obj}, s.heap.get? b = some o → (∀ vs n, o.data ≠ .seq vs n) → o ≠ PySem.W.tabObj #[] → (markH s.heap S T).get? b = some o := fun {b o} e n1 n2 => by
    refine mark_get e (fun z => ?_) fun z => ?_
    · rw [(inS b z).1, ha] at e
      cases e
      exact n1 _ _ rfl
    · rw [(inT b z).1] at e
      cases e
      exact n2 rfl
  have lowNs : ∀ {b : Addr} {m : Str → Option Value}, s.heap.Ns b m → (markH s.heap S T).Ns b m := fun {b m} ⟨o, es, ep, e, d, r⟩ => ⟨o, es, ep, low e (fun vs n z => by rw [d] at z; cases z) (fun z => by rw [z] at d; cases d), d, r⟩
  have KB : K.In (markH s.heap S T) := fun b o e => by
    refine mark_get (KX b o e) (fun z => ?_) fun z => ?_
    · obtain ⟨rfl, n⟩ := inS b z
      rw [n] at e; cases e
    · rw [(inT b z).2] at e; cases e
  have MD : L2.Mod K mg (markH s.heap S T) := ⟨KB, lowNs hns, ⟨mb, lowNs hb, hbb⟩, by
    obtain ⟨mc, q1, q2⟩ := hlim
    exact ⟨mc, lowNs q1, q2⟩⟩
  have MT : ∀ p ∈ cs, GxR.TabB (markH s.heap S T) mg p.1 p.2 ∧ (markH s.heap S T).objs[p.2]? = some mkT := fun p hp => by
    obtain ⟨c1, c2, _⟩ := hC p hp
    have glob : mainGlobals ≠ p.2 := fun z => by
      obtain ⟨o, es, ep, e, d, _⟩ := hns
      rw [z, c2] at e
      cases e
      cases d
    refine ⟨⟨?_, ?_, glob⟩, mark_at c2 (by rw [hT]; exact List.mem_map_of_mem hp)⟩
    · obtain ⟨o, us, file, tf, flags, tg, inF, text, tt, e1, r1, r2, rest⟩ := c1
      exact ⟨o, us, file, tf, flags, tg, inF, text, tt, low e1 (fun vs n z => by rw [r2] at z; cases z) (fun z => by rw [z] at r1; cases r1), r1, r2, rest⟩
    · obtain ⟨bm, ob, b1, b2, b3, b4, b5, b6⟩ := hbm
      refine ⟨bm, ob, b1, b2, fun z => ?_, fun z => ?_, low b3 (fun vs n z => by rw [b6] at z; cases z) (fun z => by rw [z] at b4; cases b4), b4, b5, b6⟩
      · obtain ⟨o, es, ep, e, d, _⟩ := hns
        rw [z, e] at b3
        cases b3
        rw [d] at b6
        cases b6
      · rw [z, c2] at b3
        cases b3
        cases b6
  have e0 : Env0 P w K mg (markH s.heap S T) callerA [] s H := ⟨rfl, MD, fun b o e => ⟨(of_mark e).1, HN b (of_mark e).2.1 (of_mark e).2.2⟩, Nat.le_of_eq mark_size, trivial, fun b m => absurd (show b ∈ ([] : List Addr) from m) (by simp), hok, AllBare.of_eq hg⟩
  obtain ⟨fd, hbind, ff⟩ := F _ KB (lowNs hns) MT
  -- the script, as data
  have lst : FzL K H a (ns.map V.int) := by
    cases q : K.lookup a with
    | none => exact .inl ⟨_, HS a (by rw [hS, if_pos q]; exact List.mem_singleton.mpr rfl)⟩
    | some o =>
      have e := KX a o q
      rw [ha] at e
      cases e
      exact .inr ⟨_, vs.toArray, _, q, rfl, rfl, rfl, by rw [List.size_toArray, hi.length]; exact hl, by simpa using hv, rfl⟩
  have tabs : Tabs (markH s.heap S T) H := fun p e => ⟨#[], HT p (mark_tab e), trivial⟩
  have sp : spF (markH s.heap S T) P w K 1 fn [.ref a] H (fun v _ => v = .bl true) fun _ _ _ => False :=
    ⟨[scr ns], [], _, bs, .cons (.dat (.lst lst (ts_ints ns))) .nil, List.nodup_nil, rfl, hfn, tabs, fun v H' G B r _ _ _ => by
      cases r with
      | dat t => cases t; rfl⟩
  refine codeAny_mono (ff.run callerA [] s H ⟨[.ref a], []⟩ [.ref a] [.ref a] _ _ hr rfl e0 (hbind s (.ref a)) (.cons rfl .nil) sp) fun r s' h => ?_
  match r, h with
  | .ok (.ret u), ⟨v, H', os, bare, un, hok', r', q⟩ =>
    have q' : v = .bl true := q
    subst q'
    obtain rfl : u = Value.bool true := r'
    have same : ∀ b o, b ∉ T → s.heap.get? b = some o → s'.heap.get? b = some o := fun b o m e => by
      by_cases m1 : b ∈ S
      · have z := un.frzs b _ _ (HS b m1)
        obtain ⟨z1, _⟩ := hok' b _ z
        rw [(inS b m1).1] at e z1 ⊢
        rw [ha] at e
        cases e
        exact z1
      · exact un.keep b o e (HN b m1 m) (by intro z; cases z) (by simp)
    have tab : ∀ b ∈ T, ∃ more : Array Value, s'.heap.get? b = some { cls := .none, data := .fields more } := fun b m => by
      obtain ⟨more, z⟩ := un.tbls b #[] (HT b m)
      exact ⟨_, hok' b _ z⟩
    refine ⟨rfl, ⟨fun b o e => ?_, fun b o e => ?_⟩, os, bare⟩
    · by_cases m : b ∈ T
      · obtain ⟨more, z⟩ := tab b m
        obtain ⟨p, hp, ep⟩ := List.mem_map.mp (hT ▸ m)
        obtain ⟨c1, c2, _⟩ := hC p hp
        rw [ep] at c1 c2
        rw [c2] at e
        cases e
        exact .inr (.inl ⟨(c1.tab c2).isCodeTable, rfl, #[], more, rfl, by rw [Array.empty_append]; exact z⟩)
      · exact .inl (same b o m e)
    · by_cases m : b ∈ T
      · obtain ⟨more, z⟩ := tab b m
        exact ⟨_, z⟩
      · exact ⟨o, same b o m e⟩
  | .error e, h => exact False.elim h
  | .ok .next, h => exact False.elim h
  | .ok .brk, h => exact False.elim h
  | .ok .cont, h => exact False.elim h
end
/-- what is known of the tables of the defs tn -/
def TabK (K : PySem.W.Frag) (mg : Str → Option Value) (base : Heap) (tn : List Str) : Prop := ∀ y ∈ tn, ∀ c p, PySem.W.tabIn K y = some (c, p) → GxR.TabB base mg c p ∧ base.objs[p]? = some mkT
/-- THE END: the law's own def answers true at every script; tn: the defs that hold a generator expression -/
theorem walkZ {l : PySem.W.OpenLaw} {n k : Nat} {q : Program} {loose : List Str} {XP : (Str → Option Value) → Heap → Prop} {YP : World → Heap → Prop} {d : DefRec} {K : Params → PySem.W.Frag} {x : Str} {fn : Fn} (tn : List Str)
    (hn : l.most = some n) (hn2 : n ≤ sizeLine) (hdf : d.params.defaults = []) (hr : Room k callerA) (hY : ∀ (w : World) (h : Heap), YP w h → (K w.params).In h)
    (hrec : ∀ y ∈ tn, ((recsOf q).find? fun e => e.name == y).isSome = true) (hK : ∀ p : Params, PySem.W.noTabs (K p) = true)
    (F : ∀ (w : World) (mg : Str → Option Value) (fa : Addr) (base : Heap), (K w.params).In base → base.Ns mainGlobals mg → mg d.name = some (.ref fa) → TabK (K w.params) mg base tn →
      ∃ fd, (∀ (s : Shared) (u : Value), BindsTo s fd ⟨[u], []⟩ [(x, u)]) ∧ FnZ l.prog w (K w.params) mg base CX0 k fa fd [x] (spF base l.prog w (K w.params) 1 fn))
    (hfn : ∀ ns : List Int, ns.length ≤ n → (∀ z ∈ ns, Builtin.Int.intBits z ≤ 1048576) → ∃ bs, fn [scr ns] = some (.dat (.bool true), bs)) :
    PySem.W.WalkO q loose XP YP l.row.toRowW d [] (fun f vs => PySem.call f vs) := by
  refine Att.attach_callB hn hdf fun w s₀ s₁ mg mb fa o pm cd doc a vs ns G Y ho hd hcd hmg hobj hints hlen hbits hg => ?_
  have KX := hY w _ Y
  obtain ⟨bs, hbs⟩ := hfn ns hlen hbits
  refine law_run (cs := tn.filterMap (PySem.W.tabIn (K w.params))) KX G.T.g G.T.b G.T.builtins G.T.nolimit hg (fun p hp => ?_) G.T.bmain hobj hints (Nat.le_trans hlen hn2) hr (fun base hKb hNs hcs => F w mg fa base hKb hNs hmg fun y hy c p e => hcs (c, p) (List.mem_filterMap.mpr ⟨y, hy, e⟩)) hbs
  obtain ⟨y, hy, e⟩ := List.mem_filterMap.mp hp
  obtain ⟨d', hd'⟩ := Option.isSome_iff_exists.mp (hrec y hy)
  obtain ⟨t1, t2⟩ := PySem.W.tab_of G.T KX hd' e
  refine ⟨t1, t2, ?_⟩
  cases q2 : (K w.params).lookup p.2 with
  | none => rfl
  | some o2 =>
    have e2 := KX _ _ q2
    rw [t2] at e2
    cases e2
    have z := List.all_eq_true.mp (hK w.params) _ (PySem.W.mem_of_lookupK q2)
    exact absurd (show false = true from z) Bool.false_ne_true
end Z
set_option Elab.async false
set_option linter.all false
set_option maxRecDepth 100000
set_option maxHeartbeats 1000000
/-! Z22: elements of a generator expression. -/
namespace Z
open PySem PySem.Spec PyProof.Rows L2
open GxR PySem.SeqAt
section
variable {X : Cx} {scope : Scope} {x y : Str} {p1 p2 p3 : Pos}
/-- x in y: x the expression's own name, y a name of the def at slot i -/
def eIn (i : Nat) : PyData → Ev → Option Bool := fun d ev => (ev[i]?.bind Sl.see).bind fun o => (items o).bind fun ds => if pl d && PyData.plainAll ds then some (ds.any fun z => PyData.eqv z d) else none
theorem zeIn (i : Nat) (hu : X.A.units + 72 < cLine) (S : GenS X.env scope x) (hN : X.N[i]? = some y := by rfl) (hv : Vis X.env.scope y := by first | exact Or.inl rfl | exact Or.inr (Or.inl rfl) | exact Or.inr (Or.inr rfl)) (hk : X.env.scope.names.lookup y = some .cell := by rfl)
    (hf : scope.names.lookup y = some .free := by rfl) (hd1 : (x == ("__debug__" : Str)) = false := by decide) (hd2 : (y == ("__debug__" : Str)) = false := by decide) (hcd : (y == ("__classdict__" : Str)) = false := by decide) :
    QEl X scope x (.Compare (.Name x p1) [.In] [.Name y p2] p3) (eIn i) := by
  intro pins σ H s0 s2 pv ev F d xv u b cenv A' E' m2 I hh r nd t ru eb hsc hce hA hU hns hm
  unfold eIn at eb
  cases h1 : ev[i]?.bind Sl.see with
  | none => rw [h1] at eb; cases eb
  | some o =>
    simp only [h1, Option.bind_some] at eb
    cases h2 : items o with
    | none => rw [h2] at eb; cases eb
    | some ds =>
      simp only [h2, Option.bind_some] at eb
      split at eb
      · rename_i hp
        rw [Bool.and_eq_true] at hp
        cases eb
        obtain ⟨v, Fo, hvσ, ro, _⟩ := r.peek nd h1
        obtain ⟨m, _, lk⟩ := I.loc
        obtain ⟨uy, ry, look⟩ := lk i y v hN hvσ hv
        have hkind : X.env.kindOf y ≠ some .local := fun z => by
          have z2 : X.env.scope.names.lookup y = some .local := z
          rw [hk] at z2
          cases z2
        rcases look with ⟨z, _⟩ | ⟨_, c, hc, ic⟩
        · exact absurd z hkind
        · have hfr : (cloFrom X.env.cells scope.names []).lookup y = some c := NdefX.clo_has S.free (PySem.mem_of_lookup hf) hc
          obtain ⟨as, ra⟩ := t.reads I (pl_ok hp.1).1 ru
          have hu' : A'.units + 1 + min (PyData.depthAll ds) d.depth < cLine := by
            have q1 := Nat.min_le_right (PyData.depthAll ds) d.depth
            have q2 := (pl_ok hp.1).2
            omega
          refine wpAny_Compare1 ?_
          refine wpAny_Name (wpAny_loadName_local (by rw [hsc]; exact S.kind) (show cenv.scope.names.lookup x = some .local by rw [hsc]; exact S.loc) hns hm ?_) hd1
          refine wpAny_Name (wpAny_loadName_free (by rw [hsc]; exact S.kind) (show cenv.scope.names.lookup y = some .free by rw [hsc]; exact hf) (by rw [hce]; exact hfr) (by rw [← hh]; exact ic) ?_ hcd) hd2
          rcases items_ok ro h2 with ⟨a, xs, rfl, g1, g2⟩ | ⟨a, xs, rfl, g1, g2⟩
          · cases ry
            obtain ⟨its, rv, ⟨ob, mm, e1, e2, e3, e4⟩, _⟩ := I.list g1
            obtain ⟨bs, rb⟩ := g2.reads I hp.2 rv
            rw [hh] at e1 ra rb
            exact in_list_data (.list e1 e2 e4 (by simpa using rb)) ra hp.2 (pl_ok hp.1).1 hu' ⟨rfl, keeps_refl _⟩
          · cases ry
            obtain ⟨its, rv, ⟨ob, e1, e2, mm, e4⟩, _⟩ := I.tuple g1
            obtain ⟨bs, rb⟩ := g2.reads I hp.2 rv
            rw [hh] at e1 ra rb
            exact in_tuple_data (.tuple e1 e2 e4 (by simpa using rb)) ra hp.2 (pl_ok hp.1).1 hu' ⟨rfl, keeps_refl _⟩
      · cases eb
end
end Z
set_option Elab.async false
set_option linter.all false
set_option maxRecDepth 100000
set_option maxHeartbeats 1000000
/-! Z23: a slot's own tree is frozen ahead of a statement (no code runs). -/
namespace Z
open PySem PySem.Spec PyProof.Rows L2
section
variable {X : Cx}
def frzE (i : Nat) (ev : Ev) : Option Ev := match ev[i]? with
  | some (.var o) => some (ev.set i (.var (.dat o.data)))
  | _ => none
def mFrS (i : Nat) (m : M Out) : M Out := fun ev => (frzE i ev).bind m
theorem Fin.from {D : Ends} {pv : Pv} {ev1 : Ev} {F F1 : List Addr} {H H1 : Hp} {out : Out} (f : Fin X D pv ev1 F H out) (s : Stp F H F1 H1) : Fin X D pv ev1 F1 H1 out := f.trans s
theorem frz_slot {pins : List (Addr × Obj)} {σ : L2.St} {H : Hp} {s : Shared} {pv : Pv} {ev ev' : Ev} {F : List Addr} {i : Nat} (I : Inv X pins σ H s) (r : Rp X H pv σ ev F) (nd : F.Nodup) (h : frzE i ev = some ev') :
    ∃ H' F', Inv X pins σ H' s ∧ Rp X H' pv σ ev' F' ∧ F'.Nodup ∧ Stp F H F' H' := by
  unfold frzE at h
  split at h
  · rename_i o e
    cases h
    obtain ⟨v, Fo, R, hv, ro, p, r2, put⟩ := r.focus e rfl
    obtain ⟨n1, n2, n3⟩ := nd_app.mp (p.nodup_iff.mp nd)
    obtain ⟨H2, I2, bu, t⟩ := RO.freeze I ro n1
    have r4 := put (o' := .dat o.data) (F' := []) (bu.grow ro.mut) (fun a m => bu a fun z => n3 a z m) (fun a m => bu a fun z => r.off a m (p.mem_iff.mpr (List.mem_append_left _ z))) (fun a m z => by cases z) (.dat t)
    refine ⟨H2, [] ++ R, I2, r4, by simpa using n2, ?_⟩
    have st := (bu.stp ro.mut).wide (F2 := F) fun a m => p.mem_iff.mpr (List.mem_append_left _ m)
    exact ⟨st.keep, st.live, st.tab, fun a m => .inl (p.mem_iff.mpr (List.mem_append_right _ (by simpa using m)))⟩
  · cases h
theorem zFrS {i : Nat} {ss : List Stmt} {m : M Out} (h : PSs X ss (tS X m)) : PSs X ss (tS X (mFrS i m)) := by
  refine ⟨fun pins s σ H D I q => ?_⟩
  obtain ⟨pv, ev, F, out, ev', r, nd, hm, f⟩ := q
  unfold mFrS at hm
  cases e : frzE i ev with
  | none => rw [e] at hm; cases hm
  | some ev1 =>
    simp only [e, Option.bind_some] at hm
    obtain ⟨H1, F1, I1, r1, n1, s1⟩ := frz_slot I r nd e
    exact h.run pins s σ H1 D I1 ⟨pv, ev1, F1, out, ev', r1, n1, hm, f.trans s1⟩
theorem zFrS1 {i : Nat} {st : Stmt} {m : M Out} (h : PS X st (tS X m)) : PS X st (tS X (mFrS i m)) := by
  refine ⟨fun pins s σ H D I q => ?_⟩
  obtain ⟨pv, ev, F, out, ev', r, nd, hm, f⟩ := q
  unfold mFrS at hm
  cases e : frzE i ev with
  | none => rw [e] at hm; cases hm
  | some ev1 =>
    simp only [e, Option.bind_some] at hm
    obtain ⟨H1, F1, I1, r1, n1, s1⟩ := frz_slot I r nd e
    exact h.run pins s σ H1 D I1 ⟨pv, ev1, F1, out, ev', r1, n1, hm, f.trans s1⟩
end
end Z
set_option Elab.async false
set_option linter.all false
set_option maxRecDepth 100000
set_option maxHeartbeats 1000000
/-! Z24: a def with defaults that is called with all its arguments. -/
namespace Z
open PySem PySem.Spec PyProof.Rows L2
section
variable {P : Program} {w : World} {K : PySem.W.Frag} {mg : Str → Option Value} {base : Heap}
theorem ZC.allD {k : Nat} {x : Str} {f D : Addr} {fd : FuncData} {ps : List Str} {fn : Fn} {o : Obj} {its : Array Value} {n : Nat} (hm : mg x = some (.ref f)) (kp : PySem.W.keepIn K (.ref f) = true) (F : FnZ P w K mg base CX0 k f fd ps (spF base P w K ps.length fn)) (hn : ∀ os r, fn os = some r → os.length = ps.length)
    (lD : K.lookup D = some o) (oD : o.data = .seq its n) (hd : fd.defaults = .ref D)
    (hb : ∀ us : List Value, us.length = ps.length → ∃ j, bindArgs fd ⟨us, []⟩ = seqItems? fd.defaults >>= j ∧ j (some its) = pure (ps.zip us)) : ZC P w K mg base k x fn [] :=
  ⟨f, fd, ps, [], [], hm, kp, fun s us KX hl => by
    rw [List.append_nil] at hl ⊢
    obtain ⟨j, e1, e2⟩ := hb us hl
    exact .of_defaults hd (KX _ _ lD) oD e1 e2, .nil, fun _ => .nil, F, hn⟩
end
end Z
set_option Elab.async false
set_option linter.all false
set_option maxRecDepth 100000
/-! Z25: `in` of any container (dicts by values too); a method on data (list.index). -/
namespace Z
open PySem PySem.Spec PyProof.Rows L2
section
variable {X : Cx}
/-- x in a container -/
def inA (d : PyData) (o : O) : Option O := match asD o with
  | some kvs => (nkD d).bind fun k => if okKey kvs k = true then oB (look kvs k).isSome else none
  | none => inO d o
def ninA (d : PyData) (o : O) : Option O := match asD o with
  | some kvs => (nkD d).bind fun k => if okKey kvs k = true then oB (!(look kvs k).isSome) else none
  | none => ninO d o
theorem zinA (hu : X.A.units + 64 < cLine) : OpP X (compareOp .In) inA := fun pins s σ H x y v u Q I rx ry ⟨d1, o2, o, G, t1, r2, ng, e, n⟩ => by
  unfold inA at e
  split at e
  · rename_i kvs q
    cases q1 : nkD d1 with
    | none => rw [q1] at e; cases e
    | some k =>
      simp only [q1, Option.bind_some] at e
      split at e
      · rename_i ok
        cases e
        obtain ⟨a, es, G', rfl, d, rk, _, _⟩ := asD_at r2 q
        cases ry
        refine n_in hu I d rk.keys (by rw [nkD_ok q1]; exact t1) rx (by rw [rk.okKey]; exact ok) fun s' I' => ?_
        rw [rk.lookN]
        exact ⟨.bl _, H, I', rfl, n.dat (.bl _)⟩
      · cases e
  · exact zin hu pins s σ H x y v u Q I rx ry ⟨d1, o2, o, G, t1, r2, ng, e, n⟩
theorem zninA (hu : X.A.units + 64 < cLine) : OpP X (compareOp .NotIn) ninA := fun pins s σ H x y v u Q I rx ry ⟨d1, o2, o, G, t1, r2, ng, e, n⟩ => by
  unfold ninA at e
  split at e
  · rename_i kvs q
    cases q1 : nkD d1 with
    | none => rw [q1] at e; cases e
    | some k =>
      simp only [q1, Option.bind_some] at e
      split at e
      · rename_i ok
        cases e
        obtain ⟨a, es, G', rfl, d, rk, _, _⟩ := asD_at r2 q
        cases ry
        refine n_notIn hu I d rk.keys (by rw [nkD_ok q1]; exact t1) rx (by rw [rk.okKey]; exact ok) fun s' I' => ?_
        rw [rk.lookN]
        exact ⟨.bl _, H, I', rfl, n.dat (.bl _)⟩
      · cases e
  · exact znin hu pins s σ H x y v u Q I rx ry ⟨d1, o2, o, G, t1, r2, ng, e, n⟩
/-! ### methods on data -/
def rD (X : Cx) (g : PyData → List O → Option O) : V → List V → Hp → VK → Prop := fun x xs H Q => ∃ d os G r, TX X H x d ∧ RsX X H xs os G ∧ G.Nodup ∧ g d os = some r ∧ New X H r Q
def tyD (T : String) : PyData → Bool
  | .list _ => T == "list"
  | .str _ => T == "str"
  | _ => false
def MtD (X : Cx) (id : String) (g : PyData → List O → Option O) : Prop := MtR X id (rD X g)
def mMetD (T : String) (m : M O) (ms : M (List O)) (g : PyData → List O → Option O) : M O := fun ev => (m ev).bind fun p => match p.1 with
  | .dat d => if tyD T d = true then (ms p.2).bind fun a => (g d a.1).map fun r => (r, a.2) else none
  | _ => none
theorem tyD_ok {H : Hp} {T : String} {v : V} {d : PyData} (t : TX X H v d) (h : tyD T d = true) : tyV X.K T v H := by
  cases t with
  | str x =>
    have h : T = "str" := by simpa [tyD] using h
    subst h
    exact rfl
  | lst h1 ts =>
    have h : T = "list" := by simpa [tyD] using h
    subst h
    exact .inl ⟨rfl, _, h1.seq⟩
  | _ => cases h
variable {o e : Expr} {es : List Expr} {apos cpos : Pos} {T id : String} {name : Str} {m : M O} {ms : M (List O)}
theorem zMetD {g : PyData → List O → Option O} (pa : PlainAttrs T) (slot : Slot T name id) (hty : typeOf (.builtin id) = pure (.type "method_descriptor")) (hm : MtD X id g) (ho : PE X o (tM X m)) (ha : PA X (e :: es) (tMs X ms))
    (hbase : attributeBase o name X.env (eval o X.env) = eval o X.env := by rfl)
    (hfew : ((backTo cpos (starEach (e :: es) X.env)).all (fun x => !x.1) && (backToKw cpos (keywordEach [] X.env)).all (fun x => x.1.isSome)
      && decide ((e :: es).length + ([] : List Keyword).length + (if ([] : List Keyword).isEmpty then 0 else 1) < 30)) = true := by rfl)
    (hline : (apos.endLine == cpos.line) = true := by rfl) (hs : starEach (e :: es) X.env = (false, eval e X.env) :: starEach es X.env := by rfl) (hplain : (backTo cpos (starEach es X.env)).any (·.1) = false := by rfl) :
    PE X (.Call (.Attribute o name apos) (e :: es) [] cpos) (tM X (mMetD T m ms g)) := PEimp (pe_bm pa slot hty hm ho ha hbase hfew hline hs hplain) fun σ H Q h => by
  obtain ⟨pv, ev, F, r, ev', rp, nd, h, q⟩ := h
  unfold mMetD at h
  cases e0 : m ev with
  | none => rw [e0] at h; cases h
  | some p =>
    obtain ⟨o1, e1⟩ := p
    simp only [e0, Option.bind_some] at h
    split at h
    · rename_i d
      split at h
      · rename_i hd
        cases e2 : ms e1 with
        | none => rw [e2] at h; cases h
        | some a =>
          simp only [e2, Option.bind_some] at h
          cases e3 : g d a.1 with
          | none => rw [e3] at h; cases h
          | some zr =>
            rw [e3] at h
            cases h
            refine ⟨pv, ev, F, .dat d, e1, rp, nd, e0, fun v H1 F1 G1 r1 ro n1 s1 => ?_⟩
            obtain ⟨rfl, td⟩ := ro.flat
            rw [List.append_nil] at n1 s1
            refine ⟨tyD_ok td hd, pv, e1, F1, a.1, a.2, r1, n1, e2, fun vs H2 F2 G2 r2 rs n2 s2 => ?_⟩
            obtain ⟨k1, k2, k3⟩ := nd_app.mp n2
            refine ⟨d, a.1, G2, _, td.grow (s2.grow r1.mut), rs, k2, e3, fin_new r2 n2 (s1.trans s2) q⟩
      · cases h
    · cases h
/-- list.index on data -/
def gIndex : PyData → List O → Option O
  | .list ds, [.dat d] => if pl d = true ∧ PyData.plainAll ds = true then (idxD d ds 0).map fun j => .dat (.int (j : Nat)) else none
  | _, _ => none
theorem oIndexD (hu : X.A.units + 64 < cLine) : MtD X "list.index" gIndex := fun pins s σ H x xs v us Q I rx rs ⟨d0, os, G, r, td, rg, nd, hf, q⟩ => by
  unfold gIndex at hf
  split at hf
  · rename_i ds d
    split at hf
    · rename_i hp
      cases e2 : idxD d ds 0 with
      | none => rw [e2] at hf; cases hf
      | some j =>
        rw [e2] at hf
        cases hf
        obtain ⟨h0, z, h1, h2, h3⟩ := idxD_some e2
        rw [Nat.sub_zero] at h1 h3
        obtain ⟨a, ys, rfl, h, ts⟩ := td.lst_of
        obtain ⟨y, rfl, ry⟩ := rg.one_of
        obtain ⟨rfl, ty⟩ := RO.flat ry
        cases rx
        obtain ⟨uy, rfl, ru⟩ := rs.one
        obtain ⟨its, rv, ⟨⟨c0, dd0, da0, sl0⟩, n, e1, e3, e4, e5⟩, hl⟩ := I.list h.seq
        simp only at e3 e4 e5
        subst e3 e4 e5
        obtain ⟨bs, r1⟩ := ty.reads I (pl_ok hp.1).1 ru
        obtain ⟨as, r2⟩ := ts.reads I hp.2 rv
        have hn := PySem.SeqAt.ReadsAll.length _ _ _ r2
        have hmap := PySem.SeqAt.readsAll_map_plain ds its as hp.2 r2
        have hjd := (List.getElem?_eq_some_iff.mp h1).1
        have hj : j < its.toArray.size := by rw [List.size_toArray, hn]; exact hjd
        have at' : ∀ (m : Nat) (hm : m < its.toArray.size) (z' : PyData), ds[m]? = some z' → PySem.SeqAt.readOf s.heap its.toArray[m] = z' := fun m hm z' hz' => by
          have hm2 : m < its.length := by simpa using hm
          rw [← hmap, List.getElem?_map, List.getElem?_eq_getElem hm2] at hz'
          simpa using Option.some.inj hz'
        have room := rm2 (n := d.depth) (m := PyData.depthAll ds) hu (pl_ok hp.1).2
        have hsl := sizeLine_eq
        have hyz := ts.length
        refine call_meets PySem.F.slot_list_index ⟨_, e1, rfl⟩ PySem.F.entry_list_index (PySem.F.args_list_index_2 _ _)
          (PySem.SeqAt.list_indexAt a its.toArray n none sl0 uy (fun w => PyData.eqv (PySem.SeqAt.readOf s.heap w) d) j hj (by omega) ?_ ?_) ⟨e1, PySem.SeqAt.items_plain (vs := its.toArray) (by simpa using r2) r1 hp.2 (pl_ok hp.1).1 room, ?_⟩
        · show PyData.eqv (PySem.SeqAt.readOf s.heap its.toArray[j]) d = true
          rw [at' j hj z h1]; exact h2
        · intro m hm hmj
          have hz' : ds[m]? = some ds[m] := List.getElem?_eq_getElem (by omega)
          show PyData.eqv (PySem.SeqAt.readOf s.heap its.toArray[m]) d = false
          rw [at' m hm _ hz']
          exact h3 m _ hmj hz'
        · exact ⟨.int (j : Nat), H, I.tok _, ⟨_, rfl⟩, q _ H [] (.dat (.int _)) List.nodup_nil (Stp.refl _ _)⟩
    · cases hf
  · cases hf
/-! ### operators by name -/
def subD : PyData → PyData → Option O := onI fun i j => oI (i - j)
def mulD : PyData → PyData → Option O := onI fun i j => if small i || small j then oI (i * j) else none
def divD : PyData → PyData → Option O := onI fun i j => if 0 < j ∧ j < 1073741824 then oI (i / j) else none
def modD : PyData → PyData → Option O := onI fun i j => if 0 < j then oI (i % j) else none
def powD : PyData → PyData → Option O := onI fun i j => if 0 ≤ j ∧ j ≤ 1000000 ∧ i.natAbs < 2 ^ 64 then oI (i ^ j.toNat) else none
theorem zsubD : OpD X (binaryOp .Sub) subD := zsub
theorem zmulD : OpD X (binaryOp .Mult) mulD := zmul
theorem zdivD : OpD X (binaryOp .FloorDiv) divD := zfdiv
theorem zmodD : OpD X (binaryOp .Mod) modD := zmod
theorem zpowD : OpD X (binaryOp .Pow) powD := zpow
end
end Z
set_option Elab.async false
set_option linter.all false
set_option maxRecDepth 100000
set_option maxHeartbeats 1000000
/-! The walks of the defs that the law comes to; printed by gen.py. -/
namespace K78
open PySem PySem.Spec PyProof.Rows L2 Z
def topS (i : Nat) : Stmt := PySem.Challenge.pw_unseenswap_k78_secrets_kept.main.body.getD i (.Pass ⟨0, 0, 0, 0⟩)
theorem z_hu {k : Nat} {A : Around} (r : Room k A) : A.units + 64 < cLine := by have := r.un; omega
theorem gfree {L : Nat} {names gn : List (Str × NameKind)} (h : (gn.all fun y => match y.2 with
    | .free => names.lookup y.1 == some .cell
    | _ => true) = true) : ∀ y ∈ gn, y.2 = .free → ∃ c, (cellsFrom L names []).lookup y.1 = some c := fun y hy e => by
  have q := List.all_eq_true.mp h y hy
  rw [e] at q
  exact Option.isSome_iff_exists.mp (PySem.W.cellsFrom_some _ _ _ (.inl (by simpa using q)))
theorem z_hu8 {k : Nat} {A : Around} (r : Room k A) : A.units + 72 < cLine := by have := r.un; omega
noncomputable section
/-! _law_deck -/
abbrev s__law_deck : Stmt := topS 12
theorem sc__law_deck : FnScope ["script"] ["script"] (defScope s__law_deck) := ⟨rfl, rfl, rfl, by decide +kernel, rfl, by decide +kernel, by decide +kernel⟩
def b__law_deck : M Out :=
  (mRet (mLst (mCons (mC1 listO (mPk 0)) (mCons (mC (.int 0)) (mCons (mC (.int 0)) (mCons (mC (.int 7)) (mCons (mOp addD (mC (.int 1)) (mC1 lenO (mPk 0))) mNil)))))))
def f__law_deck : Fn := runF [true] 0 b__law_deck
theorem ok__law_deck {P : Program} {w : World} {K : PySem.W.Frag} {mg : Str → Option Value} {base : Heap} {f : Addr} {fd : FuncData} (F : FunZ K "_law_deck" "_law_deck" s__law_deck f fd) (m_len : mg "len" = none) (m_list : mg "list" = none) : FnZ P w K mg base CX0 1 f fd ["script"] (spF base P w K 1 f__law_deck) :=
  zFun (ks := [true]) (l := 0) (b := b__law_deck) F sc__law_deck rfl rfl fun cdv hc A outer s H E hr hG =>
  (zEnd (zRet (zLst (zCons (zCT1 pList m_list (by rfl) (zPk 0)) (zCons zInt (zCons zInt (zCons zInt (zCons (zBin zadd zInt (zCB1 pLen m_len (by rfl) (zPk 0))) zNil))))))))

/-! _law_draw -/
abbrev s__law_draw : Stmt := topS 13
theorem sc__law_draw : FnScope ["deck", "many", "k", "cell"] ["deck", "many"] (defScope s__law_draw) := ⟨rfl, rfl, rfl, by decide +kernel, rfl, by decide +kernel, by decide +kernel⟩
def b__law_draw : M Out :=
  (mSeq (mFor (mRng1 (mOp addD (mC1 lenO (mQP (qIx (qN 0) (qC (.int 0))))) (mC (.int 2)))) (tgN 2) (mSeq (mIfS (mTru oBool (mOp gtD (mQ (qIx (qN 0) (qC (.int 2)))) (mC (.int 1)))) (mSeq (mAsg 3 (mQ (qIx (qN 0) (qC (.int 2)))))
  (mSeq (mSto sAny (mOp divD (mNm 3) (mNm 1)) (lN 0) (mC (.int 2)))
  (mRet (mOp modD (mC1 intO (mPk 3)) (mNm 1))))) mNx)
  (mSeq (mIfS (mTru oBool (mOp geD (mQ (qIx (qN 0) (qC (.int 1)))) (mC1 lenO (mQP (qIx (qN 0) (qC (.int 0))))))) (mOut .bk) mNx)
  (mSeq (mAsg 3 (mQ (qIx (qIx (qN 0) (qC (.int 0))) (qIx (qN 0) (qC (.int 1))))))
  (mSeq (mSto sAny (mOp addD (mQ (qIx (qN 0) (qC (.int 1)))) (mC (.int 1))) (lN 0) (mC (.int 1)))
  (mSeq (mIfS (mTru oBool (mOp ltD (mNm 3) (mOp powD (mC (.int 10)) (mC (.int 18))))) (mSeq (mSto sAny (mOp modD (mC1 intO (mOp addD (mOp addD (mOp mulD (mQ (qIx (qN 0) (qC (.int 3)))) (mC (.int 48271))) (mOp mulD (mNm 3) (mC (.int 69621)))) (mC (.int 17)))) (mC (.int 2147483647))) (lN 0) (mC (.int 3)))
  (mOut .bk)) mNx)
  (mSto sAny (mOp subD (mNm 3) (mOp powD (mC (.int 10)) (mC (.int 18)))) (lN 0) (mC (.int 2)))))))))
  (mSeq (mSto sAny (mOp modD (mC1 intO (mOp addD (mOp addD (mOp mulD (mQ (qIx (qN 0) (qC (.int 3)))) (mC (.int 16807))) (mQ (qIx (qN 0) (qC (.int 4))))) (mC (.int 12345)))) (mC (.int 2147483647))) (lN 0) (mC (.int 3)))
  (mSeq (mSto sAny (mOp modD (mC1 intO (mOp addD (mOp addD (mOp mulD (mQ (qIx (qN 0) (qC (.int 4)))) (mC (.int 40692))) (mOp divD (mQ (qIx (qN 0) (qC (.int 3)))) (mC (.int 7)))) (mC (.int 1)))) (mC (.int 2147483399))) (lN 0) (mC (.int 4)))
  (mRet (mOp modD (mOp divD (mC1 intO (mOp addD (mQ (qIx (qN 0) (qC (.int 3)))) (mQ (qIx (qN 0) (qC (.int 4)))))) (mC (.int 13))) (mNm 1))))))
def f__law_draw : Fn := runF [true, true] 2 b__law_draw
theorem ok__law_draw {P : Program} {w : World} {K : PySem.W.Frag} {mg : Str → Option Value} {base : Heap} {f : Addr} {fd : FuncData} (F : FunZ K "_law_draw" "_law_draw" s__law_draw f fd) (m_int : mg "int" = none) (m_len : mg "len" = none) (m_range : mg "range" = none) : FnZ P w K mg base CX0 1 f fd ["deck", "many"] (spF base P w K 2 f__law_draw) :=
  zFun (ks := [true, true]) (l := 2) (b := b__law_draw) F sc__law_draw rfl rfl fun cdv hc A outer s H E hr hG =>
  (zSeq (zFor PassesOwn.never rfl (ziRng1 m_range (zBin zadd (zCB1 pLen m_len (by rfl) (zQP (zqIx (z_hu hr) (zqN 0) zqInt))) zInt)) (zgN 2 sc__law_draw.nd) (zSeq (zIf (zCmpT (zgt (z_hu hr)) (zQ (zqIx (z_hu hr) (zqN 0) zqInt)) zInt) (zSeq (zAsg 3 (zQ (zqIx (z_hu hr) (zqN 0) zqInt)) sc__law_draw.nd)
  (zSeq (zSto (zBin zdivD (zNm 3) (zNm 1)) (zlN 0) zInt (setAny (z_hu hr)))
  (zEnd (zRet (zBin zmodD (zCT1 pInt m_int (by rfl) (zPk 3)) (zNm 1)))))) zNx)
  (zSeq (zIf (zCmpT (zge (z_hu hr)) (zQ (zqIx (z_hu hr) (zqN 0) zqInt)) (zCB1 pLen m_len (by rfl) (zQP (zqIx (z_hu hr) (zqN 0) zqInt)))) (zEnd zBreak) zNx)
  (zSeq (zAsg 3 (zQ (zqIx (z_hu hr) (zqIx (z_hu hr) (zqN 0) zqInt) (zqIx (z_hu hr) (zqN 0) zqInt))) sc__law_draw.nd)
  (zSeq (zSto (zBin zadd (zQ (zqIx (z_hu hr) (zqN 0) zqInt)) zInt) (zlN 0) zInt (setAny (z_hu hr)))
  (zSeq (zIf (zCmpT (zlt (z_hu hr)) (zNm 3) (zBin zpowD zInt zInt)) (zSeq (zSto (zBin zmodD (zCT1 pInt m_int (by rfl) (PEpk (zBin zadd (zBin zadd (zBin zmulD (zQ (zqIx (z_hu hr) (zqN 0) zqInt)) zInt) (zBin zmulD (zNm 3) zInt)) zInt))) zInt) (zlN 0) zInt (setAny (z_hu hr)))
  (zEnd zBreak)) zNx)
  (zEnd (zSto (zBin zsubD (zNm 3) (zBin zpowD zInt zInt)) (zlN 0) zInt (setAny (z_hu hr))))))))))
  (zSeq (zSto (zBin zmodD (zCT1 pInt m_int (by rfl) (PEpk (zBin zadd (zBin zadd (zBin zmulD (zQ (zqIx (z_hu hr) (zqN 0) zqInt)) zInt) (zQ (zqIx (z_hu hr) (zqN 0) zqInt))) zInt))) zInt) (zlN 0) zInt (setAny (z_hu hr)))
  (zSeq (zSto (zBin zmodD (zCT1 pInt m_int (by rfl) (PEpk (zBin zadd (zBin zadd (zBin zmulD (zQ (zqIx (z_hu hr) (zqN 0) zqInt)) zInt) (zBin zdivD (zQ (zqIx (z_hu hr) (zqN 0) zqInt)) zInt)) zInt))) zInt) (zlN 0) zInt (setAny (z_hu hr)))
  (zEnd (zRet (zBin zmodD (zBin zdivD (zCT1 pInt m_int (by rfl) (PEpk (zBin zadd (zQ (zqIx (z_hu hr) (zqN 0) zqInt)) (zQ (zqIx (z_hu hr) (zqN 0) zqInt))))) zInt) (zNm 1)))))))

/-! _law_names -/
abbrev s__law_names : Stmt := topS 14
theorem sc__law_names : FnScope ["deck", "many", "great", "signs", "heads", "stem", "k", "at", "first", "stride", "places"] ["deck", "many", "great"] (defScope s__law_names) := ⟨rfl, rfl, rfl, by decide +kernel, rfl, by decide +kernel, by decide +kernel⟩
def b__law_names : M Out :=
  (mSeq (mAsg 3 (mC (.str "abcdefghijklmnopqrstuvwxyz")))
  (mSeq (mAsg 4 (mC (.str "xyz")))
  (mSeq (mIfS (mTru oTru (mPk 2)) (mSeq (mAsg 3 (mC (.str "ABCDEFGHIJKLMNOPQRSTUVWXYZ")))
  (mAsg 4 (mC (.str "QXZ")))) mNx)
  (mSeq (mAsg 5 (mC (.str "")))
  (mSeq (mFor (mRng1 (mGet (mTup (mDCons (mC (.int 0)) (mDCons (mC (.int 0)) (mDCons (mC (.int 1)) (mDCons (mC (.int 3)) (mDCons (mC (.int 9)) mDNil)))))) (mCall f__law_draw (mALend 0 (mAVal (mC (.int 5)) mANil))))) (tgN 6) (mAsg 5 (mOp addD (mNm 5) (mGet (mOp addD (mNm 4) (mC (.str "_0qQ9"))) (mCall f__law_draw (mALend 0 (mAVal (mC (.int 8)) mANil)))))))
  (mSeq (mAsg 7 (mCall f__law_draw (mALend 0 (mAVal (mOp addD (mC1 lenO (mPk 5)) (mC (.int 1))) mANil))))
  (mSeq (mIfS (mTru oBool (mOp gtD (mNm 7) (mC (.int 0)))) (mAsg 5 (mOp addD (mGetN 4 (mCall f__law_draw (mALend 0 (mAVal (mC (.int 3)) mANil)))) (mSl (mNm 5) (mOSo (mC (.int 1))) mONo))) mNx)
  (mSeq (mAsg 8 (mCall f__law_draw (mALend 0 (mAVal (mC (.int 26)) mANil))))
  (mSeq (mAsg 9 (mGet (mTup (mDCons (mC (.int 1)) (mDCons (mC (.int 5)) (mDCons (mC (.int 7)) (mDCons (mC (.int 25)) mDNil))))) (mCall f__law_draw (mALend 0 (mAVal (mC (.int 4)) mANil)))))
  (mSeq (mAsg 10 (mLc [6] (mRng1 (mNm 1)) (tgN 6) mYes (mOp modD (mC1 intO (mOp addD (mNm 8) (mOp mulD (mNm 9) (mNm 6)))) (mC (.int 26)))))
  (mRet (mLc [6] (mItA (mMv 10)) (tgN 6) mYes (mOp addD (mOp addD (mSl (mNm 5) mONo (mOSo (mNm 7))) (mQ (qIx (qN 3) (qN 6)))) (mSl (mNm 5) (mOSo (mNm 7)) mONo))))))))))))))
def f__law_names : Fn := runF [true, true, true] 8 b__law_names
theorem ok__law_names {P : Program} {w : World} {K : PySem.W.Frag} {mg : Str → Option Value} {base : Heap} {f : Addr} {fd : FuncData} (F : FunZ K "_law_names" "_law_names" s__law_names f fd) (m_int : mg "int" = none) (m_len : mg "len" = none) (m_range : mg "range" = none) (c__law_draw : ZC P w K mg base 1 "_law_draw" f__law_draw []) : FnZ P w K mg base CX0 2 f fd ["deck", "many", "great"] (spF base P w K 3 f__law_names) :=
  zFun (ks := [true, true, true]) (l := 8) (b := b__law_names) F sc__law_names rfl rfl fun cdv hc A outer s H E hr hG =>
  (zSeq (zAsg 3 zStr sc__law_names.nd)
  (zSeq (zAsg 4 zStr sc__law_names.nd)
  (zSeq (zIf (zTru (zPk 2)) (zSeq (zAsg 3 zStr sc__law_names.nd)
  (zEnd (zAsg 4 zStr sc__law_names.nd))) zNx)
  (zSeq (zAsg 5 zStr sc__law_names.nd)
  (zSeq (zFor PassesOwn.never rfl (ziRng1 m_range (zGet (z_hu hr) (zTup (zDCons zInt (zDCons zInt (zDCons zInt (zDCons zInt (zDCons zInt zDNil)))))) (zC c__law_draw hr hG (zALend 0 (zAVal zInt zANil))))) (zgN 6 sc__law_names.nd) (zEnd (zAsg 5 (zBin zadd (zNm 5) (zGet (z_hu hr) (zBin zadd (zNm 4) zStr) (zC c__law_draw hr hG (zALend 0 (zAVal zInt zANil))))) sc__law_names.nd)))
  (zSeq (zAsg 7 (zC c__law_draw hr hG (zALend 0 (zAVal (zBin zadd (zCB1 pLen m_len (by rfl) (zPk 5)) zInt) zANil))) sc__law_names.nd)
  (zSeq (zIf (zCmpT (zgt (z_hu hr)) (zNm 7) zInt) (zEnd (zAsg 5 (zBin zadd (zGetN 4 (z_hu hr) (zC c__law_draw hr hG (zALend 0 (zAVal zInt zANil)))) (zSl (zNm 5) (zOSo zInt) zONo)) sc__law_names.nd)) zNx)
  (zSeq (zAsg 8 (zC c__law_draw hr hG (zALend 0 (zAVal zInt zANil))) sc__law_names.nd)
  (zSeq (zAsg 9 (zGet (z_hu hr) (zTup (zDCons zInt (zDCons zInt (zDCons zInt (zDCons zInt zDNil))))) (zC c__law_draw hr hG (zALend 0 (zAVal zInt zANil)))) sc__law_names.nd)
  (zSeq (zSetLc (i := 10) (own := [("k", 6)]) rfl sc__law_names.nd (blkOk_by rfl) rfl (ziRng1 m_range (zNm 1)) (fun _ _ _ _ _ => (zvN 6 sc__law_names.nd)) (fun _ _ _ _ _ => zYes) (fun _ _ _ _ _ => (zBin zmodD (zCT1 pInt m_int (by rfl) (PEpk (zBin zadd (zNm 8) (zBin zmulD (zNm 9) (zNm 6))))) zInt)))
  (zEnd (zRet (zLc (own := [("k", 6)]) rfl sc__law_names.nd (blkOk_by rfl) (ziA (zMv 10)) (fun _ _ _ _ _ => (zvN 6 sc__law_names.nd)) (fun _ _ _ _ _ => zYes) (fun _ _ _ _ _ => (zBin zadd (zBin zadd (zSl (zNm 5) zONo (zOSo (zNm 7))) (zQ (zqIx (z_hu hr) (zqN 3) (zqN 6)))) (zSl (zNm 5) (zOSo (zNm 7)) zONo))))))))))))))))

/-! _law_met -/
abbrev s__law_met : Stmt := topS 15
theorem sc__law_met : FnScope ["rows", "met", "k", "step"] ["rows"] (defScope s__law_met) := ⟨rfl, rfl, rfl, by decide +kernel, rfl, by decide +kernel, by decide +kernel⟩
def b__law_met : M Out :=
  (mSeq (mAsg 1 (mLst (mCons (mC (.int 0)) mNil)))
  (mSeq (mFor (mRng1 (mC1 lenO (mPk 0))) (tgN 2) (mSeq (mIfS (mTru oBool (mOp geD (mNm 2) (mC1 lenO (mPk 1)))) (mOut .bk) mNx)
  (mFor (mItA (mQ (qIx (qN 0) (qIx (qN 1) (qN 2))))) (tgN 3) (mIfS (mTru oBool (mOpP ninA (mQ (qIx (qN 3) (qC (.int 1)))) (mPk 1))) (mEx (mMet "list" (lN 1) (mCons (mQ (qIx (qN 3) (qC (.int 1)))) mNil) fAppend)) mNx))))
  (mRet (mMv 1))))
def f__law_met : Fn := runF [true] 3 b__law_met
theorem ok__law_met {P : Program} {w : World} {K : PySem.W.Frag} {mg : Str → Option Value} {base : Heap} {f : Addr} {fd : FuncData} (F : FunZ K "_law_met" "_law_met" s__law_met f fd) (m_len : mg "len" = none) (m_range : mg "range" = none) : FnZ P w K mg base CX0 1 f fd ["rows"] (spF base P w K 1 f__law_met) :=
  zFun (ks := [true]) (l := 3) (b := b__law_met) F sc__law_met rfl rfl fun cdv hc A outer s H E hr hG =>
  (zSeq (zAsg 1 (zLst (zCons zInt zNil)) sc__law_met.nd)
  (zSeq (zFor PassesOwn.never rfl (ziRng1 m_range (zCB1 pLen m_len (by rfl) (zPk 0))) (zgN 2 sc__law_met.nd) (zSeq (zIf (zCmpT (zge (z_hu hr)) (zNm 2) (zCB1 pLen m_len (by rfl) (zPk 1))) (zEnd zBreak) zNx)
  (zEnd (zFor PassesOwn.never rfl (ziA (zQ (zqIx (z_hu hr) (zqN 0) (zqIx (z_hu hr) (zqN 1) (zqN 2))))) (zgN 3 sc__law_met.nd) (zEnd (zIf (zCmpPT (zninA (z_hu hr)) (zQ (zqIx (z_hu hr) (zqN 3) zqInt)) (zPk 1)) (zEnd (zEx (zMet PySem.F.plainAttrs_list PySem.F.slot_list_append PySem.F.type_list_append oAppend (zlN 1) (zCons (zQ (zqIx (z_hu hr) (zqN 3) zqInt)) zNil)))) zNx))))))
  (zEnd (zRet (zMv 1)))))

/-! _law_events -/
abbrev s__law_events : Stmt := topS 16
theorem sc__law_events : FnScope ["one", "other", "found", "rows", "row", "step"] ["one", "other"] (defScope s__law_events) := ⟨rfl, rfl, rfl, by decide +kernel, rfl, by decide +kernel, by decide +kernel⟩
def b__law_events : M Out :=
  (mSeq (mAsg 2 (mLst mNil))
  (mSeq (mFor (mItA (mTup (mDCons (mNm 0) (mDCons (mNm 1) mDNil)))) (tgN 3) (mFor (mItA (mNm 3)) (tgN 4) (mFor (mItA (mNm 4)) (tgN 5) (mIfS (mAnd (mTru oBool (mOp neD (mQ (qIx (qIx (qN 5) (qC (.int 0))) (qC (.int 0)))) (mC (.str "")))) (mTru oBool (mOpP ninA (mQ (qIx (qN 5) (qC (.int 0)))) (mPk 2)))) (mEx (mMet "list" (lN 2) (mCons (mQ (qIx (qN 5) (qC (.int 0)))) mNil) fAppend)) mNx))))
  (mRet (mC1 sortedO (mPk 2)))))
def f__law_events : Fn := runF [true, true] 4 b__law_events
theorem ok__law_events {P : Program} {w : World} {K : PySem.W.Frag} {mg : Str → Option Value} {base : Heap} {f : Addr} {fd : FuncData} (F : FunZ K "_law_events" "_law_events" s__law_events f fd) (m_sorted : mg "sorted" = none) : FnZ P w K mg base CX0 1 f fd ["one", "other"] (spF base P w K 2 f__law_events) :=
  zFun (ks := [true, true]) (l := 4) (b := b__law_events) F sc__law_events rfl rfl fun cdv hc A outer s H E hr hG =>
  (zSeq (zAsg 2 (zLst zNil) sc__law_events.nd)
  (zSeq (zFor PassesOwn.never rfl (ziA (zTup (zDCons (zNm 0) (zDCons (zNm 1) zDNil)))) (zgN 3 sc__law_events.nd) (zEnd (zFor PassesOwn.never rfl (ziA (zNm 3)) (zgN 4 sc__law_events.nd) (zEnd (zFor PassesOwn.never rfl (ziA (zNm 4)) (zgN 5 sc__law_events.nd) (zEnd (zIf (zAnd (zCmpT (zne (z_hu hr)) (zQ (zqIx (z_hu hr) (zqIx (z_hu hr) (zqN 5) zqInt) zqInt)) zStr) (zAnd1 (zCmpPT (zninA (z_hu hr)) (zQ (zqIx (z_hu hr) (zqN 5) zqInt)) (zPk 2)))).pt (zEnd (zEx (zMet PySem.F.plainAttrs_list PySem.F.slot_list_append PySem.F.type_list_append oAppend (zlN 2) (zCons (zQ (zqIx (z_hu hr) (zqN 5) zqInt)) zNil)))) zNx)))))))
  (zEnd (zRet (zCB1 (pSorted rfl (z_hu hr)) m_sorted (by rfl) (zPk 2))))))

/-! _law_rows -/
abbrev s__law_rows : Stmt := topS 17
theorem sc__law_rows : FnScope ["deck", "events", "many", "rows", "k", "row", "turn", "label", "at"] ["deck", "events", "many"] (defScope s__law_rows) := ⟨rfl, rfl, rfl, by decide +kernel, rfl, by decide +kernel, by decide +kernel⟩
def b__law_rows : M Out :=
  (mSeq (mAsg 3 (mLst mNil))
  (mSeq (mFor (mRng1 (mNm 2)) (tgN 4) (mSeq (mAsg 5 (mLst mNil))
  (mSeq (mFor (mRng1 (mOp addD (mGet (mTup (mDCons (mC (.int 0)) (mDCons (mC (.int 1)) (mDCons (mC (.int 2)) (mDCons (mC (.int 2)) (mDCons (mC (.int 3)) (mDCons (mC (.int 4)) mDNil))))))) (mCall f__law_draw (mALend 0 (mAVal (mC (.int 6)) mANil)))) (mC1 intO (mOp eqD (mNm 4) (mC (.int 0)))))) (tgN 6) (mSeq (mAsg 7 (mTup (mDCons (mC (.str "")) (mDCons (mC (.str "quiet")) mDNil))))
  (mSeq (mAsg 8 (mOp divD (mCall f__law_draw (mALend 0 (mAVal (mOp addD (mOp mulD (mC (.int 3)) (mC1 lenO (mPk 1))) (mC (.int 2))) mANil))) (mC (.int 3))))
  (mSeq (mIfS (mTru oBool (mOp ltD (mNm 8) (mC1 lenO (mPk 1)))) (mAsg 7 (mQ (qIx (qN 1) (qN 8)))) mNx)
  (mEx (mMet "list" (lN 5) (mCons (mTup (mDCons (mNm 7) (mDCons (mCall f__law_draw (mALend 0 (mALend 2 mANil))) mDNil))) mNil) fAppend))))))
  (mEx (mMet "list" (lN 3) (mCons (mMv 5) mNil) fAppend)))))
  (mRet (mMv 3))))
def f__law_rows : Fn := runF [true, true, true] 6 b__law_rows
theorem ok__law_rows {P : Program} {w : World} {K : PySem.W.Frag} {mg : Str → Option Value} {base : Heap} {f : Addr} {fd : FuncData} (F : FunZ K "_law_rows" "_law_rows" s__law_rows f fd) (m_int : mg "int" = none) (m_len : mg "len" = none) (m_range : mg "range" = none) (c__law_draw : ZC P w K mg base 1 "_law_draw" f__law_draw []) : FnZ P w K mg base CX0 2 f fd ["deck", "events", "many"] (spF base P w K 3 f__law_rows) :=
  zFun (ks := [true, true, true]) (l := 6) (b := b__law_rows) F sc__law_rows rfl rfl fun cdv hc A outer s H E hr hG =>
  (zSeq (zAsg 3 (zLst zNil) sc__law_rows.nd)
  (zSeq (zFor PassesOwn.never rfl (ziRng1 m_range (zNm 2)) (zgN 4 sc__law_rows.nd) (zSeq (zAsg 5 (zLst zNil) sc__law_rows.nd)
  (zSeq (zFor PassesOwn.never rfl (ziRng1 m_range (zBin zadd (zGet (z_hu hr) (zTup (zDCons zInt (zDCons zInt (zDCons zInt (zDCons zInt (zDCons zInt (zDCons zInt zDNil))))))) (zC c__law_draw hr hG (zALend 0 (zAVal zInt zANil)))) (zCT1 pInt m_int (by rfl) (PEpk (zCmp (zeq (z_hu hr)) (zNm 4) zInt))))) (zgN 6 sc__law_rows.nd) (zSeq (zAsg 7 (zTup (zDCons zStr (zDCons zStr zDNil))) sc__law_rows.nd)
  (zSeq (zAsg 8 (zBin zdivD (zC c__law_draw hr hG (zALend 0 (zAVal (zBin zadd (zBin zmulD zInt (zCB1 pLen m_len (by rfl) (zPk 1))) zInt) zANil))) zInt) sc__law_rows.nd)
  (zSeq (zIf (zCmpT (zlt (z_hu hr)) (zNm 8) (zCB1 pLen m_len (by rfl) (zPk 1))) (zEnd (zAsg 7 (zQ (zqIx (z_hu hr) (zqN 1) (zqN 8))) sc__law_rows.nd)) zNx)
  (zEnd (zEx (zMet PySem.F.plainAttrs_list PySem.F.slot_list_append PySem.F.type_list_append oAppend (zlN 5) (zCons (zTup (zDCons (zNm 7) (zDCons (zC c__law_draw hr hG (zALend 0 (zALend 2 zANil))) zDNil))) zNil))))))))
  (zEnd (zEx (zMet PySem.F.plainAttrs_list PySem.F.slot_list_append PySem.F.type_list_append oAppend (zlN 3) (zCons (zMv 5) zNil)))))))
  (zEnd (zRet (zMv 3)))))

/-! _law_graph -/
abbrev s__law_graph : Stmt := topS 18
theorem sc__law_graph : FnScope ["service", "met", "rows", "state", "row", "step", "moved"] ["service"] (defScope s__law_graph) := ⟨rfl, rfl, rfl, by decide +kernel, rfl, by decide +kernel, by decide +kernel⟩
def b__law_graph : M Out :=
  (mSeq (mAsg 1 (mCall f__law_met (mAVal (mQ (qIx (qN 0) (qC (.int 2)))) mANil)))
  (mSeq (mAsg 2 (mLst mNil))
  (mSeq (mFor (mItA (mNm 1)) (tgN 3) (mSeq (mAsg 4 (mLst mNil))
  (mSeq (mFor (mItA (mQ (qIx (qIx (qN 0) (qC (.int 2))) (qN 3)))) (tgN 5) (mSeq (mAsg 6 (mTup (mDCons (mQ (qIx (qN 5) (qC (.int 0)))) (mDCons (mMetD "list" (mNm 1) (mCons (mQ (qIx (qN 5) (qC (.int 1)))) mNil) gIndex) mDNil))))
  (mIfS (mTru oBool (mOpP ninA (mNm 6) (mPk 4))) (mEx (mMet "list" (lN 4) (mCons (mNm 6) mNil) fAppend)) mNx)))
  (mEx (mMet "list" (lN 2) (mCons (mC1 tupO (mC1 sortedO (mPk 4))) mNil) fAppend)))))
  (mRet (mTup (mDCons (mC (.str "graph")) (mDCons (mC1 tupO (mC1 sortedO (mQP (qIx (qN 0) (qC (.int 0)))))) (mDCons (mC1 tupO (mC1 sortedO (mQP (qIx (qN 0) (qC (.int 1)))))) (mDCons (mC1 tupO (mPk 2)) mDNil)))))))))
def f__law_graph : Fn := runF [true] 6 b__law_graph
theorem ok__law_graph {P : Program} {w : World} {K : PySem.W.Frag} {mg : Str → Option Value} {base : Heap} {f : Addr} {fd : FuncData} (F : FunZ K "_law_graph" "_law_graph" s__law_graph f fd) (m_sorted : mg "sorted" = none) (m_tuple : mg "tuple" = none) (c__law_met : ZC P w K mg base 1 "_law_met" f__law_met []) : FnZ P w K mg base CX0 2 f fd ["service"] (spF base P w K 1 f__law_graph) :=
  zFun (ks := [true]) (l := 6) (b := b__law_graph) F sc__law_graph rfl rfl fun cdv hc A outer s H E hr hG =>
  (zSeq (zAsg 1 (zC c__law_met hr hG (zAVal (zQ (zqIx (z_hu hr) (zqN 0) zqInt)) zANil)) sc__law_graph.nd)
  (zSeq (zAsg 2 (zLst zNil) sc__law_graph.nd)
  (zSeq (zFor PassesOwn.never rfl (ziA (zNm 1)) (zgN 3 sc__law_graph.nd) (zSeq (zAsg 4 (zLst zNil) sc__law_graph.nd)
  (zSeq (zFor PassesOwn.never rfl (ziA (zQ (zqIx (z_hu hr) (zqIx (z_hu hr) (zqN 0) zqInt) (zqN 3)))) (zgN 5 sc__law_graph.nd) (zSeq (zAsg 6 (zTup (zDCons (zQ (zqIx (z_hu hr) (zqN 5) zqInt)) (zDCons (zMetD PySem.F.plainAttrs_list PySem.F.slot_list_index PySem.F.type_list_index (oIndexD (z_hu hr)) (zNm 1) (zCons (zQ (zqIx (z_hu hr) (zqN 5) zqInt)) zNil)) zDNil))) sc__law_graph.nd)
  (zEnd (zIf (zCmpPT (zninA (z_hu hr)) (zNm 6) (zPk 4)) (zEnd (zEx (zMet PySem.F.plainAttrs_list PySem.F.slot_list_append PySem.F.type_list_append oAppend (zlN 4) (zCons (zNm 6) zNil)))) zNx))))
  (zEnd (zEx (zMet PySem.F.plainAttrs_list PySem.F.slot_list_append PySem.F.type_list_append oAppend (zlN 2) (zCons (zCT1 pTup m_tuple (by rfl) (PEpk (zCB1 (pSorted rfl (z_hu hr)) m_sorted (by rfl) (zPk 4)))) zNil)))))))
  (zEnd (zRet (zTup (zDCons zStr (zDCons (zCT1 pTup m_tuple (by rfl) (PEpk (zCB1 (pSorted rfl (z_hu hr)) m_sorted (by rfl) (zQP (zqIx (z_hu hr) (zqN 0) zqInt))))) (zDCons (zCT1 pTup m_tuple (by rfl) (PEpk (zCB1 (pSorted rfl (z_hu hr)) m_sorted (by rfl) (zQP (zqIx (z_hu hr) (zqN 0) zqInt))))) (zDCons (zCT1 pTup m_tuple (by rfl) (zPk 2)) zDNil))))))))))

/-! _law_doors -/
abbrev s__law_doors : Stmt := topS 19
theorem sc__law_doors : FnScope ["deck", "names", "kind", "values", "ins", "outs", "events", "name", "door", "worths", "worth"] ["deck", "names", "kind", "values"] (defScope s__law_doors) := ⟨rfl, rfl, rfl, by decide +kernel, rfl, by decide +kernel, by decide +kernel⟩
def b__law_doors : M Out :=
  (mSeq (mAsg 4 (mLst mNil))
  (mSeq (mAsg 5 (mLst mNil))
  (mSeq (mAsg 6 (mLst mNil))
  (mSeq (mFor (mItA (mNm 1)) (tgN 7) (mSeq (mAsg 8 (mTup (mDCons (mNm 7) (mDCons (mC .none) mDNil))))
  (mSeq (mAsg 9 (mLst (mCons (mC .none) mNil)))
  (mSeq (mIfS (mTru oBool (mOp eqD (mCall f__law_draw (mALend 0 (mAVal (mC (.int 3)) mANil))) (mC (.int 0)))) (mSeq (mAsg 8 (mTup (mDCons (mNm 7) (mDCons (mNm 2) mDNil))))
  (mAsg 9 (mNm 3))) mNx)
  (mSeq (mIfS (mTru oBool (mOp eqD (mCall f__law_draw (mALend 0 (mAVal (mC (.int 2)) mANil))) (mC (.int 0)))) (mEx (mMet "list" (lN 4) (mCons (mNm 8) mNil) fAppend)) (mEx (mMet "list" (lN 5) (mCons (mNm 8) mNil) fAppend)))
  (mAsg 6 (mOp addD (mMv 6) (mLc [10] (mItA (mMv 9)) (tgN 10) mYes (mTup (mDCons (mNm 7) (mDCons (mNm 10) mDNil)))))))))))
  (mRet (mTup (mDCons (mMv 4) (mDCons (mMv 5) (mDCons (mMv 6) mDNil)))))))))
def f__law_doors : Fn := runF [true, true, true, true] 7 b__law_doors
theorem ok__law_doors {P : Program} {w : World} {K : PySem.W.Frag} {mg : Str → Option Value} {base : Heap} {f : Addr} {fd : FuncData} (F : FunZ K "_law_doors" "_law_doors" s__law_doors f fd) (c__law_draw : ZC P w K mg base 1 "_law_draw" f__law_draw []) : FnZ P w K mg base CX0 2 f fd ["deck", "names", "kind", "values"] (spF base P w K 4 f__law_doors) :=
  zFun (ks := [true, true, true, true]) (l := 7) (b := b__law_doors) F sc__law_doors rfl rfl fun cdv hc A outer s H E hr hG =>
  (zSeq (zAsg 4 (zLst zNil) sc__law_doors.nd)
  (zSeq (zAsg 5 (zLst zNil) sc__law_doors.nd)
  (zSeq (zAsg 6 (zLst zNil) sc__law_doors.nd)
  (zSeq (zFor PassesOwn.never rfl (ziA (zNm 1)) (zgN 7 sc__law_doors.nd) (zSeq (zAsg 8 (zTup (zDCons (zNm 7) (zDCons zNon zDNil))) sc__law_doors.nd)
  (zSeq (zAsg 9 (zLst (zCons zNon zNil)) sc__law_doors.nd)
  (zSeq (zIf (zCmpT (zeq (z_hu hr)) (zC c__law_draw hr hG (zALend 0 (zAVal zInt zANil))) zInt) (zSeq (zAsg 8 (zTup (zDCons (zNm 7) (zDCons (zNm 2) zDNil))) sc__law_doors.nd)
  (zEnd (zAsg 9 (zNm 3) sc__law_doors.nd))) zNx)
  (zSeq (zIf (zCmpT (zeq (z_hu hr)) (zC c__law_draw hr hG (zALend 0 (zAVal zInt zANil))) zInt) (zEnd (zEx (zMet PySem.F.plainAttrs_list PySem.F.slot_list_append PySem.F.type_list_append oAppend (zlN 4) (zCons (zNm 8) zNil)))) (zEnd (zEx (zMet PySem.F.plainAttrs_list PySem.F.slot_list_append PySem.F.type_list_append oAppend (zlN 5) (zCons (zNm 8) zNil)))))
  (zEnd (zAsg 6 (zBin zadd (zMv 6) (zLc (own := [("worth", 10)]) rfl sc__law_doors.nd (blkOk_by rfl) (ziA (zMv 9)) (fun _ _ _ _ _ => (zvN 10 sc__law_doors.nd)) (fun _ _ _ _ _ => zYes) (fun _ _ _ _ _ => (zTup (zDCons (zNm 7) (zDCons (zNm 10) zDNil)))))) sc__law_doors.nd)))))))
  (zEnd (zRet (zTup (zDCons (zMv 4) (zDCons (zMv 5) (zDCons (zMv 6) zDNil))))))))))

/-! _law_world -/
abbrev s__law_world : Stmt := topS 20
theorem sc__law_world : FnScope ["deck", "events", "many", "rows", "k"] ["deck", "events"] (defScope s__law_world) := ⟨rfl, rfl, rfl, by decide +kernel, rfl, by decide +kernel, by decide +kernel⟩
def b__law_world : M Out :=
  (mSeq (mIfS (mTru oBool (mOp gtD (mCall f__law_draw (mALend 0 (mAVal (mC (.int 6)) mANil))) (mC (.int 0)))) (mRet (mCall f__law_rows (mALend 0 (mALend 1 (mAVal (mGet (mTup (mDCons (mC (.int 1)) (mDCons (mC (.int 2)) (mDCons (mC (.int 3)) (mDCons (mC (.int 4)) (mDCons (mC (.int 4)) (mDCons (mC (.int 3)) mDNil))))))) (mCall f__law_draw (mALend 0 (mAVal (mC (.int 6)) mANil)))) mANil))))) mNx)
  (mSeq (mAsg 2 (mOp addD (mC (.int 5)) (mCall f__law_draw (mALend 0 (mAVal (mC (.int 13)) mANil)))))
  (mSeq (mAsg 3 (mLc [4] (mRng1 (mOp subD (mNm 2) (mC (.int 1)))) (tgN 4) mYes (mLst (mCons (mTup (mDCons (mGetN 1 (mCall f__law_draw (mALend 0 (mAVal (mC1 lenO (mPk 1)) mANil)))) (mDCons (mOp addD (mNm 4) (mC (.int 1))) mDNil))) mNil))))
  (mSeq (mEx (mMet "list" (lN 3) (mCons (mLst (mCons (mTup (mDCons (mGetN 1 (mCall f__law_draw (mALend 0 (mAVal (mC1 lenO (mPk 1)) mANil)))) (mDCons (mCall f__law_draw (mALend 0 (mALend 2 mANil))) mDNil))) mNil)) mNil) fAppend))
  (mRet (mMv 3))))))
def f__law_world : Fn := runF [true, true] 3 b__law_world
theorem ok__law_world {P : Program} {w : World} {K : PySem.W.Frag} {mg : Str → Option Value} {base : Heap} {f : Addr} {fd : FuncData} (F : FunZ K "_law_world" "_law_world" s__law_world f fd) (m_len : mg "len" = none) (m_range : mg "range" = none) (c__law_draw : ZC P w K mg base 1 "_law_draw" f__law_draw []) (c__law_rows : ZC P w K mg base 2 "_law_rows" f__law_rows []) : FnZ P w K mg base CX0 3 f fd ["deck", "events"] (spF base P w K 2 f__law_world) :=
  zFun (ks := [true, true]) (l := 3) (b := b__law_world) F sc__law_world rfl rfl fun cdv hc A outer s H E hr hG =>
  (zSeq (zIf (zCmpT (zgt (z_hu hr)) (zC c__law_draw hr hG (zALend 0 (zAVal zInt zANil))) zInt) (zEnd (zRet (zC c__law_rows hr hG (zALend 0 (zALend 1 (zAVal (zGet (z_hu hr) (zTup (zDCons zInt (zDCons zInt (zDCons zInt (zDCons zInt (zDCons zInt (zDCons zInt zDNil))))))) (zC c__law_draw hr hG (zALend 0 (zAVal zInt zANil)))) zANil)))))) zNx)
  (zSeq (zAsg 2 (zBin zadd zInt (zC c__law_draw hr hG (zALend 0 (zAVal zInt zANil)))) sc__law_world.nd)
  (zSeq (zSetLc (i := 3) (own := [("k", 4)]) rfl sc__law_world.nd (blkOk_by rfl) rfl (ziRng1 m_range (zBin zsubD (zNm 2) zInt)) (fun _ _ _ _ _ => (zvN 4 sc__law_world.nd)) (fun _ _ _ _ _ => zYes) (fun _ _ _ _ _ => (zLst (zCons (zTup (zDCons (zGetN 1 (z_hu hr) (zC c__law_draw hr hG (zALend 0 (zAVal (zCB1 pLen m_len (by rfl) (zPk 1)) zANil)))) (zDCons (zBin zadd (zNm 4) zInt) zDNil))) zNil))))
  (zSeq (zEx (zMet PySem.F.plainAttrs_list PySem.F.slot_list_append PySem.F.type_list_append oAppend (zlN 3) (zCons (zLst (zCons (zTup (zDCons (zGetN 1 (z_hu hr) (zC c__law_draw hr hG (zALend 0 (zAVal (zCB1 pLen m_len (by rfl) (zPk 1)) zANil)))) (zDCons (zC c__law_draw hr hG (zALend 0 (zALend 2 zANil))) zDNil))) zNil)) zNil)))
  (zEnd (zRet (zMv 3)))))))

/-! _law_unseen -/
abbrev s__law_unseen : Stmt := topS 21
theorem sc__law_unseen : FnScope ["rows", "states", "seen", "met", "k", "step"] ["rows", "states", "seen"] (defScope s__law_unseen) := ⟨rfl, rfl, rfl, by decide +kernel, rfl, by decide +kernel, by decide +kernel⟩
def b__law_unseen : M Out :=
  (mSeq (mAsg 3 (mC1 listO (mPk 1)))
  (mSeq (mFor (mRng1 (mC1 lenO (mPk 0))) (tgN 4) (mSeq (mIfS (mTru oBool (mOp geD (mNm 4) (mC1 lenO (mPk 3)))) (mOut .bk) mNx)
  (mFor (mItA (mQ (qIx (qN 0) (qIx (qN 3) (qN 4))))) (tgN 5) (mIfS (mAnd (mTru oBool (mOpP ninA (mQ (qIx (qIx (qN 5) (qC (.int 0))) (qC (.int 0)))) (mPk 2))) (mTru oBool (mOpP ninA (mQ (qIx (qN 5) (qC (.int 1)))) (mPk 3)))) (mEx (mMet "list" (lN 3) (mCons (mQ (qIx (qN 5) (qC (.int 1)))) mNil) fAppend)) mNx))))
  (mRet (mC1 tupO (mC1 sortedO (mPk 3))))))
def f__law_unseen : Fn := runF [true, true, true] 3 b__law_unseen
theorem ok__law_unseen {P : Program} {w : World} {K : PySem.W.Frag} {mg : Str → Option Value} {base : Heap} {f : Addr} {fd : FuncData} (F : FunZ K "_law_unseen" "_law_unseen" s__law_unseen f fd) (m_len : mg "len" = none) (m_list : mg "list" = none) (m_range : mg "range" = none) (m_sorted : mg "sorted" = none) (m_tuple : mg "tuple" = none) : FnZ P w K mg base CX0 1 f fd ["rows", "states", "seen"] (spF base P w K 3 f__law_unseen) :=
  zFun (ks := [true, true, true]) (l := 3) (b := b__law_unseen) F sc__law_unseen rfl rfl fun cdv hc A outer s H E hr hG =>
  (zSeq (zAsg 3 (zCT1 pList m_list (by rfl) (zPk 1)) sc__law_unseen.nd)
  (zSeq (zFor PassesOwn.never rfl (ziRng1 m_range (zCB1 pLen m_len (by rfl) (zPk 0))) (zgN 4 sc__law_unseen.nd) (zSeq (zIf (zCmpT (zge (z_hu hr)) (zNm 4) (zCB1 pLen m_len (by rfl) (zPk 3))) (zEnd zBreak) zNx)
  (zEnd (zFor PassesOwn.never rfl (ziA (zQ (zqIx (z_hu hr) (zqN 0) (zqIx (z_hu hr) (zqN 3) (zqN 4))))) (zgN 5 sc__law_unseen.nd) (zEnd (zIf (zAnd (zCmpPT (zninA (z_hu hr)) (zQ (zqIx (z_hu hr) (zqIx (z_hu hr) (zqN 5) zqInt) zqInt)) (zPk 2)) (zAnd1 (zCmpPT (zninA (z_hu hr)) (zQ (zqIx (z_hu hr) (zqN 5) zqInt)) (zPk 3)))).pt (zEnd (zEx (zMet PySem.F.plainAttrs_list PySem.F.slot_list_append PySem.F.type_list_append oAppend (zlN 3) (zCons (zQ (zqIx (z_hu hr) (zqN 5) zqInt)) zNil)))) zNx))))))
  (zEnd (zRet (zCT1 pTup m_tuple (by rfl) (PEpk (zCB1 (pSorted rfl (z_hu hr)) m_sorted (by rfl) (zPk 3))))))))

/-! _law_seen_by -/
abbrev s__law_seen_by : Stmt := topS 22
theorem sc__law_seen_by : FnScope ["rows", "states", "event", "seen", "found", "state", "step"] ["rows", "states", "event", "seen"] (defScope s__law_seen_by) := ⟨rfl, rfl, rfl, by decide +kernel, rfl, by decide +kernel, by decide +kernel⟩
def b__law_seen_by : M Out :=
  (mSeq (mAsg 4 (mLst mNil))
  (mSeq (mFor (mItA (mNm 1)) (tgN 5) (mFor (mItA (mQ (qIx (qN 0) (qN 5)))) (tgN 6) (mIfS (mAnd (mTru oBool (mOp eqD (mQ (qIx (qN 6) (qC (.int 0)))) (mNm 2))) (mTru oBool (mOpP ninA (mQ (qIx (qN 6) (qC (.int 1)))) (mPk 4)))) (mEx (mMet "list" (lN 4) (mCons (mQ (qIx (qN 6) (qC (.int 1)))) mNil) fAppend)) mNx)))
  (mRet (mCall f__law_unseen (mALend 0 (mALend 4 (mALend 3 mANil)))))))
def f__law_seen_by : Fn := runF [true, true, true, true] 3 b__law_seen_by
theorem ok__law_seen_by {P : Program} {w : World} {K : PySem.W.Frag} {mg : Str → Option Value} {base : Heap} {f : Addr} {fd : FuncData} (F : FunZ K "_law_seen_by" "_law_seen_by" s__law_seen_by f fd) (c__law_unseen : ZC P w K mg base 1 "_law_unseen" f__law_unseen []) : FnZ P w K mg base CX0 2 f fd ["rows", "states", "event", "seen"] (spF base P w K 4 f__law_seen_by) :=
  zFun (ks := [true, true, true, true]) (l := 3) (b := b__law_seen_by) F sc__law_seen_by rfl rfl fun cdv hc A outer s H E hr hG =>
  (zSeq (zAsg 4 (zLst zNil) sc__law_seen_by.nd)
  (zSeq (zFor PassesOwn.never rfl (ziA (zNm 1)) (zgN 5 sc__law_seen_by.nd) (zEnd (zFor PassesOwn.never rfl (ziA (zQ (zqIx (z_hu hr) (zqN 0) (zqN 5)))) (zgN 6 sc__law_seen_by.nd) (zEnd (zIf (zAnd (zCmpT (zeq (z_hu hr)) (zQ (zqIx (z_hu hr) (zqN 6) zqInt)) (zNm 2)) (zAnd1 (zCmpPT (zninA (z_hu hr)) (zQ (zqIx (z_hu hr) (zqN 6) zqInt)) (zPk 4)))).pt (zEnd (zEx (zMet PySem.F.plainAttrs_list PySem.F.slot_list_append PySem.F.type_list_append oAppend (zlN 4) (zCons (zQ (zqIx (z_hu hr) (zqN 6) zqInt)) zNil)))) zNx)))))
  (zEnd (zRet (zC c__law_unseen hr hG (zALend 0 (zALend 4 (zALend 3 zANil))))))))

/-! _law_secret -/
abbrev s__law_secret : Stmt := topS 23
theorem sc__law_secret : FnScope ["rows", "secret", "seen", "most", "events", "event", "queue", "words", "k", "state", "to"] ["rows", "secret", "seen", "most"] (defScope s__law_secret) := ⟨rfl, rfl, rfl, by decide +kernel, rfl, by decide +kernel, by decide +kernel⟩
def b__law_secret : M Out :=
  (mSeq (mAsg 4 (mLc [5] (mItA (mCall f__law_events (mALend 0 (mAVal (mFz (mLst mNil)) mANil)))) (tgN 5) (mTru oBool (mOpP inA (mQ (qIx (qN 5) (qC (.int 0)))) (mPk 2))) (mNm 5)))
  (mSeq (mFrS 4 (mAsg 6 (mLst (mCons (mCall f__law_unseen (mALend 0 (mAVal (mFz (mLst (mCons (mC (.int 0)) mNil))) (mALend 2 mANil)))) mNil))))
  (mSeq (mAsg 7 (mLst (mCons (mTup mDNil) mNil)))
  (mSeq (mFor (mRng1 (mNm 3)) (tgN 8) (mSeq (mIfS (mTru oBool (mOp geD (mNm 8) (mC1 lenO (mPk 6)))) (mRet (mTup (mDCons (mC (.str "kept")) (mDCons (mC1 tupO (mC1 sortedO (mPk 6))) mDNil)))) mNx)
  (mSeq (mIfS (mTru oBool (mOp eqD (mC1 lenO (mLc [9] (mItA (mQ (qIx (qN 6) (qN 8)))) (tgN 9) (mTru oBool (mOpP ninA (mNm 9) (mPk 1))) (mNm 9))) (mC (.int 0)))) (mRet (mTup (mDCons (mC (.str "told")) (mDCons (mQ (qIx (qN 7) (qN 8))) mDNil)))) mNx)
  (mFor (mItA (mMv 4)) (tgN 5) (mSeq (mAsg 10 (mCall f__law_seen_by (mALend 0 (mAVal (mQ (qIx (qN 6) (qN 8))) (mALend 5 (mALend 2 mANil))))))
  (mIfS (mAnd (mTru oBool (mOp gtD (mC1 lenO (mPk 10)) (mC (.int 0)))) (mTru oBool (mOpP ninA (mNm 10) (mPk 6)))) (mSeq (mEx (mMet "list" (lN 6) (mCons (mNm 10) mNil) fAppend))
  (mEx (mMet "list" (lN 7) (mCons (mOp addD (mQ (qIx (qN 7) (qN 8))) (mTup (mDCons (mNm 5) mDNil))) mNil) fAppend))) mNx))))))
  (mRet (mC .none))))))
def f__law_secret : Fn := runF [true, true, true, true] 7 b__law_secret
theorem ok__law_secret {P : Program} {w : World} {K : PySem.W.Frag} {mg : Str → Option Value} {base : Heap} {f : Addr} {fd : FuncData} (F : FunZ K "_law_secret" "_law_secret" s__law_secret f fd) (m_len : mg "len" = none) (m_range : mg "range" = none) (m_sorted : mg "sorted" = none) (m_tuple : mg "tuple" = none) (c__law_events : ZC P w K mg base 1 "_law_events" f__law_events []) (c__law_unseen : ZC P w K mg base 1 "_law_unseen" f__law_unseen []) (c__law_seen_by : ZC P w K mg base 2 "_law_seen_by" f__law_seen_by []) : FnZ P w K mg base CX0 3 f fd ["rows", "secret", "seen", "most"] (spF base P w K 4 f__law_secret) :=
  zFun (ks := [true, true, true, true]) (l := 7) (b := b__law_secret) F sc__law_secret rfl rfl fun cdv hc A outer s H E hr hG =>
  (zSeq (zSetLc (i := 4) (own := [("event", 5)]) rfl sc__law_secret.nd (blkOk_by rfl) rfl (ziA (zC c__law_events hr hG (zALend 0 (zAVal (PEfz (zLst zNil)) zANil)))) (fun _ _ _ _ _ => (zvN 5 sc__law_secret.nd)) (fun _ _ _ _ _ => (zIfs (zCmpPT (zinA (z_hu hr)) (zQ (zqIx (z_hu hr) (zqN 5) zqInt)) (zPk 2)))) (fun _ _ _ _ _ => (zNm 5)))
  (zSeq (zFrS1 (i := 4) (zAsg 6 (zLst (zCons (zC c__law_unseen hr hG (zALend 0 (zAVal (PEfz (zLst (zCons zInt zNil))) (zALend 2 zANil)))) zNil)) sc__law_secret.nd))
  (zSeq (zAsg 7 (zLst (zCons (zTup zDNil) zNil)) sc__law_secret.nd)
  (zSeq (zFor PassesOwn.never rfl (ziRng1 m_range (zNm 3)) (zgN 8 sc__law_secret.nd) (zSeq (zIf (zCmpT (zge (z_hu hr)) (zNm 8) (zCB1 pLen m_len (by rfl) (zPk 6))) (zEnd (zRet (zTup (zDCons zStr (zDCons (zCT1 pTup m_tuple (by rfl) (PEpk (zCB1 (pSorted rfl (z_hu hr)) m_sorted (by rfl) (zPk 6)))) zDNil))))) zNx)
  (zSeq (zIf (zCmpT (zeq (z_hu hr)) (zCB1 pLen m_len (by rfl) (PEpk (zLc (own := [("state", 9)]) rfl sc__law_secret.nd (blkOk_by rfl) (ziA (zQ (zqIx (z_hu hr) (zqN 6) (zqN 8)))) (fun _ _ _ _ _ => (zvN 9 sc__law_secret.nd)) (fun _ _ _ _ _ => (zIfs (zCmpPT (zninA (z_hu hr)) (zNm 9) (zPk 1)))) (fun _ _ _ _ _ => (zNm 9))))) zInt) (zEnd (zRet (zTup (zDCons zStr (zDCons (zQ (zqIx (z_hu hr) (zqN 7) (zqN 8))) zDNil))))) zNx)
  (zEnd (zFor PassesOwn.never rfl (ziA (zMv 4)) (zgN 5 sc__law_secret.nd) (zSeq (zAsg 10 (zC c__law_seen_by hr hG (zALend 0 (zAVal (zQ (zqIx (z_hu hr) (zqN 6) (zqN 8))) (zALend 5 (zALend 2 zANil))))) sc__law_secret.nd)
  (zEnd (zIf (zAnd (zCmpT (zgt (z_hu hr)) (zCB1 pLen m_len (by rfl) (zPk 10)) zInt) (zAnd1 (zCmpPT (zninA (z_hu hr)) (zNm 10) (zPk 6)))).pt (zSeq (zEx (zMet PySem.F.plainAttrs_list PySem.F.slot_list_append PySem.F.type_list_append oAppend (zlN 6) (zCons (zNm 10) zNil)))
  (zEnd (zEx (zMet PySem.F.plainAttrs_list PySem.F.slot_list_append PySem.F.type_list_append oAppend (zlN 7) (zCons (zBin zadd (zQ (zqIx (z_hu hr) (zqN 7) (zqN 8))) (zTup (zDCons (zNm 5) zDNil))) zNil))))) zNx))))))))
  (zEnd (zRet zNon))))))

/-! _law_fault -/
abbrev s__law_fault : Stmt := topS 24
theorem sc__law_fault : FnScope ["deck", "rows", "made", "step", "row", "turn"] ["deck", "rows"] (defScope s__law_fault) := ⟨rfl, rfl, rfl, by decide +kernel, rfl, by decide +kernel, by decide +kernel⟩
def b__law_fault : M Out :=
  (mSeq (mAsg 2 (mLc [4] (mItA (mNm 1)) (tgN 4) mYes (mLc [3] (mItA (mNm 4)) (tgN 3) mYes (mNm 3))))
  (mSeq (mFor (mRng1 (mCall f__law_draw (mALend 0 (mAVal (mC (.int 3)) mANil)))) (tgN 5) (mEx (mMet "list" (lIx (lN 2) (mCall f__law_draw (mALend 0 (mAVal (mC1 lenO (mPk 2)) mANil)))) (mCons (mTup (mDCons (mTup (mDCons (mC (.str "")) (mDCons (mC (.str "fault")) mDNil))) (mDCons (mCall f__law_draw (mALend 0 (mAVal (mC1 lenO (mPk 2)) mANil))) mDNil))) mNil) fAppend)))
  (mRet (mMv 2))))
def f__law_fault : Fn := runF [true, true] 4 b__law_fault
theorem ok__law_fault {P : Program} {w : World} {K : PySem.W.Frag} {mg : Str → Option Value} {base : Heap} {f : Addr} {fd : FuncData} (F : FunZ K "_law_fault" "_law_fault" s__law_fault f fd) (m_len : mg "len" = none) (m_range : mg "range" = none) (c__law_draw : ZC P w K mg base 1 "_law_draw" f__law_draw []) : FnZ P w K mg base CX0 2 f fd ["deck", "rows"] (spF base P w K 2 f__law_fault) :=
  zFun (ks := [true, true]) (l := 4) (b := b__law_fault) F sc__law_fault rfl rfl fun cdv hc A outer s H E hr hG =>
  (zSeq (zSetLc (i := 2) (own := [("row", 4)]) rfl sc__law_fault.nd (blkOk_by rfl) rfl (ziA (zNm 1)) (fun _ _ _ _ _ => (zvN 4 sc__law_fault.nd)) (fun _ _ _ _ _ => zYes) (fun _ _ _ _ _ => (zLc (own := [("step", 3)]) rfl sc__law_fault.nd (blkOk_by rfl) (ziA (zNm 4)) (fun _ _ _ _ _ => (zvN 3 sc__law_fault.nd)) (fun _ _ _ _ _ => zYes) (fun _ _ _ _ _ => (zNm 3)))))
  (zSeq (zFor PassesOwn.never rfl (ziRng1 m_range (zC c__law_draw hr hG (zALend 0 (zAVal zInt zANil)))) (zgN 5 sc__law_fault.nd) (zEnd (zEx (zMet PySem.F.plainAttrs_list PySem.F.slot_list_append PySem.F.type_list_append oAppend (zlIx (z_hu hr) (zlN 2) (zC c__law_draw hr hG (zALend 0 (zAVal (zCB1 pLen m_len (by rfl) (zPk 2)) zANil)))) (zCons (zTup (zDCons (zTup (zDCons zStr (zDCons zStr zDNil))) (zDCons (zC c__law_draw hr hG (zALend 0 (zAVal (zCB1 pLen m_len (by rfl) (zPk 2)) zANil))) zDNil))) zNil)))))
  (zEnd (zRet (zMv 2)))))

/-! split_rows -/
abbrev s_split_rows : Stmt := topS 4
theorem sc_split_rows : FnScope ["rows", "seen", "quiet", "loud", "row", "still", "told", "label", "target"] ["rows", "seen"] (defScope s_split_rows) := ⟨rfl, rfl, rfl, by decide +kernel, rfl, by decide +kernel, by decide +kernel⟩
def b_split_rows : M Out :=
  (mSeq (mPar [2, 3] (mCons (mLst mNil) (mCons (mLst mNil) mNil)))
  (mSeq (mFor (mItA (mNm 0)) (tgN 4) (mSeq (mPar [5, 6] (mCons (mLst mNil) (mCons mDct0 mNil)))
  (mSeq (mFor (mItA (mNm 4)) (tgTup 2 (tgCons (tgN 7) (tgCons (tgN 8) tgNil))) (mIfS (mAnd (mTru oBool (mOp neD (mQ (qIx (qN 7) (qC (.int 0)))) (mC (.str "")))) (mOr (mTru oBool (mOp isD (mNm 1) (mC .none))) (mTru oBool (mOpP inA (mQ (qIx (qN 7) (qC (.int 0)))) (mPk 1))))) (mEx (mMet "list" (lSetd (lN 6) (mCons (mNm 7) (mCons (mLst mNil) mNil))) (mCons (mNm 8) mNil) fAppend)) (mEx (mMet "list" (lN 5) (mCons (mNm 8) mNil) fAppend))))
  (mSeq (mEx (mMet "list" (lN 2) (mCons (mMv 5) mNil) fAppend))
  (mEx (mMet "list" (lN 3) (mCons (mMv 6) mNil) fAppend))))))
  (mRet (mTup (mDCons (mMv 2) (mDCons (mMv 3) mDNil))))))
def f_split_rows : Fn := runF [true, true] 7 b_split_rows
theorem ok_split_rows {P : Program} {w : World} {K : PySem.W.Frag} {mg : Str → Option Value} {base : Heap} {f : Addr} {fd : FuncData} (F : FunZ K "split_rows" "split_rows" s_split_rows f fd) : FnZ P w K mg base CX0 1 f fd ["rows", "seen"] (spF base P w K 2 f_split_rows) :=
  zFun (ks := [true, true]) (l := 7) (b := b_split_rows) F sc_split_rows rfl rfl fun cdv hc A outer s H E hr hG =>
  (zSeq (zPar2 rfl (zCons (zLst zNil) (zCons (zLst zNil) zNil)) sc_split_rows.nd)
  (zSeq (zFor PassesOwn.never rfl (ziA (zNm 0)) (zgN 4 sc_split_rows.nd) (zSeq (zPar2 rfl (zCons (zLst zNil) (zCons zDct0 zNil)) sc_split_rows.nd)
  (zSeq (zFor PassesOwn.never rfl (ziA (zNm 4)) (zgTup rfl (zgCons (zgN 7 sc_split_rows.nd) (zgCons (zgN 8 sc_split_rows.nd) zgNil))) (zEnd (zIf (zAnd (zCmpT (zne (z_hu hr)) (zQ (zqIx (z_hu hr) (zqN 7) zqInt)) zStr) (zAnd1 (zOr (zCmpT zis (zNm 1) zNon) (zOr1 (zCmpPT (zinA (z_hu hr)) (zQ (zqIx (z_hu hr) (zqN 7) zqInt)) (zPk 1)))).pt)).pt (zEnd (zEx (zMet PySem.F.plainAttrs_list PySem.F.slot_list_append PySem.F.type_list_append oAppend (zlSetd (z_hu hr) (zlN 6) (zCons (zNm 7) (zCons (zLst zNil) zNil))) (zCons (zNm 8) zNil)))) (zEnd (zEx (zMet PySem.F.plainAttrs_list PySem.F.slot_list_append PySem.F.type_list_append oAppend (zlN 5) (zCons (zNm 8) zNil)))))))
  (zSeq (zEx (zMet PySem.F.plainAttrs_list PySem.F.slot_list_append PySem.F.type_list_append oAppend (zlN 2) (zCons (zMv 5) zNil)))
  (zEnd (zEx (zMet PySem.F.plainAttrs_list PySem.F.slot_list_append PySem.F.type_list_append oAppend (zlN 3) (zCons (zMv 6) zNil))))))))
  (zEnd (zRet (zTup (zDCons (zMv 2) (zDCons (zMv 3) zDNil)))))))

/-! spread -/
abbrev s_spread : Stmt := topS 5
theorem sc_spread : FnScope ["quiet", "states", "met", "stack", "state", "target"] ["quiet", "states"] (defScope s_spread) := ⟨rfl, rfl, rfl, by decide +kernel, rfl, by decide +kernel, by decide +kernel⟩
def b_spread : M Out :=
  (mSeq (mPar [2, 3] (mCons mDct0 (mCons (mLst mNil) mNil)))
  (mSeq (mFor (mItA (mNm 1)) (tgN 4) (mIfS (mTru oBool (mOpP ninA (mNm 4) (mPk 2))) (mSeq (mSto sAny (mC (.bool true)) (lN 2) (mNm 4))
  (mEx (mMet "list" (lN 3) (mCons (mNm 4) mNil) fAppend))) mNx))
  (mSeq (mWhile (mTru oTru (mPk 3)) (mFor (mItA (mGetN 0 (mMet "list" (lN 3) mNil fPop))) (tgN 5) (mIfS (mTru oBool (mOpP ninA (mNm 5) (mPk 2))) (mSeq (mSto sAny (mC (.bool true)) (lN 2) (mNm 5))
  (mEx (mMet "list" (lN 3) (mCons (mNm 5) mNil) fAppend))) mNx)))
  (mRet (mC1 tupO (mC1 sortedO (mPk 2)))))))
def f_spread : Fn := runF [true, true] 4 b_spread
theorem ok_spread {P : Program} {w : World} {K : PySem.W.Frag} {mg : Str → Option Value} {base : Heap} {f : Addr} {fd : FuncData} (F : FunZ K "spread" "spread" s_spread f fd) (m_sorted : mg "sorted" = none) (m_tuple : mg "tuple" = none) : FnZ P w K mg base CX0 1 f fd ["quiet", "states"] (spF base P w K 2 f_spread) :=
  zFun (ks := [true, true]) (l := 4) (b := b_spread) F sc_spread rfl rfl fun cdv hc A outer s H E hr hG =>
  (zSeq (zPar2 rfl (zCons zDct0 (zCons (zLst zNil) zNil)) sc_spread.nd)
  (zSeq (zFor PassesOwn.never rfl (ziA (zNm 1)) (zgN 4 sc_spread.nd) (zEnd (zIf (zCmpPT (zninA (z_hu hr)) (zNm 4) (zPk 2)) (zSeq (zSto zBl (zlN 2) (zNm 4) (setAny (z_hu hr)))
  (zEnd (zEx (zMet PySem.F.plainAttrs_list PySem.F.slot_list_append PySem.F.type_list_append oAppend (zlN 3) (zCons (zNm 4) zNil))))) zNx)))
  (zSeq (zWhile PassesOwn.never (zTru (zPk 3)) (zEnd (zFor PassesOwn.never rfl (ziA (zGetN 0 (z_hu hr) (zMet0 PySem.F.plainAttrs_list PySem.F.slot_list_pop PySem.F.type_list_pop oPop (zlN 3)))) (zgN 5 sc_spread.nd) (zEnd (zIf (zCmpPT (zninA (z_hu hr)) (zNm 5) (zPk 2)) (zSeq (zSto zBl (zlN 2) (zNm 5) (setAny (z_hu hr)))
  (zEnd (zEx (zMet PySem.F.plainAttrs_list PySem.F.slot_list_append PySem.F.type_list_append oAppend (zlN 3) (zCons (zNm 5) zNil))))) zNx)))))
  (zEnd (zRet (zCT1 pTup m_tuple (by rfl) (PEpk (zCB1 (pSorted rfl (z_hu hr)) m_sorted (by rfl) (zPk 2)))))))))

/-! set_steps -/
abbrev s_set_steps : Stmt := topS 6
theorem sc_set_steps : FnScope ["quiet", "loud", "states", "targets", "state", "event", "found"] ["quiet", "loud", "states"] (defScope s_set_steps) := ⟨rfl, rfl, rfl, by decide +kernel, rfl, by decide +kernel, by decide +kernel⟩
def b_set_steps : M Out :=
  (mSeq (mAsg 3 mDct0)
  (mSeq (mFor (mItA (mNm 2)) (tgN 4) (mFor (mItP (mQ (qIx (qN 1) (qN 4)))) (tgTup 2 (tgCons (tgN 5) (tgCons (tgN 6) tgNil))) (mEx (mMet "list" (lSetd (lN 3) (mCons (mNm 5) (mCons (mLst mNil) mNil))) (mCons (mNm 6) mNil) fExtend))))
  (mFrS 3 (mRet (mLc [5] (mItA (mC1 sortedO (mPk 3))) (tgN 5) mYes (mTup (mDCons (mNm 5) (mDCons (mCall f_spread (mALend 0 (mAVal (mQ (qIx (qN 3) (qN 5))) mANil))) mDNil))))))))
def f_set_steps : Fn := runF [true, true, true] 4 b_set_steps
theorem ok_set_steps {P : Program} {w : World} {K : PySem.W.Frag} {mg : Str → Option Value} {base : Heap} {f : Addr} {fd : FuncData} (F : FunZ K "set_steps" "set_steps" s_set_steps f fd) (m_sorted : mg "sorted" = none) (c_spread : ZC P w K mg base 1 "spread" f_spread []) : FnZ P w K mg base CX0 2 f fd ["quiet", "loud", "states"] (spF base P w K 3 f_set_steps) :=
  zFun (ks := [true, true, true]) (l := 4) (b := b_set_steps) F sc_set_steps rfl rfl fun cdv hc A outer s H E hr hG =>
  (zSeq (zAsg 3 zDct0 sc_set_steps.nd)
  (zSeq (zFor PassesOwn.never rfl (ziA (zNm 2)) (zgN 4 sc_set_steps.nd) (zEnd (zFor PassesOwn.never rfl (ziP (zQ (zqIx (z_hu hr) (zqN 1) (zqN 4)))) (zgTup rfl (zgCons (zgN 5 sc_set_steps.nd) (zgCons (zgN 6 sc_set_steps.nd) zgNil))) (zEnd (zEx (zMet PySem.F.plainAttrs_list PySem.F.slot_list_extend PySem.F.type_list_extend oExtend (zlSetd (z_hu hr) (zlN 3) (zCons (zNm 5) (zCons (zLst zNil) zNil))) (zCons (zNm 6) zNil)))))))
  (zEnd (zFrS1 (i := 3) (zRet (zLc (own := [("event", 5)]) rfl sc_set_steps.nd (blkOk_by rfl) (ziA (zCB1 (pSorted rfl (z_hu hr)) m_sorted (by rfl) (zPk 3))) (fun _ _ _ _ _ => (zvN 5 sc_set_steps.nd)) (fun _ _ _ _ _ => zYes) (fun _ _ _ _ _ => (zTup (zDCons (zNm 5) (zDCons (zC c_spread hr hG (zALend 0 (zAVal (zQ (zqIx (z_hu hr) (zqN 3) (zqN 5))) zANil))) zDNil))))))))))

/-! within -/
abbrev s_within : Stmt := topS 10
theorem sc_within : FnScope ["states", "secret"] ["states", "secret"] (defScope s_within) := ⟨rfl, rfl, rfl, by decide +kernel, rfl, by decide +kernel, by decide +kernel⟩
def b_within : M Out :=
  (mRet (mGen (fun bs => bs.all id) (eIn 1) (mNm 0)))
def f_within : Fn := runF [true, true] 0 b_within
theorem ok_within {P : Program} {w : World} {K : PySem.W.Frag} {mg : Str → Option Value} {base : Heap} {f : Addr} {fd : FuncData} (F : FunZ K "within" "within" s_within f fd) {c T : Addr} (tb : GxR.TabB base mg c T) (mk : base.objs[T]? = some mkT) (fc : fd.code = .ref c) (m_all : mg "all" = none) : FnZ P w K mg base CX0 1 f fd ["states", "secret"] (spF base P w K 2 f_within) :=
  zFun (ks := [true, true]) (l := 0) (b := b_within) F sc_within rfl rfl fun cdv hc A outer s H E hr hG =>
  (have hcode : ∀ (cdv : Value) (_ : fd.code = cdv) (A : Around) (outer : List Env) (s : Shared) (H : Hp) (E : XK), Code (cxOf CX0 P w K mg base ["states", "secret"] "within" (defScope s_within) f cdv A outer s H E).nox c T := fun cdv hc A outer s H E => ⟨tb, mk, hc.symm.trans fc⟩
  (zEnd (zRet (zAll hr (hcode cdv hc A outer s H E) ⟨rfl, rfl, by decide +kernel, rfl, rfl, gfree rfl⟩ m_all (by rfl) (zNm 0) (zeIn 1 (z_hu8 hr) ⟨rfl, rfl, by decide +kernel, rfl, rfl, gfree rfl⟩)))))

/-! kept_secret -/
abbrev s_kept_secret : Stmt := topS 9
theorem sc_kept_secret : FnScope ["graph", "secret", "seen", "quiet", "loud", "first", "met", "queue", "at", "states", "event", "behind"] ["graph", "secret", "seen"] (defScope s_kept_secret) := ⟨rfl, rfl, rfl, by decide +kernel, rfl, by decide +kernel, by decide +kernel⟩
def b_kept_secret : M Out :=
  (mSeq (mAsgT (tgTup 2 (tgCons (tgN 3) (tgCons (tgN 4) tgNil))) (mCall f_split_rows (mAVal (mQ (qIx (qN 0) (qC (.int 3)))) (mALend 2 mANil))))
  (mSeq (mAsg 5 (mCall f_spread (mALend 3 (mAVal (mFz (mLst (mCons (mC (.int 0)) mNil))) mANil))))
  (mSeq (mIfS (mTru oTru (mCall f_within (mALend 5 (mALend 1 mANil)))) (mRet (mTup (mDCons (mC (.str "told")) (mDCons (mTup mDNil) mDNil)))) mNx)
  (mSeq (mPar [6, 7, 8] (mCons (mDct1 (mNm 5) (mTup mDNil)) (mCons (mLst (mCons (mNm 5) mNil)) (mCons (mC (.int 0)) mNil))))
  (mSeq (mWhile (mTru oBool (mOp ltD (mNm 8) (mC1 lenO (mPk 7)))) (mSeq (mAsg 9 (mQ (qIx (qN 7) (qN 8))))
  (mSeq (mAug (· + ·) 8 (mC (.int 1)))
  (mFor (mItA (mCall f_set_steps (mALend 3 (mALend 4 (mALend 9 mANil))))) (tgTup 2 (tgCons (tgN 10) (tgCons (tgN 11) tgNil))) (mIfS (mTru oBool (mOpP ninA (mNm 11) (mPk 6))) (mSeq (mIfS (mTru oBool (mOp eqD (mC1 lenO (mPk 6)) (mQ (qC (.int 3000))))) mNo mNx)
  (mSeq (mSto sAny (mOp addD (mQ (qIx (qN 6) (qN 9))) (mTup (mDCons (mNm 10) mDNil))) (lN 6) (mNm 11))
  (mSeq (mIfS (mTru oTru (mCall f_within (mALend 11 (mALend 1 mANil)))) (mRet (mTup (mDCons (mC (.str "told")) (mDCons (mQ (qIx (qN 6) (qN 11))) mDNil)))) mNx)
  (mEx (mMet "list" (lN 7) (mCons (mNm 11) mNil) fAppend))))) mNx)))))
  (mRet (mTup (mDCons (mC (.str "kept")) (mDCons (mC1 tupO (mC1 sortedO (mPk 6))) mDNil)))))))))
def f_kept_secret : Fn := runF [true, true, true] 9 b_kept_secret
theorem ok_kept_secret {P : Program} {w : World} {K : PySem.W.Frag} {mg : Str → Option Value} {base : Heap} {f : Addr} {fd : FuncData} (F : FunZ K "kept_secret" "kept_secret" s_kept_secret f fd) (m_len : mg "len" = none) (m_sorted : mg "sorted" = none) (m_tuple : mg "tuple" = none) (g_MOST_SETS : ∃ u, mg "MOST_SETS" = some u ∧ RelV (.int 3000) u) (c_split_rows : ZC P w K mg base 1 "split_rows" f_split_rows []) (c_spread : ZC P w K mg base 1 "spread" f_spread []) (c_within : ZC P w K mg base 1 "within" f_within []) (c_set_steps : ZC P w K mg base 2 "set_steps" f_set_steps []) : FnZ P w K mg base CX0 3 f fd ["graph", "secret", "seen"] (spF base P w K 3 f_kept_secret) :=
  zFun (ks := [true, true, true]) (l := 9) (b := b_kept_secret) F sc_kept_secret rfl rfl fun cdv hc A outer s H E hr hG =>
  (zSeq (zAsgT (zC c_split_rows hr hG (zAVal (zQ (zqIx (z_hu hr) (zqN 0) zqInt)) (zALend 2 zANil))) (zgTup rfl (zgCons (zgN 3 sc_kept_secret.nd) (zgCons (zgN 4 sc_kept_secret.nd) zgNil))))
  (zSeq (zAsg 5 (zC c_spread hr hG (zALend 3 (zAVal (PEfz (zLst (zCons zInt zNil))) zANil))) sc_kept_secret.nd)
  (zSeq (zIf (zTru (PEpk (zC c_within hr hG (zALend 5 (zALend 1 zANil))))) (zEnd (zRet (zTup (zDCons zStr (zDCons (zTup zDNil) zDNil))))) zNx)
  (zSeq (zPar3 rfl (zCons (zDct1 (z_hu hr) (zNm 5) (zTup zDNil)) (zCons (zLst (zCons (zNm 5) zNil)) (zCons zInt zNil))) sc_kept_secret.nd)
  (zSeq (zWhile PassesOwn.never (zCmpT (zlt (z_hu hr)) (zNm 8) (zCB1 pLen m_len (by rfl) (zPk 7))) (zSeq (zAsg 9 (zQ (zqIx (z_hu hr) (zqN 7) (zqN 8))) sc_kept_secret.nd)
  (zSeq (zAug ip_add 8 zInt sc_kept_secret.nd)
  (zEnd (zFor PassesOwn.never rfl (ziA (zC c_set_steps hr hG (zALend 3 (zALend 4 (zALend 9 zANil))))) (zgTup rfl (zgCons (zgN 10 sc_kept_secret.nd) (zgCons (zgN 11 sc_kept_secret.nd) zgNil))) (zEnd (zIf (zCmpPT (zninA (z_hu hr)) (zNm 11) (zPk 6)) (zSeq (zIf (zCmpT (zeq (z_hu hr)) (zCB1 pLen m_len (by rfl) (zPk 6)) (zQ (zqGc (fun _ => .int _) g_MOST_SETS))) (zEnd zNever) zNx)
  (zSeq (zSto (zBin zadd (zQ (zqIx (z_hu hr) (zqN 6) (zqN 9))) (zTup (zDCons (zNm 10) zDNil))) (zlN 6) (zNm 11) (setAny (z_hu hr)))
  (zSeq (zIf (zTru (PEpk (zC c_within hr hG (zALend 11 (zALend 1 zANil))))) (zEnd (zRet (zTup (zDCons zStr (zDCons (zQ (zqIx (z_hu hr) (zqN 6) (zqN 11))) zDNil))))) zNx)
  (zEnd (zEx (zMet PySem.F.plainAttrs_list PySem.F.slot_list_append PySem.F.type_list_append oAppend (zlN 7) (zCons (zNm 11) zNil))))))) zNx)))))))
  (zEnd (zRet (zTup (zDCons zStr (zDCons (zCT1 pTup m_tuple (by rfl) (PEpk (zCB1 (pSorted rfl (z_hu hr)) m_sorted (by rfl) (zPk 6)))) zDNil))))))))))

/-! law -/
abbrev s_law : Stmt := topS 25
theorem sc_law : FnScope ["script", "deck", "names", "doors", "rows", "graph", "seen", "door", "odds", "secret", "k", "turn", "due", "kept"] ["script"] (defScope s_law) := ⟨rfl, rfl, rfl, by decide +kernel, rfl, by decide +kernel, by decide +kernel⟩
def b_law : M Out :=
  (mSeq (mAsg 1 (mCall f__law_deck (mALend 0 mANil)))
  (mSeq (mAsg 2 (mCall f__law_names (mALend 1 (mAVal (mC (.int 3)) (mAVal (mC (.bool true)) mANil)))))
  (mSeq (mAsg 3 (mCall f__law_doors (mALend 1 (mAVal (mCall f__law_names (mALend 1 (mAVal (mOp addD (mC (.int 1)) (mCall f__law_draw (mALend 1 (mAVal (mC (.int 3)) mANil)))) (mAVal (mC (.bool false)) mANil)))) (mAVal (mQ (qIx (qN 2) (qC (.int 0)))) (mAVal (mSl (mNm 2) (mOSo (mC (.int 1))) (mOSo (mC (.int 3)))) mANil))))))
  (mSeq (mAsg 4 (mCall f__law_world (mALend 1 (mAVal (mQ (qIx (qN 3) (qC (.int 2)))) mANil))))
  (mSeq (mIfS (mTru oBool (mOp ltD (mC1 lenO (mPk 4)) (mC (.int 5)))) (mFrS 4 (mAsg 4 (mCall f__law_fault (mALend 1 (mALend 4 mANil))))) mNx)
  (mSeq (mAsg 5 (mCall f__law_graph (mAVal (mTup (mDCons (mQ (qIx (qN 3) (qC (.int 0)))) (mDCons (mQ (qIx (qN 3) (qC (.int 1)))) (mDCons (mMv 4) mDNil)))) mANil)))
  (mSeq (mAsg 6 (mLc [7] (mItA (mOp addD (mQ (qIx (qN 3) (qC (.int 0)))) (mQ (qIx (qN 3) (qC (.int 1)))))) (tgN 7) (mTru oBool (mOp gtD (mCall f__law_draw (mALend 1 (mAVal (mC (.int 4)) mANil))) (mC (.int 0)))) (mQ (qIx (qN 7) (qC (.int 0))))))
  (mSeq (mFrS 6 (mAsg 8 (mOp addD (mC (.int 2)) (mCall f__law_draw (mALend 1 (mAVal (mC (.int 3)) mANil))))))
  (mSeq (mAsg 9 (mLc [10] (mRng1 (mC1 lenO (mQP (qIx (qN 5) (qC (.int 3)))))) (tgN 10) (mTru oBool (mOp gtD (mCall f__law_draw (mALend 1 (mALend 8 mANil))) (mC (.int 0)))) (mNm 10)))
  (mSeq (mIfS (mTru oBool (mOp eqD (mCall f__law_draw (mALend 1 (mAVal (mC (.int 2)) mANil))) (mC (.int 0)))) (mEx (mMet "list" (lN 9) mNil fReverse)) mNx)
  (mSeq (mFor (mRng1 (mC (.int 2))) (tgN 11) (mSeq (mAsg 12 (mCall f__law_secret (mAVal (mQ (qIx (qN 5) (qC (.int 3)))) (mALend 9 (mALend 6 (mAVal (mC (.int 3000)) mANil))))))
  (mSeq (mAsg 13 (mReprT (qCons (qN 5) (qCons (qN 9) (qCons (qN 6) qNil)))))
  (mSeq (mIfS (mOr (mTru oBool (mOp neD (mC1 reprO (mCall f_kept_secret (mALend 5 (mALend 9 (mAVal (mC1 tupO (mPk 6)) mANil))))) (mC1 reprO (mPk 12)))) (mTru oBool (mOp neD (mReprT (qCons (qN 5) (qCons (qN 9) (qCons (qN 6) qNil)))) (mNm 13)))) (mRet (mC (.bool false))) mNx)
  (mSeq (mIfS (mTru oBool (mOp neD (mC1 reprO (mCall f_kept_secret (mALend 5 (mAVal (mC1 tupO (mPk 9)) (mALend 6 mANil))))) (mC1 reprO (mPk 12)))) (mRet (mC (.bool false))) mNx)
  (mIfS (mTru oBool (mOp gtD (mC1 lenO (mPk 9)) (mC (.int 0)))) (mEx (mMet "list" (lN 9) (mCons (mCall f__law_draw (mALend 1 (mAVal (mC1 lenO (mPk 9)) mANil))) mNil) fPop)) mNx))))))
  (mRet (mC (.bool true))))))))))))))
def f_law : Fn := runF [true] 13 b_law
theorem ok_law {P : Program} {w : World} {K : PySem.W.Frag} {mg : Str → Option Value} {base : Heap} {f : Addr} {fd : FuncData} (F : FunZ K "law" "law" s_law f fd) (m_len : mg "len" = none) (m_range : mg "range" = none) (m_repr : mg "repr" = none) (m_tuple : mg "tuple" = none) (c__law_deck : ZC P w K mg base 1 "_law_deck" f__law_deck []) (c__law_names : ZC P w K mg base 2 "_law_names" f__law_names []) (c__law_doors : ZC P w K mg base 2 "_law_doors" f__law_doors []) (c__law_draw : ZC P w K mg base 1 "_law_draw" f__law_draw []) (c__law_world : ZC P w K mg base 3 "_law_world" f__law_world []) (c__law_fault : ZC P w K mg base 2 "_law_fault" f__law_fault []) (c__law_graph : ZC P w K mg base 2 "_law_graph" f__law_graph []) (c__law_secret : ZC P w K mg base 3 "_law_secret" f__law_secret []) (c_kept_secret : ZC P w K mg base 3 "kept_secret" f_kept_secret []) : FnZ P w K mg base CX0 4 f fd ["script"] (spF base P w K 1 f_law) :=
  zFun (ks := [true]) (l := 13) (b := b_law) F sc_law rfl rfl fun cdv hc A outer s H E hr hG =>
  (zSeq (zAsg 1 (zC c__law_deck hr hG (zALend 0 zANil)) sc_law.nd)
  (zSeq (zAsg 2 (zC c__law_names hr hG (zALend 1 (zAVal zInt (zAVal zBl zANil)))) sc_law.nd)
  (zSeq (zAsg 3 (zC c__law_doors hr hG (zALend 1 (zAVal (zC c__law_names hr hG (zALend 1 (zAVal (zBin zadd zInt (zC c__law_draw hr hG (zALend 1 (zAVal zInt zANil)))) (zAVal zBl zANil)))) (zAVal (zQ (zqIx (z_hu hr) (zqN 2) zqInt)) (zAVal (zSl (zNm 2) (zOSo zInt) (zOSo zInt)) zANil))))) sc_law.nd)
  (zSeq (zAsg 4 (zC c__law_world hr hG (zALend 1 (zAVal (zQ (zqIx (z_hu hr) (zqN 3) zqInt)) zANil))) sc_law.nd)
  (zSeq (zIf (zCmpT (zlt (z_hu hr)) (zCB1 pLen m_len (by rfl) (zPk 4)) zInt) (zEnd (zFrS1 (i := 4) (zAsg 4 (zC c__law_fault hr hG (zALend 1 (zALend 4 zANil))) sc_law.nd))) zNx)
  (zSeq (zAsg 5 (zC c__law_graph hr hG (zAVal (zTup (zDCons (zQ (zqIx (z_hu hr) (zqN 3) zqInt)) (zDCons (zQ (zqIx (z_hu hr) (zqN 3) zqInt)) (zDCons (zMv 4) zDNil)))) zANil)) sc_law.nd)
  (zSeq (zSetLc (i := 6) (own := [("door", 7)]) rfl sc_law.nd (blkOk_by rfl) rfl (ziA (zBin zadd (zQ (zqIx (z_hu hr) (zqN 3) zqInt)) (zQ (zqIx (z_hu hr) (zqN 3) zqInt)))) (fun _ _ _ _ _ => (zvN 7 sc_law.nd)) (fun _ _ _ _ _ => (zIfs (zCmpT (zgt (z_hu hr)) (zC c__law_draw hr hG (zALend 1 (zAVal zInt zANil))) zInt))) (fun _ _ _ _ _ => (zQ (zqIx (z_hu hr) (zqN 7) zqInt))))
  (zSeq (zFrS1 (i := 6) (zAsg 8 (zBin zadd zInt (zC c__law_draw hr hG (zALend 1 (zAVal zInt zANil)))) sc_law.nd))
  (zSeq (zSetLc (i := 9) (own := [("k", 10)]) rfl sc_law.nd (blkOk_by rfl) rfl (ziRng1 m_range (zCB1 pLen m_len (by rfl) (zQP (zqIx (z_hu hr) (zqN 5) zqInt)))) (fun _ _ _ _ _ => (zvN 10 sc_law.nd)) (fun _ _ _ _ _ => (zIfs (zCmpT (zgt (z_hu hr)) (zC c__law_draw hr hG (zALend 1 (zALend 8 zANil))) zInt))) (fun _ _ _ _ _ => (zNm 10)))
  (zSeq (zIf (zCmpT (zeq (z_hu hr)) (zC c__law_draw hr hG (zALend 1 (zAVal zInt zANil))) zInt) (zEnd (zEx (zMet0 PySem.F.plainAttrs_list PySem.F.slot_list_reverse PySem.F.type_list_reverse oReverse (zlN 9)))) zNx)
  (zSeq (zFor PassesOwn.never rfl (ziRng1 m_range zInt) (zgN 11 sc_law.nd) (zSeq (zAsg 12 (zC c__law_secret hr hG (zAVal (zQ (zqIx (z_hu hr) (zqN 5) zqInt)) (zALend 9 (zALend 6 (zAVal zInt zANil))))) sc_law.nd)
  (zSeq (zAsg 13 (zReprT hG (z_hu hr) m_repr (by rfl) (zqCons (zqN 5) (zqCons (zqN 9) (zqCons (zqN 6) zqNil)))) sc_law.nd)
  (zSeq (zIf (zOr (zCmpT (zne (z_hu hr)) (zCB1 (pRepr hG (z_hu hr)) m_repr (by rfl) (PEpk (zC c_kept_secret hr hG (zALend 5 (zALend 9 (zAVal (zCT1 pTup m_tuple (by rfl) (zPk 6)) zANil)))))) (zCB1 (pRepr hG (z_hu hr)) m_repr (by rfl) (zPk 12))) (zOr1 (zCmpT (zne (z_hu hr)) (zReprT hG (z_hu hr) m_repr (by rfl) (zqCons (zqN 5) (zqCons (zqN 9) (zqCons (zqN 6) zqNil)))) (zNm 13)))).pt (zEnd (zRet zBl)) zNx)
  (zSeq (zIf (zCmpT (zne (z_hu hr)) (zCB1 (pRepr hG (z_hu hr)) m_repr (by rfl) (PEpk (zC c_kept_secret hr hG (zALend 5 (zAVal (zCT1 pTup m_tuple (by rfl) (zPk 9)) (zALend 6 zANil)))))) (zCB1 (pRepr hG (z_hu hr)) m_repr (by rfl) (zPk 12))) (zEnd (zRet zBl)) zNx)
  (zEnd (zIf (zCmpT (zgt (z_hu hr)) (zCB1 pLen m_len (by rfl) (zPk 9)) zInt) (zEnd (zEx (zMet PySem.F.plainAttrs_list PySem.F.slot_list_pop PySem.F.type_list_pop oPop (zlN 9) (zCons (zC c__law_draw hr hG (zALend 1 (zAVal (zCB1 pLen m_len (by rfl) (zPk 9)) zANil))) zNil)))) zNx)))))))
  (zEnd (zRet zBl)))))))))))))
def genDefs : List Str := ["within"]
/-- all defs that the law comes to -/
theorem all_mk {P : Program} {w : World} {K : PySem.W.Frag} {mg : Str → Option Value} {base : Heap} {fa : Addr} (X : K.In base) (G : base.Ns mainGlobals mg) (hfa : mg "law" = some (.ref fa)) (TK : TabK K mg base genDefs)
    {f0 : Addr} {od0 an0 : Option Addr} {sl0 : Array (Option Value)} {oc0 kV0 dc0 pm0 cd0 ct0 : Value}
    (a0 : PySem.W.nsIn K mainGlobals "_law_deck" = some (some (.ref f0))) (l0 : K.lookup f0 = some ⟨oc0, od0, .func (PySem.W.fnOf "_law_deck" "_law_deck" (defArgs s__law_deck) (defBody s__law_deck) (defScope s__law_deck) .none kV0 dc0 pm0 an0 cd0 ct0), sl0⟩) (c0 : PySem.W.codeIn K cd0 "_law_deck" = true) (k0 : PySem.W.keepIn K (.ref f0) = true)
    {f1 : Addr} {od1 an1 : Option Addr} {sl1 : Array (Option Value)} {oc1 kV1 dc1 pm1 cd1 ct1 : Value}
    (a1 : PySem.W.nsIn K mainGlobals "_law_draw" = some (some (.ref f1))) (l1 : K.lookup f1 = some ⟨oc1, od1, .func (PySem.W.fnOf "_law_draw" "_law_draw" (defArgs s__law_draw) (defBody s__law_draw) (defScope s__law_draw) .none kV1 dc1 pm1 an1 cd1 ct1), sl1⟩) (c1 : PySem.W.codeIn K cd1 "_law_draw" = true) (k1 : PySem.W.keepIn K (.ref f1) = true)
    {f2 : Addr} {od2 an2 : Option Addr} {sl2 : Array (Option Value)} {oc2 kV2 dc2 pm2 cd2 ct2 : Value}
    (a2 : PySem.W.nsIn K mainGlobals "_law_names" = some (some (.ref f2))) (l2 : K.lookup f2 = some ⟨oc2, od2, .func (PySem.W.fnOf "_law_names" "_law_names" (defArgs s__law_names) (defBody s__law_names) (defScope s__law_names) .none kV2 dc2 pm2 an2 cd2 ct2), sl2⟩) (c2 : PySem.W.codeIn K cd2 "_law_names" = true) (k2 : PySem.W.keepIn K (.ref f2) = true)
    {f3 : Addr} {od3 an3 : Option Addr} {sl3 : Array (Option Value)} {oc3 kV3 dc3 pm3 cd3 ct3 : Value}
    (a3 : PySem.W.nsIn K mainGlobals "_law_met" = some (some (.ref f3))) (l3 : K.lookup f3 = some ⟨oc3, od3, .func (PySem.W.fnOf "_law_met" "_law_met" (defArgs s__law_met) (defBody s__law_met) (defScope s__law_met) .none kV3 dc3 pm3 an3 cd3 ct3), sl3⟩) (c3 : PySem.W.codeIn K cd3 "_law_met" = true) (k3 : PySem.W.keepIn K (.ref f3) = true)
    {f4 : Addr} {od4 an4 : Option Addr} {sl4 : Array (Option Value)} {oc4 kV4 dc4 pm4 cd4 ct4 : Value}
    (a4 : PySem.W.nsIn K mainGlobals "_law_events" = some (some (.ref f4))) (l4 : K.lookup f4 = some ⟨oc4, od4, .func (PySem.W.fnOf "_law_events" "_law_events" (defArgs s__law_events) (defBody s__law_events) (defScope s__law_events) .none kV4 dc4 pm4 an4 cd4 ct4), sl4⟩) (c4 : PySem.W.codeIn K cd4 "_law_events" = true) (k4 : PySem.W.keepIn K (.ref f4) = true)
    {f5 : Addr} {od5 an5 : Option Addr} {sl5 : Array (Option Value)} {oc5 kV5 dc5 pm5 cd5 ct5 : Value}
    (a5 : PySem.W.nsIn K mainGlobals "_law_rows" = some (some (.ref f5))) (l5 : K.lookup f5 = some ⟨oc5, od5, .func (PySem.W.fnOf "_law_rows" "_law_rows" (defArgs s__law_rows) (defBody s__law_rows) (defScope s__law_rows) .none kV5 dc5 pm5 an5 cd5 ct5), sl5⟩) (c5 : PySem.W.codeIn K cd5 "_law_rows" = true) (k5 : PySem.W.keepIn K (.ref f5) = true)
    {f6 : Addr} {od6 an6 : Option Addr} {sl6 : Array (Option Value)} {oc6 kV6 dc6 pm6 cd6 ct6 : Value}
    (a6 : PySem.W.nsIn K mainGlobals "_law_graph" = some (some (.ref f6))) (l6 : K.lookup f6 = some ⟨oc6, od6, .func (PySem.W.fnOf "_law_graph" "_law_graph" (defArgs s__law_graph) (defBody s__law_graph) (defScope s__law_graph) .none kV6 dc6 pm6 an6 cd6 ct6), sl6⟩) (c6 : PySem.W.codeIn K cd6 "_law_graph" = true) (k6 : PySem.W.keepIn K (.ref f6) = true)
    {f7 : Addr} {od7 an7 : Option Addr} {sl7 : Array (Option Value)} {oc7 kV7 dc7 pm7 cd7 ct7 : Value}
    (a7 : PySem.W.nsIn K mainGlobals "_law_doors" = some (some (.ref f7))) (l7 : K.lookup f7 = some ⟨oc7, od7, .func (PySem.W.fnOf "_law_doors" "_law_doors" (defArgs s__law_doors) (defBody s__law_doors) (defScope s__law_doors) .none kV7 dc7 pm7 an7 cd7 ct7), sl7⟩) (c7 : PySem.W.codeIn K cd7 "_law_doors" = true) (k7 : PySem.W.keepIn K (.ref f7) = true)
    {f8 : Addr} {od8 an8 : Option Addr} {sl8 : Array (Option Value)} {oc8 kV8 dc8 pm8 cd8 ct8 : Value}
    (a8 : PySem.W.nsIn K mainGlobals "_law_world" = some (some (.ref f8))) (l8 : K.lookup f8 = some ⟨oc8, od8, .func (PySem.W.fnOf "_law_world" "_law_world" (defArgs s__law_world) (defBody s__law_world) (defScope s__law_world) .none kV8 dc8 pm8 an8 cd8 ct8), sl8⟩) (c8 : PySem.W.codeIn K cd8 "_law_world" = true) (k8 : PySem.W.keepIn K (.ref f8) = true)
    {f9 : Addr} {od9 an9 : Option Addr} {sl9 : Array (Option Value)} {oc9 kV9 dc9 pm9 cd9 ct9 : Value}
    (a9 : PySem.W.nsIn K mainGlobals "_law_unseen" = some (some (.ref f9))) (l9 : K.lookup f9 = some ⟨oc9, od9, .func (PySem.W.fnOf "_law_unseen" "_law_unseen" (defArgs s__law_unseen) (defBody s__law_unseen) (defScope s__law_unseen) .none kV9 dc9 pm9 an9 cd9 ct9), sl9⟩) (c9 : PySem.W.codeIn K cd9 "_law_unseen" = true) (k9 : PySem.W.keepIn K (.ref f9) = true)
    {f10 : Addr} {od10 an10 : Option Addr} {sl10 : Array (Option Value)} {oc10 kV10 dc10 pm10 cd10 ct10 : Value}
    (a10 : PySem.W.nsIn K mainGlobals "_law_seen_by" = some (some (.ref f10))) (l10 : K.lookup f10 = some ⟨oc10, od10, .func (PySem.W.fnOf "_law_seen_by" "_law_seen_by" (defArgs s__law_seen_by) (defBody s__law_seen_by) (defScope s__law_seen_by) .none kV10 dc10 pm10 an10 cd10 ct10), sl10⟩) (c10 : PySem.W.codeIn K cd10 "_law_seen_by" = true) (k10 : PySem.W.keepIn K (.ref f10) = true)
    {f11 : Addr} {od11 an11 : Option Addr} {sl11 : Array (Option Value)} {oc11 kV11 dc11 pm11 cd11 ct11 : Value}
    (a11 : PySem.W.nsIn K mainGlobals "_law_secret" = some (some (.ref f11))) (l11 : K.lookup f11 = some ⟨oc11, od11, .func (PySem.W.fnOf "_law_secret" "_law_secret" (defArgs s__law_secret) (defBody s__law_secret) (defScope s__law_secret) .none kV11 dc11 pm11 an11 cd11 ct11), sl11⟩) (c11 : PySem.W.codeIn K cd11 "_law_secret" = true) (k11 : PySem.W.keepIn K (.ref f11) = true)
    {f12 : Addr} {od12 an12 : Option Addr} {sl12 : Array (Option Value)} {oc12 kV12 dc12 pm12 cd12 ct12 : Value}
    (a12 : PySem.W.nsIn K mainGlobals "_law_fault" = some (some (.ref f12))) (l12 : K.lookup f12 = some ⟨oc12, od12, .func (PySem.W.fnOf "_law_fault" "_law_fault" (defArgs s__law_fault) (defBody s__law_fault) (defScope s__law_fault) .none kV12 dc12 pm12 an12 cd12 ct12), sl12⟩) (c12 : PySem.W.codeIn K cd12 "_law_fault" = true) (k12 : PySem.W.keepIn K (.ref f12) = true)
    {f13 : Addr} {od13 an13 : Option Addr} {sl13 : Array (Option Value)} {oc13 dV13 kV13 dc13 pm13 cd13 ct13 : Value}
    (a13 : PySem.W.nsIn K mainGlobals "split_rows" = some (some (.ref f13))) (l13 : K.lookup f13 = some ⟨oc13, od13, .func (PySem.W.fnOf "split_rows" "split_rows" (defArgs s_split_rows) (defBody s_split_rows) (defScope s_split_rows) dV13 kV13 dc13 pm13 an13 cd13 ct13), sl13⟩) (c13 : PySem.W.codeIn K cd13 "split_rows" = true) (k13 : PySem.W.keepIn K (.ref f13) = true)
    {dD13 : Addr} {w13_0 : Value} {od13D : Option Addr} {cc13 : Value} {nn13 : Nat} {ss13 : Array (Option Value)} (dv13 : dV13 = .ref dD13) (ld13 : K.lookup dD13 = some ⟨cc13, od13D, .seq #[w13_0] nn13, ss13⟩)
    {f14 : Addr} {od14 an14 : Option Addr} {sl14 : Array (Option Value)} {oc14 kV14 dc14 pm14 cd14 ct14 : Value}
    (a14 : PySem.W.nsIn K mainGlobals "spread" = some (some (.ref f14))) (l14 : K.lookup f14 = some ⟨oc14, od14, .func (PySem.W.fnOf "spread" "spread" (defArgs s_spread) (defBody s_spread) (defScope s_spread) .none kV14 dc14 pm14 an14 cd14 ct14), sl14⟩) (c14 : PySem.W.codeIn K cd14 "spread" = true) (k14 : PySem.W.keepIn K (.ref f14) = true)
    {f15 : Addr} {od15 an15 : Option Addr} {sl15 : Array (Option Value)} {oc15 kV15 dc15 pm15 cd15 ct15 : Value}
    (a15 : PySem.W.nsIn K mainGlobals "set_steps" = some (some (.ref f15))) (l15 : K.lookup f15 = some ⟨oc15, od15, .func (PySem.W.fnOf "set_steps" "set_steps" (defArgs s_set_steps) (defBody s_set_steps) (defScope s_set_steps) .none kV15 dc15 pm15 an15 cd15 ct15), sl15⟩) (c15 : PySem.W.codeIn K cd15 "set_steps" = true) (k15 : PySem.W.keepIn K (.ref f15) = true)
    {f16 : Addr} {od16 an16 : Option Addr} {sl16 : Array (Option Value)} {oc16 kV16 dc16 pm16 cd16 ct16 : Value}
    (a16 : PySem.W.nsIn K mainGlobals "within" = some (some (.ref f16))) (l16 : K.lookup f16 = some ⟨oc16, od16, .func (PySem.W.fnOf "within" "within" (defArgs s_within) (defBody s_within) (defScope s_within) .none kV16 dc16 pm16 an16 cd16 ct16), sl16⟩) (c16 : PySem.W.codeIn K cd16 "within" = true) (k16 : PySem.W.keepIn K (.ref f16) = true)
    {t16 : Addr} {u16 : Addr} (tb16 : PySem.W.tabIn K "within" = some (t16, u16)) (ce16 : cd16 = .ref t16)
    {f17 : Addr} {od17 an17 : Option Addr} {sl17 : Array (Option Value)} {oc17 kV17 dc17 pm17 cd17 ct17 : Value}
    (a17 : PySem.W.nsIn K mainGlobals "kept_secret" = some (some (.ref f17))) (l17 : K.lookup f17 = some ⟨oc17, od17, .func (PySem.W.fnOf "kept_secret" "kept_secret" (defArgs s_kept_secret) (defBody s_kept_secret) (defScope s_kept_secret) .none kV17 dc17 pm17 an17 cd17 ct17), sl17⟩) (c17 : PySem.W.codeIn K cd17 "kept_secret" = true) (k17 : PySem.W.keepIn K (.ref f17) = true)
    {f18 : Addr} {od18 an18 : Option Addr} {sl18 : Array (Option Value)} {oc18 kV18 dc18 pm18 cd18 ct18 : Value}
    (a18 : PySem.W.nsIn K mainGlobals "law" = some (some (.ref f18))) (l18 : K.lookup f18 = some ⟨oc18, od18, .func (PySem.W.fnOf "law" "law" (defArgs s_law) (defBody s_law) (defScope s_law) .none kV18 dc18 pm18 an18 cd18 ct18), sl18⟩) (c18 : PySem.W.codeIn K cd18 "law" = true) (k18 : PySem.W.keepIn K (.ref f18) = true)
    (n_all : PySem.W.nsIn K mainGlobals "all" = some none)
    (n_int : PySem.W.nsIn K mainGlobals "int" = some none)
    (n_len : PySem.W.nsIn K mainGlobals "len" = some none)
    (n_list : PySem.W.nsIn K mainGlobals "list" = some none)
    (n_range : PySem.W.nsIn K mainGlobals "range" = some none)
    (n_repr : PySem.W.nsIn K mainGlobals "repr" = some none)
    (n_sorted : PySem.W.nsIn K mainGlobals "sorted" = some none)
    (n_tuple : PySem.W.nsIn K mainGlobals "tuple" = some none)
    {tk_MOST_SETS : Tok} (n_MOST_SETS : PySem.W.nsIn K mainGlobals "MOST_SETS" = some (some (.int 3000 tk_MOST_SETS))) :
    ∃ fd, (∀ (s : Shared) (u : Value), BindsTo s fd ⟨[u], []⟩ [("script", u)]) ∧ FnZ P w K mg base CX0 4 fa fd ["script"] (spF base P w K 1 f_law) := by
  have m_all := PySem.W.mg_none_of X G n_all
  have m_int := PySem.W.mg_none_of X G n_int
  have m_len := PySem.W.mg_none_of X G n_len
  have m_list := PySem.W.mg_none_of X G n_list
  have m_range := PySem.W.mg_none_of X G n_range
  have m_repr := PySem.W.mg_none_of X G n_repr
  have m_sorted := PySem.W.mg_none_of X G n_sorted
  have m_tuple := PySem.W.mg_none_of X G n_tuple
  have g_MOST_SETS : ∃ u, mg "MOST_SETS" = some u ∧ RelV (.int 3000) u := ⟨_, PySem.W.mg_of X G n_MOST_SETS, _, rfl⟩
  have o0 := ok__law_deck (P := P) (w := w) (mg := mg) (base := base) (fd := PySem.W.fnOf "_law_deck" "_law_deck" (defArgs s__law_deck) (defBody s__law_deck) (defScope s__law_deck) .none kV0 dc0 pm0 an0 cd0 ct0) ⟨k0, cd0, .none, kV0, dc0, pm0, ct0, oc0, od0, an0, sl0, c0, l0, rfl⟩ m_len m_list
  have z__law_deck : ZC P w K mg base 1 "_law_deck" f__law_deck [] := .all (PySem.W.mg_of X G a0) k0 o0 (fun _ _ h => runF_len h) fun us hl => match us, hl with | [_], _ => rfl
  have o1 := ok__law_draw (P := P) (w := w) (mg := mg) (base := base) (fd := PySem.W.fnOf "_law_draw" "_law_draw" (defArgs s__law_draw) (defBody s__law_draw) (defScope s__law_draw) .none kV1 dc1 pm1 an1 cd1 ct1) ⟨k1, cd1, .none, kV1, dc1, pm1, ct1, oc1, od1, an1, sl1, c1, l1, rfl⟩ m_int m_len m_range
  have z__law_draw : ZC P w K mg base 1 "_law_draw" f__law_draw [] := .all (PySem.W.mg_of X G a1) k1 o1 (fun _ _ h => runF_len h) fun us hl => match us, hl with | [_, _], _ => rfl
  have o2 := ok__law_names (P := P) (w := w) (mg := mg) (base := base) (fd := PySem.W.fnOf "_law_names" "_law_names" (defArgs s__law_names) (defBody s__law_names) (defScope s__law_names) .none kV2 dc2 pm2 an2 cd2 ct2) ⟨k2, cd2, .none, kV2, dc2, pm2, ct2, oc2, od2, an2, sl2, c2, l2, rfl⟩ m_int m_len m_range z__law_draw
  have z__law_names : ZC P w K mg base 2 "_law_names" f__law_names [] := .all (PySem.W.mg_of X G a2) k2 o2 (fun _ _ h => runF_len h) fun us hl => match us, hl with | [_, _, _], _ => rfl
  have o3 := ok__law_met (P := P) (w := w) (mg := mg) (base := base) (fd := PySem.W.fnOf "_law_met" "_law_met" (defArgs s__law_met) (defBody s__law_met) (defScope s__law_met) .none kV3 dc3 pm3 an3 cd3 ct3) ⟨k3, cd3, .none, kV3, dc3, pm3, ct3, oc3, od3, an3, sl3, c3, l3, rfl⟩ m_len m_range
  have z__law_met : ZC P w K mg base 1 "_law_met" f__law_met [] := .all (PySem.W.mg_of X G a3) k3 o3 (fun _ _ h => runF_len h) fun us hl => match us, hl with | [_], _ => rfl
  have o4 := ok__law_events (P := P) (w := w) (mg := mg) (base := base) (fd := PySem.W.fnOf "_law_events" "_law_events" (defArgs s__law_events) (defBody s__law_events) (defScope s__law_events) .none kV4 dc4 pm4 an4 cd4 ct4) ⟨k4, cd4, .none, kV4, dc4, pm4, ct4, oc4, od4, an4, sl4, c4, l4, rfl⟩ m_sorted
  have z__law_events : ZC P w K mg base 1 "_law_events" f__law_events [] := .all (PySem.W.mg_of X G a4) k4 o4 (fun _ _ h => runF_len h) fun us hl => match us, hl with | [_, _], _ => rfl
  have o5 := ok__law_rows (P := P) (w := w) (mg := mg) (base := base) (fd := PySem.W.fnOf "_law_rows" "_law_rows" (defArgs s__law_rows) (defBody s__law_rows) (defScope s__law_rows) .none kV5 dc5 pm5 an5 cd5 ct5) ⟨k5, cd5, .none, kV5, dc5, pm5, ct5, oc5, od5, an5, sl5, c5, l5, rfl⟩ m_int m_len m_range z__law_draw
  have z__law_rows : ZC P w K mg base 2 "_law_rows" f__law_rows [] := .all (PySem.W.mg_of X G a5) k5 o5 (fun _ _ h => runF_len h) fun us hl => match us, hl with | [_, _, _], _ => rfl
  have o6 := ok__law_graph (P := P) (w := w) (mg := mg) (base := base) (fd := PySem.W.fnOf "_law_graph" "_law_graph" (defArgs s__law_graph) (defBody s__law_graph) (defScope s__law_graph) .none kV6 dc6 pm6 an6 cd6 ct6) ⟨k6, cd6, .none, kV6, dc6, pm6, ct6, oc6, od6, an6, sl6, c6, l6, rfl⟩ m_sorted m_tuple z__law_met
  have z__law_graph : ZC P w K mg base 2 "_law_graph" f__law_graph [] := .all (PySem.W.mg_of X G a6) k6 o6 (fun _ _ h => runF_len h) fun us hl => match us, hl with | [_], _ => rfl
  have o7 := ok__law_doors (P := P) (w := w) (mg := mg) (base := base) (fd := PySem.W.fnOf "_law_doors" "_law_doors" (defArgs s__law_doors) (defBody s__law_doors) (defScope s__law_doors) .none kV7 dc7 pm7 an7 cd7 ct7) ⟨k7, cd7, .none, kV7, dc7, pm7, ct7, oc7, od7, an7, sl7, c7, l7, rfl⟩ z__law_draw
  have z__law_doors : ZC P w K mg base 2 "_law_doors" f__law_doors [] := .all (PySem.W.mg_of X G a7) k7 o7 (fun _ _ h => runF_len h) fun us hl => match us, hl with | [_, _, _, _], _ => rfl
  have o8 := ok__law_world (P := P) (w := w) (mg := mg) (base := base) (fd := PySem.W.fnOf "_law_world" "_law_world" (defArgs s__law_world) (defBody s__law_world) (defScope s__law_world) .none kV8 dc8 pm8 an8 cd8 ct8) ⟨k8, cd8, .none, kV8, dc8, pm8, ct8, oc8, od8, an8, sl8, c8, l8, rfl⟩ m_len m_range z__law_draw z__law_rows
  have z__law_world : ZC P w K mg base 3 "_law_world" f__law_world [] := .all (PySem.W.mg_of X G a8) k8 o8 (fun _ _ h => runF_len h) fun us hl => match us, hl with | [_, _], _ => rfl
  have o9 := ok__law_unseen (P := P) (w := w) (mg := mg) (base := base) (fd := PySem.W.fnOf "_law_unseen" "_law_unseen" (defArgs s__law_unseen) (defBody s__law_unseen) (defScope s__law_unseen) .none kV9 dc9 pm9 an9 cd9 ct9) ⟨k9, cd9, .none, kV9, dc9, pm9, ct9, oc9, od9, an9, sl9, c9, l9, rfl⟩ m_len m_list m_range m_sorted m_tuple
  have z__law_unseen : ZC P w K mg base 1 "_law_unseen" f__law_unseen [] := .all (PySem.W.mg_of X G a9) k9 o9 (fun _ _ h => runF_len h) fun us hl => match us, hl with | [_, _, _], _ => rfl
  have o10 := ok__law_seen_by (P := P) (w := w) (mg := mg) (base := base) (fd := PySem.W.fnOf "_law_seen_by" "_law_seen_by" (defArgs s__law_seen_by) (defBody s__law_seen_by) (defScope s__law_seen_by) .none kV10 dc10 pm10 an10 cd10 ct10) ⟨k10, cd10, .none, kV10, dc10, pm10, ct10, oc10, od10, an10, sl10, c10, l10, rfl⟩ z__law_unseen
  have z__law_seen_by : ZC P w K mg base 2 "_law_seen_by" f__law_seen_by [] := .all (PySem.W.mg_of X G a10) k10 o10 (fun _ _ h => runF_len h) fun us hl => match us, hl with | [_, _, _, _], _ => rfl
  have o11 := ok__law_secret (P := P) (w := w) (mg := mg) (base := base) (fd := PySem.W.fnOf "_law_secret" "_law_secret" (defArgs s__law_secret) (defBody s__law_secret) (defScope s__law_secret) .none kV11 dc11 pm11 an11 cd11 ct11) ⟨k11, cd11, .none, kV11, dc11, pm11, ct11, oc11, od11, an11, sl11, c11, l11, rfl⟩ m_len m_range m_sorted m_tuple z__law_events z__law_unseen z__law_seen_by
  have z__law_secret : ZC P w K mg base 3 "_law_secret" f__law_secret [] := .all (PySem.W.mg_of X G a11) k11 o11 (fun _ _ h => runF_len h) fun us hl => match us, hl with | [_, _, _, _], _ => rfl
  have o12 := ok__law_fault (P := P) (w := w) (mg := mg) (base := base) (fd := PySem.W.fnOf "_law_fault" "_law_fault" (defArgs s__law_fault) (defBody s__law_fault) (defScope s__law_fault) .none kV12 dc12 pm12 an12 cd12 ct12) ⟨k12, cd12, .none, kV12, dc12, pm12, ct12, oc12, od12, an12, sl12, c12, l12, rfl⟩ m_len m_range z__law_draw
  have z__law_fault : ZC P w K mg base 2 "_law_fault" f__law_fault [] := .all (PySem.W.mg_of X G a12) k12 o12 (fun _ _ h => runF_len h) fun us hl => match us, hl with | [_, _], _ => rfl
  have o13 := ok_split_rows (P := P) (w := w) (mg := mg) (base := base) (fd := PySem.W.fnOf "split_rows" "split_rows" (defArgs s_split_rows) (defBody s_split_rows) (defScope s_split_rows) dV13 kV13 dc13 pm13 an13 cd13 ct13) ⟨k13, cd13, dV13, kV13, dc13, pm13, ct13, oc13, od13, an13, sl13, c13, l13, rfl⟩
  have z_split_rows : ZC P w K mg base 1 "split_rows" f_split_rows [] := .allD (PySem.W.mg_of X G a13) k13 o13 (fun _ _ h => runF_len h) ld13 rfl dv13 fun us hl => match us, hl with | [_, _], _ => ⟨_, rfl, rfl⟩
  have o14 := ok_spread (P := P) (w := w) (mg := mg) (base := base) (fd := PySem.W.fnOf "spread" "spread" (defArgs s_spread) (defBody s_spread) (defScope s_spread) .none kV14 dc14 pm14 an14 cd14 ct14) ⟨k14, cd14, .none, kV14, dc14, pm14, ct14, oc14, od14, an14, sl14, c14, l14, rfl⟩ m_sorted m_tuple
  have z_spread : ZC P w K mg base 1 "spread" f_spread [] := .all (PySem.W.mg_of X G a14) k14 o14 (fun _ _ h => runF_len h) fun us hl => match us, hl with | [_, _], _ => rfl
  have o15 := ok_set_steps (P := P) (w := w) (mg := mg) (base := base) (fd := PySem.W.fnOf "set_steps" "set_steps" (defArgs s_set_steps) (defBody s_set_steps) (defScope s_set_steps) .none kV15 dc15 pm15 an15 cd15 ct15) ⟨k15, cd15, .none, kV15, dc15, pm15, ct15, oc15, od15, an15, sl15, c15, l15, rfl⟩ m_sorted z_spread
  have z_set_steps : ZC P w K mg base 2 "set_steps" f_set_steps [] := .all (PySem.W.mg_of X G a15) k15 o15 (fun _ _ h => runF_len h) fun us hl => match us, hl with | [_, _, _], _ => rfl
  obtain ⟨tt16, tm16⟩ := TK "within" (by decide) _ _ tb16
  have o16 := ok_within (P := P) (w := w) (mg := mg) (base := base) (fd := PySem.W.fnOf "within" "within" (defArgs s_within) (defBody s_within) (defScope s_within) .none kV16 dc16 pm16 an16 cd16 ct16) ⟨k16, cd16, .none, kV16, dc16, pm16, ct16, oc16, od16, an16, sl16, c16, l16, rfl⟩ tt16 tm16 ce16 m_all
  have z_within : ZC P w K mg base 1 "within" f_within [] := .all (PySem.W.mg_of X G a16) k16 o16 (fun _ _ h => runF_len h) fun us hl => match us, hl with | [_, _], _ => rfl
  have o17 := ok_kept_secret (P := P) (w := w) (mg := mg) (base := base) (fd := PySem.W.fnOf "kept_secret" "kept_secret" (defArgs s_kept_secret) (defBody s_kept_secret) (defScope s_kept_secret) .none kV17 dc17 pm17 an17 cd17 ct17) ⟨k17, cd17, .none, kV17, dc17, pm17, ct17, oc17, od17, an17, sl17, c17, l17, rfl⟩ m_len m_sorted m_tuple g_MOST_SETS z_split_rows z_spread z_within z_set_steps
  have z_kept_secret : ZC P w K mg base 3 "kept_secret" f_kept_secret [] := .all (PySem.W.mg_of X G a17) k17 o17 (fun _ _ h => runF_len h) fun us hl => match us, hl with | [_, _, _], _ => rfl
  have o18 := ok_law (P := P) (w := w) (mg := mg) (base := base) (fd := PySem.W.fnOf "law" "law" (defArgs s_law) (defBody s_law) (defScope s_law) .none kV18 dc18 pm18 an18 cd18 ct18) ⟨k18, cd18, .none, kV18, dc18, pm18, ct18, oc18, od18, an18, sl18, c18, l18, rfl⟩ m_len m_range m_repr m_tuple z__law_deck z__law_names z__law_doors z__law_draw z__law_world z__law_fault z__law_graph z__law_secret z_kept_secret
  have e := hfa.symm.trans (PySem.W.mg_of X G a18)
  cases e
  exact ⟨_, fun s v => .of_eq rfl, o18⟩
-- tactics: a0 l0 c0 k0 a1 l1 c1 k1 a2 l2 c2 k2 a3 l3 c3 k3 a4 l4 c4 k4 a5 l5 c5 k5 a6 l6 c6 k6 a7 l7 c7 k7 a8 l8 c8 k8 a9 l9 c9 k9 a10 l10 c10 k10 a11 l11 c11 k11 a12 l12 c12 k12 a13 l13 c13 k13 dv13 ld13 a14 l14 c14 k14 a15 l15 c15 k15 a16 l16 c16 k16 tb16 ce16 a17 l17 c17 k17 a18 l18 c18 k18 n_all n_int n_len n_list n_range n_repr n_sorted n_tuple n_MOST_SETS
end
end K78
set_option Elab.async false
set_option linter.all false
/-! P0: what a mirror gives, by what is wanted behind it. -/
namespace Z
open PySem PySem.Spec PyProof.Rows L2
/-- m runs at ev and what it gives is as wanted -/
def wp {α : Type} (m : M α) (ev : Ev) (Q : α → Ev → Prop) : Prop := ∃ a e, m ev = some (a, e) ∧ Q a e
section
variable {α : Type} {ev : Ev} {m m' : M Out} {me ma mb : M O} {mc : M Bool} {Q : Out → Ev → Prop} {R : O → Ev → Prop}
theorem wp.mono {m : M α} {Q Q' : α → Ev → Prop} (h : wp m ev Q) (i : ∀ a e, Q a e → Q' a e) : wp m ev Q' := let ⟨a, e, h1, h2⟩ := h; ⟨a, e, h1, i a e h2⟩
theorem wp_seq (h : wp m ev fun o e => match o with
    | .nx => wp m' e Q
    | o => Q o e) : wp (mSeq m m') ev Q := by
  obtain ⟨o, e, h1, h2⟩ := h
  unfold wp mSeq
  rw [h1]
  cases o with
  | nx => exact h2
  | _ => exact ⟨_, _, rfl, h2⟩
theorem wp_nx (h : Q .nx ev) : wp mNx ev Q := ⟨_, _, rfl, h⟩
theorem wp_ret (h : wp me ev fun o e => Q (.rt o) e) : wp (mRet me) ev Q := by
  obtain ⟨o, e, h1, h2⟩ := h
  refine ⟨.rt o, e, ?_, h2⟩
  unfold mRet
  rw [h1]
  rfl
theorem wp_asg {i : Nat} (h : wp me ev fun o e => ∃ e', mPut i o e = some e' ∧ Q .nx e') : wp (mAsg i me) ev Q := by
  obtain ⟨o, e, h1, e', h2, h3⟩ := h
  refine ⟨.nx, e', ?_, h3⟩
  unfold mAsg
  rw [h1, Option.bind_some, h2]
  rfl
theorem wp_if (h : wp mc ev fun b e => if b = true then wp m e Q else wp m' e Q) : wp (mIfS mc m m') ev Q := by
  obtain ⟨b, e, h1, h2⟩ := h
  unfold wp mIfS
  rw [h1, Option.bind_some]
  cases b with
  | true => exact h2
  | false => exact h2
/-- a for loop: I holds of the items that are left and the slots -/
theorem forL_wp {t : PyData → Ev → Option Ev} {b : M Out} {I : List PyData → Ev → Prop} (hend : ∀ e, I [] e → Q .nx e)
    (step : ∀ d ds e, I (d :: ds) e → ∃ e1, t d e = some e1 ∧ wp b e1 fun o e2 => match o with
      | .nx => I ds (mask e e2)
      | .ct => I ds (mask e e2)
      | .bk => Q .nx (mask e e2)
      | .rt r => Q (.rt r) e2) : ∀ (ds : List PyData) (e : Ev), I ds e → wp (forL t b ds) e Q
  | [], e, h => ⟨_, _, rfl, hend e h⟩
  | d :: ds, e, h => by
    obtain ⟨e1, h1, o, e2, h2, h3⟩ := step d ds e h
    unfold wp forL
    simp only [h1, Option.bind_some, h2]
    cases o with
    | nx => exact forL_wp hend step ds _ h3
    | ct => exact forL_wp hend step ds _ h3
    | bk => exact ⟨_, _, rfl, h3⟩
    | rt r => exact ⟨_, _, rfl, h3⟩
theorem wp_for {mi : M (List PyData)} {t : PyData → Ev → Option Ev} {b : M Out} (I : List PyData → Ev → Prop) (h : wp mi ev I) (hend : ∀ e, I [] e → Q .nx e)
    (step : ∀ d ds e, I (d :: ds) e → ∃ e1, t d e = some e1 ∧ wp b e1 fun o e2 => match o with
      | .nx => I ds (mask e e2)
      | .ct => I ds (mask e e2)
      | .bk => Q .nx (mask e e2)
      | .rt r => Q (.rt r) e2) : wp (mFor mi t b) ev Q := by
  obtain ⟨ds, e, h1, h2⟩ := h
  obtain ⟨o, e2, h3, h4⟩ := forL_wp hend step ds e h2
  refine ⟨o, e2, ?_, h4⟩
  unfold mFor
  rw [h1, Option.bind_some]
  exact h3
/-- a while loop: I holds of what is left (a measure) and the slots -/
theorem whileN_wp {b : M Out} {I : Nat → Ev → Prop}
    (step : ∀ n e, I n e → wp mc e fun c e1 => if c = true then wp b e1 (fun o e2 => match o with
      | .nx => ∃ k, k < n ∧ I k (mask e e2)
      | .ct => ∃ k, k < n ∧ I k (mask e e2)
      | .bk => Q .nx (mask e e2)
      | .rt r => Q (.rt r) e2) else Q .nx e1) : ∀ (n : Nat) (e : Ev), I n e → ∃ k, wp (whileN mc b k) e Q := by
  intro n
  induction n using Nat.strongRecOn with
  | ind n ih =>
    intro e h
    obtain ⟨c, e1, h1, h2⟩ := step n e h
    cases c with
    | false => exact ⟨1, .nx, e1, by simp [whileN, h1], h2⟩
    | true =>
      obtain ⟨o, e2, h3, h4⟩ := h2
      cases o with
      | nx =>
        obtain ⟨k, hk, hI⟩ := h4
        obtain ⟨j, o', e', q1, q2⟩ := ih k hk _ hI
        exact ⟨j + 1, o', e', by simp [whileN, h1, h3, q1], q2⟩
      | ct =>
        obtain ⟨k, hk, hI⟩ := h4
        obtain ⟨j, o', e', q1, q2⟩ := ih k hk _ hI
        exact ⟨j + 1, o', e', by simp [whileN, h1, h3, q1], q2⟩
      | bk => exact ⟨1, _, _, by simp [whileN, h1, h3], h4⟩
      | rt r => exact ⟨1, _, _, by simp [whileN, h1, h3], h4⟩
theorem wp_while {b : M Out} (I : Nat → Ev → Prop) (n : Nat) (h : I n ev)
    (step : ∀ n e, I n e → wp mc e fun c e1 => if c = true then wp b e1 (fun o e2 => match o with
      | .nx => ∃ k, k < n ∧ I k (mask e e2)
      | .ct => ∃ k, k < n ∧ I k (mask e e2)
      | .bk => Q .nx (mask e e2)
      | .rt r => Q (.rt r) e2) else Q .nx e1) : wp (mWhile mc b) ev Q := by
  obtain ⟨k, o, e, h1, h2⟩ := whileN_wp step n ev h
  exact ⟨o, e, mWhile_of h1, h2⟩
end
end Z
set_option Elab.async false
set_option linter.all false
set_option maxRecDepth 100000
/-! P1: the deck and its draws. -/
namespace K78
open PySem PySem.Spec PyProof.Rows L2 Z
def oi (i : Int) : O := .dat (.int i)
/-- a deck: cells, place, the open cell, two seeds -/
def deckO (cs : List Int) (p a b c : Int) : O := .lst [.lst (cs.map oi), oi p, oi a, oi b, oi c]
theorem deck_ok (ns : List Int) (h : ns.length ≤ sizeLine) : f__law_deck [scr ns] = some (deckO ns 0 0 7 (1 + (ns.length : Int)), [some (scr ns)]) := by
  unfold f__law_deck runF b__law_deck
  simp [enter, scr, mRet, mLst, mCons, mNil, mC, mC1, mPk, mOp, Sl.see, listO, items, lenO, addD, oI, deckO, oi, leave, O.data, sizeLine]
end K78
set_option Elab.async false
set_option linter.all false
set_option maxRecDepth 100000
/-! P2: the draw. -/
namespace K78
open PySem PySem.Spec PyProof.Rows L2 Z
def tailD : M Out :=
  (mSeq (mSto sAny (mOp (onI fun i j => if 0 < j then oI (i % j) else none) (mC1 intO (mOp addD (mOp addD (mOp (onI fun i j => if small i || small j then oI (i * j) else none) (mQ (qIx (qN 0) (qC (.int 3)))) (mC (.int 16807))) (mQ (qIx (qN 0) (qC (.int 4))))) (mC (.int 12345)))) (mC (.int 2147483647))) (lN 0) (mC (.int 3)))
  (mSeq (mSto sAny (mOp (onI fun i j => if 0 < j then oI (i % j) else none) (mC1 intO (mOp addD (mOp addD (mOp (onI fun i j => if small i || small j then oI (i * j) else none) (mQ (qIx (qN 0) (qC (.int 4)))) (mC (.int 40692))) (mOp (onI fun i j => if 0 < j ∧ j < 1073741824 then oI (i / j) else none) (mQ (qIx (qN 0) (qC (.int 3)))) (mC (.int 7)))) (mC (.int 1)))) (mC (.int 2147483399))) (lN 0) (mC (.int 4)))
  (mRet (mOp (onI fun i j => if 0 < j then oI (i % j) else none) (mOp (onI fun i j => if 0 < j ∧ j < 1073741824 then oI (i / j) else none) (mC1 intO (mOp addD (mQ (qIx (qN 0) (qC (.int 3)))) (mQ (qIx (qN 0) (qC (.int 4)))))) (mC (.int 13))) (mNm 1)))))
theorem tail_ok {cs : List Int} {p a b c m : Int} {s2 s3 : Sl} (h : 0 < m) : ∃ b' c', tailD [.par (deckO cs p a b c), .par (oi m), s2, s3] = some (.rt (oi ((b' + c') / 13 % m)), [.par (deckO cs p a b' c'), .par (oi m), s2, s3]) := by
  refine ⟨(b * 16807 + c + 12345) % 2147483647, (c * 40692 + (b * 16807 + c + 12345) % 2147483647 / 7 + 1) % 2147483399, ?_⟩
  unfold tailD
  simp [at1, put1, atI, ixN, mSeq, mSto, mOp, onI, mC1, mC, mQ, qIx, qN, qC, Sl.see, deckO, oi, O.data, ixA, small, oI, addD, intO, lN, vw1, Sl.tree, atP, putP, isRo, sAny, sLst, mNx, mRet, mNm, h]
end K78
set_option Elab.async false
set_option linter.all false
set_option maxRecDepth 100000
/-! P3: the draw's loop. -/
namespace K78
open PySem PySem.Spec PyProof.Rows L2 Z
def bodyD : M Out :=
  (mSeq (mIfS (mTru oBool (mOp gtD (mQ (qIx (qN 0) (qC (.int 2)))) (mC (.int 1)))) (mSeq (mAsg 3 (mQ (qIx (qN 0) (qC (.int 2)))))
  (mSeq (mSto sAny (mOp (onI fun i j => if 0 < j ∧ j < 1073741824 then oI (i / j) else none) (mNm 3) (mNm 1)) (lN 0) (mC (.int 2)))
  (mRet (mOp (onI fun i j => if 0 < j then oI (i % j) else none) (mC1 intO (mPk 3)) (mNm 1))))) mNx)
  (mSeq (mIfS (mTru oBool (mOp geD (mQ (qIx (qN 0) (qC (.int 1)))) (mC1 lenO (mQP (qIx (qN 0) (qC (.int 0))))))) (mOut .bk) mNx)
  (mSeq (mAsg 3 (mQ (qIx (qIx (qN 0) (qC (.int 0))) (qIx (qN 0) (qC (.int 1))))))
  (mSeq (mSto sAny (mOp addD (mQ (qIx (qN 0) (qC (.int 1)))) (mC (.int 1))) (lN 0) (mC (.int 1)))
  (mSeq (mIfS (mTru oBool (mOp ltD (mNm 3) (mOp (onI fun i j => if 0 ≤ j ∧ j ≤ 1000000 ∧ i.natAbs < 2 ^ 64 then oI (i ^ j.toNat) else none) (mC (.int 10)) (mC (.int 18))))) (mSeq (mSto sAny (mOp (onI fun i j => if 0 < j then oI (i % j) else none) (mC1 intO (mOp addD (mOp addD (mOp (onI fun i j => if small i || small j then oI (i * j) else none) (mQ (qIx (qN 0) (qC (.int 3)))) (mC (.int 48271))) (mOp (onI fun i j => if small i || small j then oI (i * j) else none) (mNm 3) (mC (.int 69621)))) (mC (.int 17)))) (mC (.int 2147483647))) (lN 0) (mC (.int 3)))
  (mOut .bk)) mNx)
  (mSto sAny (mOp (onI fun i j => oI (i - j)) (mNm 3) (mOp (onI fun i j => if 0 ≤ j ∧ j ≤ 1000000 ∧ i.natAbs < 2 ^ 64 then oI (i ^ j.toNat) else none) (mC (.int 10)) (mC (.int 18)))) (lN 0) (mC (.int 2))))))))
theorem body_a {cs : List Int} {p a b c m : Int} {s2 : Sl} (h : 0 < m) (h2 : m < 1073741824) (ha : 1 < a) : bodyD [.par (deckO cs p a b c), .par (oi m), s2, .un] = some (.rt (oi (a % m)), [.par (deckO cs p (a / m) b c), .par (oi m), s2, .var (oi a)]) := by
  unfold bodyD
  simp [at1, put1, atI, ixN, mSeq, mSto, mOp, onI, mC1, mC, mQ, qIx, qN, qC, Sl.see, deckO, oi, O.data, ixA, small, oI, addD, intO, lN, vw1, Sl.tree, atP, putP, isRo, sAny, sLst, mNx, mRet, mNm, mIfS, mTru, oBool, gtD, ordD, oB, mAsg, mPut, mPk, h, h2, ha]
theorem body_b {cs : List Int} {p a b c m : Int} {s2 : Sl} (hl : cs.length < 1000) (ha : ¬ 1 < a) (hp : (cs.length : Int) ≤ p) : bodyD [.par (deckO cs p a b c), .par (oi m), s2, .un] = some (.bk, [.par (deckO cs p a b c), .par (oi m), s2, .un]) := by
  unfold bodyD
  simp [at1, put1, atI, ixN, mSeq, mSto, mOp, onI, mC1, mC, mQ, mQP, qIx, qN, qC, Sl.see, deckO, oi, O.data, ixA, small, oI, addD, intO, lN, vw1, Sl.tree, atP, putP, isRo, sAny, sLst, mNx, mRet, mNm, mIfS, mTru, oBool, gtD, geD, ordD, oB, mAsg, mPut, mPk, lenO, mOut, ha, hp]
theorem body_c {cs : List Int} {a b c m x : Int} {p : Nat} {s2 : Sl} (hl : cs.length < 1000) (ha : ¬ 1 < a) (hp : cs[p]? = some x) (hx : x < 1000000000000000000) : bodyD [.par (deckO cs p a b c), .par (oi m), s2, .un] = some (.bk, [.par (deckO cs (p + 1) a ((b * 48271 + x * 69621 + 17) % 2147483647) c), .par (oi m), s2, .var (oi x)]) := by
  obtain ⟨hlt, rfl⟩ := List.getElem?_eq_some_iff.mp hp
  have h1 : ¬ (cs.length : Int) ≤ (p : Int) := by omega
  have h2 : (p : Int) < (cs.length : Int) := by omega
  unfold bodyD
  simp [at1, put1, atI, ixN, mSeq, mSto, mOp, onI, mC1, mC, mQ, mQP, qIx, qN, qC, Sl.see, deckO, oi, O.data, ixA, small, oI, addD, intO, lN, vw1, Sl.tree, atP, putP, isRo, sAny, sLst, mNx, mRet, mNm, mIfS, mTru, oBool, gtD, geD, ltD, ordD, oB, mAsg, mPut, mPk, lenO, mOut, ha, h1, h2, hlt, hp, hx]
theorem body_d {cs : List Int} {a b c m x : Int} {p : Nat} {s2 : Sl} (hl : cs.length < 1000) (ha : ¬ 1 < a) (hp : cs[p]? = some x) (hx : ¬ x < 1000000000000000000) : bodyD [.par (deckO cs p a b c), .par (oi m), s2, .un] = some (.nx, [.par (deckO cs (p + 1) (x - 1000000000000000000) b c), .par (oi m), s2, .var (oi x)]) := by
  obtain ⟨hlt, rfl⟩ := List.getElem?_eq_some_iff.mp hp
  have h1 : ¬ (cs.length : Int) ≤ (p : Int) := by omega
  have h2 : (p : Int) < (cs.length : Int) := by omega
  unfold bodyD
  simp [at1, put1, atI, ixN, mSeq, mSto, mOp, onI, mC1, mC, mQ, mQP, qIx, qN, qC, Sl.see, deckO, oi, O.data, ixA, small, oI, addD, intO, lN, vw1, Sl.tree, atP, putP, isRo, sAny, sLst, mNx, mRet, mNm, mIfS, mTru, oBool, gtD, geD, ltD, ordD, oB, mAsg, mPut, mPk, lenO, mOut, ha, h1, h2, hlt, hx]
end K78
set_option Elab.async false
set_option linter.all false
set_option maxRecDepth 100000
/-! Y1: the combinators by simp; data and own lists of typed things. -/
namespace Z
open PySem PySem.Spec PyProof.Rows L2
theorem wp_of {α : Type} {m : M α} {ev : Ev} {a : α} {e : Ev} {Q : α → Ev → Prop} (h : m ev = some (a, e)) (q : Q a e) : wp m ev Q := ⟨a, e, h, q⟩
@[simp high] theorem e_bind {α β : Type} {a : α} {f : α → Option β} : (some a).bind f = f a := id rfl
@[simp high] theorem e_bind0 {α β : Type} {f : α → Option β} : (none : Option α).bind f = none := id rfl
@[simp high] theorem e_map {α β : Type} {a : α} {f : α → β} : (some a).map f = some (f a) := id rfl
def seqK (r : Option (Out × Ev)) (m' : M Out) : Option (Out × Ev) := match r with
  | some (.nx, e1) => m' e1
  | r => r
@[simp high] theorem seqK_nx {e : Ev} {m' : M Out} : seqK (some (.nx, e)) m' = m' e := id rfl
@[simp high] theorem seqK_rt {e : Ev} {o : O} {m' : M Out} : seqK (some (.rt o, e)) m' = some (.rt o, e) := id rfl
@[simp high] theorem seqK_bk {e : Ev} {m' : M Out} : seqK (some (.bk, e)) m' = some (.bk, e) := id rfl
@[simp high] theorem seqK_ct {e : Ev} {m' : M Out} : seqK (some (.ct, e)) m' = some (.ct, e) := id rfl
/-- a size that fits -/
def fitS {α : Type} (n : Nat) (x : Option α) : Option α := if n ≤ sizeLine then x else none
@[simp] theorem fitS_ok {α : Type} {n : Nat} {x : Option α} (h : n ≤ 1000000) : fitS n x = x := if_pos (by have := PySem.sizeLine_eq; omega)
@[simp] theorem e_sub {a b : Int} : subD (.int a) (.int b) = some (.dat (.int (a - b))) := id rfl
@[simp] theorem e_mul {a b : Int} (h : small a = true ∨ small b = true) : mulD (.int a) (.int b) = some (.dat (.int (a * b))) := if_pos (by simpa using h)
@[simp] theorem e_div {a b : Int} (h : 0 < b) (h2 : b < 1073741824) : divD (.int a) (.int b) = some (.dat (.int (a / b))) := if_pos ⟨h, h2⟩
@[simp] theorem e_mod {a b : Int} (h : 0 < b) : modD (.int a) (.int b) = some (.dat (.int (a % b))) := if_pos h
theorem small_nat {n : Nat} (h : n ≤ 1000000) : small (n : Int) = true := decide_eq_true ⟨by omega, by omega⟩
section
variable {α : Type} {ev : Ev} {m m' : M Out} {ma mb : M O} {mc md : M Bool} {i : Nat}
@[simp] theorem e_seq : mSeq m m' ev = seqK (m ev) m' := id rfl
@[simp] theorem e_nx : mNx ev = some (.nx, ev) := id rfl
@[simp] theorem e_out {o : Out} : mOut o ev = some (o, ev) := id rfl
@[simp] theorem e_ret : mRet ma ev = (ma ev).map fun p => (.rt p.1, p.2) := id rfl
@[simp] theorem e_ex : mEx ma ev = (ma ev).map fun p => (.nx, p.2) := id rfl
@[simp] theorem e_ifs : mIfS mc m m' ev = (mc ev).bind fun p => if p.1 = true then m p.2 else m' p.2 := id rfl
@[simp] theorem e_asg : mAsg i ma ev = (ma ev).bind fun p => (mPut i p.1 p.2).map fun e => (.nx, e) := id rfl
@[simp] theorem e_asgT {t : PyData → Ev → Option Ev} : mAsgT t ma ev = (ma ev).bind fun p => (t p.1.data p.2).map fun e => (.nx, e) := id rfl
@[simp] theorem e_par {js : List Nat} {ms : M (List O)} : mPar js ms ev = (ms ev).bind fun p => (putAll js p.1 p.2).map fun e => (.nx, e) := id rfl
@[simp] theorem e_put {o : O} : mPut i o ev = (match ev[i]? with
  | some .un => some (ev.set i (.var o))
  | some (.var _) => some (ev.set i (.var o))
  | _ => none) := id rfl
@[simp] theorem e_pa0 : putAll [] [] ev = some ev := id rfl
@[simp] theorem e_pa1 {js : List Nat} {o : O} {os : List O} : putAll (i :: js) (o :: os) ev = (mPut i o ev).bind fun e => putAll js os e := id rfl
@[simp] theorem e_c {d : PyData} : mC d ev = some (.dat d, ev) := id rfl
@[simp] theorem e_nm : mNm i ev = (match ev[i]?.bind Sl.see with
  | some (.dat d) => some (.dat d, ev)
  | some o => match ev[i]? with
    | some (.var _) => some (.dat o.data, ev.set i (.var (.dat o.data)))
    | some (.par _) => some (.dat o.data, ev.set i (.par (.dat o.data)))
    | _ => none
  | none => none) := id rfl
@[simp] theorem e_mv : mMv i ev = (match ev[i]? with
  | some (.var (.dat d)) => some (.dat d, ev)
  | some (.par (.dat d)) => some (.dat d, ev)
  | some (.ro (.dat d)) => some (.dat d, ev)
  | some (.var o) => some (o, ev.set i .un)
  | _ => none) := id rfl
@[simp] theorem e_pk : mPk i ev = (ev[i]?.bind Sl.see).map fun o => (o, ev) := id rfl
@[simp] theorem e_op {g : PyData → PyData → Option O} : mOp g ma mb ev = (ma ev).bind fun p => (mb p.2).bind fun q => (g p.1.data q.1.data).map fun o => (o, q.2) := id rfl
@[simp] theorem e_opP {g : PyData → O → Option O} : mOpP g ma mb ev = (ma ev).bind fun p => (mb p.2).bind fun q => (g p.1.data q.1).map fun o => (o, q.2) := id rfl
@[simp] theorem e_tru {f : O → Option Bool} : mTru f ma ev = (ma ev).bind fun p => (f p.1).map fun b => (b, p.2) := id rfl
@[simp] theorem e_and : mAnd mc md ev = (mc ev).bind fun p => if p.1 = true then md p.2 else some (false, p.2) := id rfl
@[simp] theorem e_or : mOr mc md ev = (mc ev).bind fun p => if p.1 = true then some (true, p.2) else md p.2 := id rfl
@[simp] theorem e_not : mNot mc ev = (mc ev).map fun p => (!p.1, p.2) := id rfl
@[simp] theorem e_yes : mYes ev = some (true, ev) := id rfl
@[simp] theorem e_mif : mIf mc ma mb ev = (mc ev).bind fun p => if p.1 = true then ma p.2 else mb p.2 := id rfl
@[simp] theorem e_fz : mFz ma ev = (ma ev).map fun p => (.dat p.1.data, p.2) := id rfl
@[simp] theorem e_frS : mFrS i m ev = (frzE i ev).bind m := id rfl
@[simp] theorem e_frz : frzE i ev = (match ev[i]? with
  | some (.var o) => some (ev.set i (.var (.dat o.data)))
  | _ => none) := id rfl
@[simp] theorem e_nil : mNil ev = some ([], ev) := id rfl
@[simp] theorem e_cons {ms : M (List O)} : mCons ma ms ev = (ma ev).bind fun p => (ms p.2).map fun q => (p.1 :: q.1, q.2) := id rfl
@[simp] theorem e_dnil : mDNil ev = some ([], ev) := id rfl
@[simp] theorem e_dcons {ms : M (List PyData)} : mDCons ma ms ev = (ma ev).bind fun p => (ms p.2).map fun q => (p.1.data :: q.1, q.2) := id rfl
@[simp] theorem e_anil : mANil ev = some ([], ev) := id rfl
@[simp] theorem e_aval {ms : M (List (Sum Nat O))} : mAVal ma ms ev = (ma ev).bind fun p => (ms p.2).map fun q => (.inr p.1 :: q.1, q.2) := id rfl
@[simp] theorem e_alend {ms : M (List (Sum Nat O))} : mALend i ms ev = (ev[i]?.bind Sl.see).bind fun o => (ms ev).map fun q => ((match o with
  | .dat d => .inr (.dat d)
  | _ => .inl i) :: q.1, q.2) := id rfl
@[simp] theorem e_lst {ms : M (List O)} : mLst ms ev = (ms ev).bind fun p => fitS p.1.length (some (.lst p.1, p.2)) := id rfl
@[simp] theorem e_tup {ms : M (List PyData)} : mTup ms ev = (ms ev).bind fun p => fitS p.1.length (some (.dat (.tuple p.1), p.2)) := id rfl
@[simp] theorem e_dct0 : mDct0 ev = some (.dct [], ev) := id rfl
@[simp] theorem e_call {f : Fn} {ms : M (List (Sum Nat O))} {ds : List PyData} : mCall f ms ds ev = (ms ev).bind fun p => (lendAll (p.1 ++ ds.map fun d => .inr (.dat d)) p.2).bind fun q => (f q.1).map fun z => (z.1, giveAll (p.1 ++ ds.map fun d => .inr (.dat d)) z.2 p.2 q.2) := id rfl
@[simp] theorem e_lend0 : lendAll [] ev = some ([], ev) := id rfl
@[simp] theorem e_lendr {o : O} {as : List (Sum Nat O)} : lendAll (.inr o :: as) ev = (lendAll as ev).map fun p => (o :: p.1, p.2) := id rfl
@[simp] theorem e_lendl {as : List (Sum Nat O)} : lendAll (.inl i :: as) ev = (ev[i]?.bind Sl.tree).bind fun o => (lendAll as (ev.set i .un)).map fun p => (o :: p.1, p.2) := id rfl
@[simp] theorem e_givel {as : List (Sum Nat O)} {o : O} {bs : List (Option O)} {ev0 : Ev} : giveAll (.inl i :: as) (some o :: bs) ev0 ev = (giveAll as bs (ev0.set i .un) ev).set i ((ev0.getD i .un).put o) := id rfl
@[simp] theorem e_given {as : List (Sum Nat O)} {bs : List (Option O)} {ev0 : Ev} : giveAll (.inl i :: as) (none :: bs) ev0 ev = giveAll as bs (ev0.set i .un) ev := id rfl
@[simp] theorem e_giver {as : List (Sum Nat O)} {o : O} {b : Option O} {bs : List (Option O)} {ev0 : Ev} : giveAll (.inr o :: as) (b :: bs) ev0 ev = giveAll as bs ev0 ev := id rfl
@[simp] theorem e_give0 {bs : List (Option O)} {ev0 : Ev} : giveAll [] bs ev0 ev = ev := by cases bs <;> rfl
@[simp] theorem e_q {q : Ev → Option O} : mQ q ev = (match q ev with
  | some (.dat d) => some (.dat d, ev)
  | _ => none) := id rfl
@[simp] theorem e_qp {q : Ev → Option O} : mQP q ev = (q ev).map fun o => (o, ev) := id rfl
@[simp] theorem e_qn : qN i ev = ev[i]?.bind Sl.see := id rfl
@[simp] theorem e_qc {d : PyData} : qC d ev = some (.dat d) := id rfl
@[simp] theorem e_qix {qa qb : Ev → Option O} : qIx qa qb ev = (qa ev).bind fun o => (qb ev).bind fun k => match k with
  | .dat d => ixA o d
  | _ => none := id rfl
@[simp] theorem e_get : mGet ma mb ev = (ma ev).bind fun p => (mb p.2).bind fun q => (ixA (.dat p.1.data) q.1.data).map fun o => (o, q.2) := id rfl
@[simp] theorem e_getN : mGetN i mb ev = (ev[i]?.bind Sl.see).bind fun _ => (mb ev).bind fun p => (p.2[i]?.bind Sl.see).bind fun o => (ixA o p.1.data).bind fun r => match r with
  | .dat d => some (.dat d, p.2)
  | _ => none := id rfl
@[simp] theorem e_c1 {g : O → Option O} : mC1 g ma ev = (ma ev).bind fun p => (g p.1).map fun r => (r, p.2) := id rfl
@[simp] theorem e_ono : mONo ev = some (none, ev) := id rfl
@[simp] theorem e_oso : mOSo ma ev = (ma ev).bind fun p => match p.1 with
  | .dat (.int i) => some (some i, p.2)
  | _ => none := id rfl
@[simp] theorem e_sl {l h : M (Option Int)} : mSl ma l h ev = (ma ev).bind fun p => (l p.2).bind fun a => (h a.2).bind fun b => (slD p.1.data a.1 b.1).map fun r => (r, b.2) := id rfl
theorem e_rng1 : mRng1 ma ev = (ma ev).bind fun p => match p.1 with
  | .dat (.int j) => if rngOk j = true then some (intsD 0 j.toNat, p.2) else none
  | _ => none := id rfl
@[simp] theorem e_ita : mItA ma ev = (ma ev).bind fun p => match p.1.data with
  | .list ds => some (ds, p.2)
  | .tuple ds => some (ds, p.2)
  | .dict ds => some (ds.map (·.1), p.2)
  | _ => none := id rfl
@[simp] theorem e_itp : mItP ma ev = (ma ev).bind fun p => match p.1.data with
  | .dict ds => some (ds.map fun q => .tuple [q.1, q.2], p.2)
  | _ => none := id rfl
@[simp] theorem e_tgN {d : PyData} : tgN i d ev = mPut i (.dat d) ev := id rfl
@[simp] theorem e_tg0 : tgNil [] ev = some ev := id rfl
@[simp] theorem e_tg1 {t : PyData → Ev → Option Ev} {u : List PyData → Ev → Option Ev} {d : PyData} {ds : List PyData} : tgCons t u (d :: ds) ev = (t d ev).bind (u ds) := id rfl
@[simp] theorem e_tgT {n : Nat} {u : List PyData → Ev → Option Ev} {ds : List PyData} : tgTup n u (.tuple ds) ev = if ds.length = n then u ds ev else none := id rfl
@[simp] theorem e_for {mi : M (List PyData)} {t : PyData → Ev → Option Ev} {b : M Out} : mFor mi t b ev = (mi ev).bind fun p => forL t b p.1 p.2 := id rfl
@[simp] theorem e_lc {vs : List Nat} {mi : M (List PyData)} {t : PyData → Ev → Option Ev} : mLc vs mi t mc ma ev = (mi ev).bind fun p => (lcL vs t mc ma p.1 (wipeE p.2 vs)).bind fun r => fitS r.1.length (some (.lst r.1, r.2)) := id rfl
@[simp] theorem e_wipe0 : wipeE ev [] = ev := id rfl
@[simp] theorem e_wipe1 {v : Nat} {vs : List Nat} : wipeE ev (v :: vs) = (wipeE ev vs).set v .un := id rfl
@[simp] theorem e_ln : lN i ev = (vw1 i ev).map fun _ => ((i, []), ev) := id rfl
@[simp] theorem e_lix {l : Lv} : lIx l mb ev = (l ev).bind fun q => (vw1 q.1.1 q.2).bind fun w => (mb w.2.2).bind fun k => if isRo q.1.1 k.2 = true ∧ ((atP w.1 (q.1.2 ++ [k.1.data])).isSome = true) then some ((q.1.1, q.1.2 ++ [k.1.data]), k.2.set q.1.1 (w.2.1 w.1)) else none := id rfl
@[simp] theorem e_vw1 : vw1 i ev = (match ev[i]? with
  | some (.var t) => some (t, .var, ev.set i (.ro t))
  | some (.par t) => some (t, .par, ev.set i (.ro t))
  | _ => none) := id rfl
@[simp] theorem e_isro : isRo i ev = (match ev[i]? with
  | some (.ro _) => true
  | _ => false) := id rfl
@[simp] theorem e_met {T : String} {l : Lv} {ms : M (List O)} {f : O → List O → Option (O × O)} : mMet T l ms f ev = (l ev).bind fun q => (vw1 q.1.1 q.2).bind fun w => (atP w.1 q.1.2).bind fun node => if tyO T node = true then ((ms w.2.2).bind fun a => if isRo q.1.1 a.2 = true then ((f node a.1).map fun r => (r.1, a.2.set q.1.1 (w.2.1 (putP w.1 q.1.2 r.2)))) else none) else none := id rfl
@[simp] theorem e_metD {T : String} {ms : M (List O)} {g : PyData → List O → Option O} : mMetD T ma ms g ev = (ma ev).bind fun p => match p.1 with
  | .dat d => if tyD T d = true then (ms p.2).bind fun a => (g d a.1).map fun r => (r, a.2) else none
  | _ => none := id rfl
@[simp] theorem e_sto {f : O → PyData → O → Option O} {l : Lv} : mSto f ma l mb ev = (ma ev).bind fun v => (l v.2).bind fun q => (vw1 q.1.1 q.2).bind fun w => (atP w.1 q.1.2).bind fun node => (mb w.2.2).bind fun k => if isRo q.1.1 k.2 = true then ((f node k.1.data v.1).map fun n => (.nx, k.2.set q.1.1 (w.2.1 (putP w.1 q.1.2 n)))) else none := id rfl
@[simp] theorem e_atP0 {t : O} : atP t [] = some t := id rfl
@[simp] theorem e_atP1 {t : O} {k : PyData} {p : List PyData} : atP t (k :: p) = (at1 t k).bind fun c => atP c p := id rfl
@[simp] theorem e_putP0 {t o : O} : putP t [] o = o := by cases t <;> rfl
@[simp] theorem e_putP1 {t o : O} {k : PyData} {p : List PyData} : putP t (k :: p) o = (match at1 t k with
  | some c => put1 t k (putP c p o)
  | none => t) := by cases t <;> rfl
@[simp] theorem e_see1 {o : O} : Sl.see (.var o) = some o := id rfl
@[simp] theorem e_see2 {o : O} : Sl.see (.par o) = some o := id rfl
@[simp] theorem e_see3 {o : O} : Sl.see (.ro o) = some o := id rfl
@[simp] theorem e_see4 : Sl.see .un = none := id rfl
@[simp] theorem e_tree1 {o : O} : Sl.tree (.var o) = some o := id rfl
@[simp] theorem e_tree2 {o : O} : Sl.tree (.par o) = some o := id rfl
@[simp] theorem e_sput1 {o q : O} : Sl.put (.var o) q = .var q := id rfl
@[simp] theorem e_sput2 {o q : O} : Sl.put (.par o) q = .par q := id rfl
@[simp] theorem e_data {d : PyData} : O.data (.dat d) = d := id rfl
@[simp] theorem e_obool {b : Bool} : oBool (.dat (.bool b)) = some b := id rfl
@[simp] theorem e_otrub {b : Bool} : oTru (.dat (.bool b)) = some b := id rfl
@[simp] theorem e_oB {b : Bool} : oB b = some (.dat (.bool b)) := id rfl
@[simp] theorem e_oI {j : Int} : oI j = some (.dat (.int j)) := id rfl
@[simp] theorem e_oS {x : Str} : oS x = some (.dat (.str x)) := id rfl
@[simp] theorem e_onI {f : Int → Int → Option O} {a b : Int} : onI f (.int a) (.int b) = f a b := id rfl
@[simp] theorem e_addi {a b : Int} : addD (.int a) (.int b) = oI (a + b) := id rfl
@[simp] theorem e_lti {a b : Int} : ltD (.int a) (.int b) = oB (decide (a < b)) := id rfl
@[simp] theorem e_gti {a b : Int} : gtD (.int a) (.int b) = oB (decide (b < a)) := id rfl
@[simp] theorem e_lei {a b : Int} : leD (.int a) (.int b) = oB (decide (a ≤ b)) := id rfl
@[simp] theorem e_gei {a b : Int} : geD (.int a) (.int b) = oB (decide (b ≤ a)) := id rfl
@[simp] theorem e_inti {a : Int} : intO (.dat (.int a)) = oI a := id rfl
@[simp] theorem e_len1 {os : List O} : lenO (.lst os) = oI os.length := id rfl
@[simp] theorem e_len2 {ds : List PyData} : lenO (.dat (.list ds)) = oI ds.length := id rfl
@[simp] theorem e_len3 {ds : List PyData} : lenO (.dat (.tuple ds)) = oI ds.length := id rfl
@[simp] theorem e_len4 {kvs : List (NestedKey × O)} : lenO (.dct kvs) = oI kvs.length := id rfl
@[simp] theorem e_tyl {os : List O} : tyO "list" (.lst os) = true := id rfl
@[simp] theorem e_tyd {kvs : List (NestedKey × O)} : tyO "dict" (.dct kvs) = true := id rfl
@[simp] theorem e_tyD {ds : List PyData} : tyD "list" (.list ds) = true := id rfl
@[simp] theorem e_app {os : List O} {o : O} : fAppend (.lst os) [o] = fitS (os.length + 1) (some (.dat .none, .lst (os ++ [o]))) := id rfl
@[simp] theorem e_rev {os : List O} : fReverse (.lst os) [] = some (.dat .none, .lst os.reverse) := id rfl
@[simp] theorem e_sany1 {os : List O} {d : PyData} {v : O} : sAny (.lst os) d v = sLst (.lst os) d v := id rfl
@[simp] theorem e_sany2 {kvs : List (NestedKey × O)} {d : PyData} {v : O} : sAny (.dct kvs) d v = sDct (.dct kvs) d v := id rfl
@[simp] theorem e_slst {os : List O} {j : Int} {v : O} : sLst (.lst os) (.int j) v = (ixN os.length j).map fun j => .lst (os.set j v) := id rfl
@[simp] theorem e_sdct {kvs : List (NestedKey × O)} {d : PyData} {v : O} : sDct (.dct kvs) d v = (nkD d).bind fun k => if okKey kvs k = true then fitS (kvs.length + 1) (some (.dct (tput kvs k v))) else none := by
  show (nkD d).bind _ = _
  congr 1
  funext k
  unfold fitS
  by_cases h1 : okKey kvs k = true <;> by_cases h2 : kvs.length < sizeLine
  · rw [if_pos ⟨h1, h2⟩, if_pos h1, if_pos (by omega)]
  · rw [if_neg (fun z => h2 z.2), if_pos h1, if_neg (by omega)]
  · rw [if_neg (fun z => h1 z.1), if_neg h1]
  · rw [if_neg (fun z => h1 z.1), if_neg h1]
@[simp] theorem e_ixn {n j : Nat} : ixN n (j : Int) = if j < n then some j else none := by
  unfold ixN
  have : (0 : Int) ≤ (j : Int) := by omega
  simp [this]
@[simp] theorem e_ixn0 {n : Nat} : ixN n 0 = if 0 < n then some 0 else none := e_ixn (j := 0)
@[simp] theorem e_ixn2 {n : Nat} : ixN n 2 = if 2 < n then some 2 else none := e_ixn (j := 2)
@[simp] theorem e_ixn3 {n : Nat} : ixN n 3 = if 3 < n then some 3 else none := e_ixn (j := 3)
@[simp] theorem e_ixn4 {n : Nat} : ixN n 4 = if 4 < n then some 4 else none := e_ixn (j := 4)
@[simp] theorem e_ixn1 {n : Nat} : ixN n 1 = if 1 < n then some 1 else none := e_ixn (j := 1)
@[simp] theorem e_ixl {os : List O} {j : Int} : ixA (.lst os) (.int j) = atI os j := id rfl
@[simp] theorem e_ixt {ds : List PyData} {j : Int} : ixA (.dat (.tuple ds)) (.int j) = (atI ds j).map .dat := id rfl
@[simp] theorem e_ixa {ds : List PyData} {j : Int} : ixA (.dat (.list ds)) (.int j) = (atI ds j).map .dat := id rfl
@[simp] theorem e_ixd {kvs : List (NestedKey × O)} {d : PyData} : ixA (.dct kvs) d = dget kvs d := id rfl
@[simp] theorem e_at1l {os : List O} {j : Int} : at1 (.lst os) (.int j) = atI os j := id rfl
@[simp] theorem e_at1d {kvs : List (NestedKey × O)} {d : PyData} : at1 (.dct kvs) d = dget kvs d := id rfl
@[simp] theorem e_put1l {os : List O} {j : Int} {o : O} : put1 (.lst os) (.int j) o = (match ixN os.length j with
  | some j => .lst (os.set j o)
  | none => .lst os) := id rfl
@[simp] theorem e_put1d {kvs : List (NestedKey × O)} {d : PyData} {o : O} : put1 (.dct kvs) d o = (match nkD d with
  | some k => .dct (putF k o kvs)
  | none => .dct kvs) := id rfl
@[simp] theorem e_atin {β : Type} {xs : List β} {j : Nat} : atI xs (j : Int) = xs[j]? := by
  unfold atI
  rw [e_ixn]
  by_cases h : j < xs.length
  · rw [if_pos h, Option.bind_some]
  · rw [if_neg h, Option.bind_none, List.getElem?_eq_none (by omega)]
@[simp] theorem e_ati0 {β : Type} {xs : List β} : atI xs 0 = xs[0]? := e_atin (j := 0)
@[simp] theorem e_ati1 {β : Type} {xs : List β} : atI xs 1 = xs[1]? := e_atin (j := 1)
@[simp] theorem e_ati2 {β : Type} {xs : List β} : atI xs 2 = xs[2]? := e_atin (j := 2)
@[simp] theorem e_ati3 {β : Type} {xs : List β} : atI xs 3 = xs[3]? := e_atin (j := 3)
@[simp] theorem e_ati4 {β : Type} {xs : List β} : atI xs 4 = xs[4]? := e_atin (j := 4)
@[simp] theorem e_lstO1 {ds : List PyData} : listO (.dat (.tuple ds)) = some (.lst (ds.map .dat)) := id rfl
@[simp] theorem e_lstO2 {ds : List PyData} : listO (.dat (.list ds)) = some (.lst (ds.map .dat)) := id rfl
@[simp] theorem e_tupO2 {ds : List PyData} : tupO (.dat (.list ds)) = some (.dat (.tuple ds)) := id rfl
@[simp] theorem e_tupO3 {ds : List PyData} : tupO (.dat (.tuple ds)) = some (.dat (.tuple ds)) := id rfl
end
@[simp] theorem e_mask0 : mask [] [] = [] := id rfl
@[simp] theorem e_masku {s : Sl} {a b : Ev} : mask (.un :: a) (s :: b) = .un :: mask a b := id rfl
@[simp] theorem e_maskv {o : O} {s : Sl} {a b : Ev} : mask (.var o :: a) (s :: b) = s :: mask a b := id rfl
@[simp] theorem e_maskp {o : O} {s : Sl} {a b : Ev} : mask (.par o :: a) (s :: b) = s :: mask a b := id rfl
@[simp] theorem e_maskr {o : O} {s : Sl} {a b : Ev} : mask (.ro o :: a) (s :: b) = s :: mask a b := id rfl
@[simp] theorem e_enter0 {os : List O} : enter [] os = [] := id rfl
@[simp] theorem e_enter1 {k : Bool} {ks : List Bool} {o : O} {os : List O} : enter (k :: ks) (o :: os) = (if k = true then .par o else .var o) :: enter ks os := id rfl
@[simp] theorem e_leave0 {ev : Ev} : leave [] ev = [] := by cases ev <;> rfl
@[simp] theorem e_leave1 {k : Bool} {ks : List Bool} {o : O} {ev : Ev} : leave (k :: ks) (.par o :: ev) = some o :: leave ks ev := id rfl
@[simp] theorem e_leave2 {k : Bool} {ks : List Bool} {o : O} {ev : Ev} : leave (k :: ks) (.var o :: ev) = none :: leave ks ev := id rfl
@[simp] theorem e_leave3 {k : Bool} {ks : List Bool} {ev : Ev} : leave (k :: ks) (.un :: ev) = none :: leave ks ev := id rfl
theorem run_wp {ks : List Bool} {l : Nat} {b : M Out} {os : List O} {R : O → List (Option O) → Prop} (hl : os.length = ks.length) (h : wp b (enter ks os ++ List.replicate l .un) fun o e => match o with
    | .rt r => R r (leave ks e)
    | .nx => R (.dat .none) (leave ks e)
    | _ => False) : ∃ r bs, runF ks l b os = some (r, bs) ∧ R r bs := by
  obtain ⟨o, e, h1, h2⟩ := h
  unfold runF
  rw [if_pos hl, h1]
  cases o with
  | rt r => exact ⟨_, _, rfl, h2⟩
  | nx => exact ⟨_, _, rfl, h2⟩
  | bk => exact h2.elim
  | ct => exact h2.elim
end Z
set_option Elab.async false
set_option linter.all false
set_option maxRecDepth 100000
/-! Y2: data and own lists of typed things: equality, membership, sorting. -/
namespace Z
open PySem PySem.Spec PyProof.Rows L2
/-- an event or an inner label -/
abbrev Lb := Str × Option Str
def dN (n : Nat) : PyData := .int n
def dX (x : Str) : PyData := .str x
def dO : Option Str → PyData
  | none => .none
  | some x => .str x
def dL (l : Lb) : PyData := .tuple [.str l.1, dO l.2]
def dS (s : Lb × Nat) : PyData := .tuple [dL s.1, dN s.2]
def dT {α : Type} (f : α → PyData) (l : List α) : PyData := .tuple (l.map f)
def dA {α : Type} (f : α → PyData) (l : List α) : PyData := .list (l.map f)
def oL {α : Type} (f : α → PyData) (l : List α) : O := .lst (l.map fun a => .dat (f a))
/-- an encoding that == and < see through -/
structure Good {α : Type} [DecidableEq α] (f : α → PyData) (k : Nat) : Prop where
  pl : ∀ a, (f a).plain = true
  dp : ∀ a, (f a).depth ≤ k
  eq : ∀ a b, PyData.eqv (f a) (f b) = decide (a = b)
section
variable {α β : Type} [DecidableEq α] [DecidableEq β] {f : α → PyData} {k : Nat}
theorem gN : Good dN 0 := ⟨fun _ => rfl, fun _ => Nat.le_refl _, fun a b => by
  simp only [dN, PyData.eqv]
  by_cases h : a = b
  · simp [h]
  · have : ¬ ((a : Int) = (b : Int)) := by omega
    simp [h, this]⟩
theorem gX : Good dX 0 := ⟨fun _ => rfl, fun _ => Nat.le_refl _, fun a b => by simp only [dX, PyData.eqv]; by_cases h : a = b <;> simp [h]⟩
theorem gO : Good dO 0 := ⟨fun a => by cases a <;> rfl, fun a => by cases a <;> exact Nat.le_refl _, fun a b => by
  cases a with
  | none => cases b <;> simp [dO, PyData.eqv]
  | some x => cases b with
    | none => simp [dO, PyData.eqv]
    | some y =>
      simp only [dO, PyData.eqv]
      by_cases h : x = y <;> simp [h]⟩
theorem gL : Good dL 1 := ⟨fun a => by simp [dL, PyData.plain, PyData.plainAll, gO.pl], fun a => by
  have := gO.dp a.2
  simp only [dL, PyData.depth, PyData.depthAll]; omega, fun a b => by
  have := gO.eq a.2 b.2
  obtain ⟨a1, a2⟩ := a
  obtain ⟨b1, b2⟩ := b
  simp only [dL, PyData.eqv, PyData.eqvAll, this]
  by_cases h1 : a1 = b1 <;> by_cases h2 : a2 = b2 <;> simp [h1, h2]⟩
theorem gS : Good dS 2 := ⟨fun a => by simp [dS, PyData.plain, PyData.plainAll, gL.pl, gN.pl], fun a => by
  have := gL.dp a.1
  have := gN.dp a.2
  simp only [dS, PyData.depth, PyData.depthAll]; omega, fun a b => by
  have h1 := gL.eq a.1 b.1
  have h2 := gN.eq a.2 b.2
  obtain ⟨a1, a2⟩ := a
  obtain ⟨b1, b2⟩ := b
  simp only [dS, PyData.eqv, PyData.eqvAll, h1, h2]
  by_cases h1 : a1 = b1 <;> by_cases h2 : a2 = b2 <;> simp [h1, h2]⟩
theorem plainAll_map (g : Good f k) : ∀ l : List α, PyData.plainAll (l.map f) = true
  | [] => rfl
  | a :: l => by rw [List.map_cons, PyData.plainAll, g.pl, plainAll_map g l]; rfl
theorem depthAll_map (g : Good f k) : ∀ l : List α, PyData.depthAll (l.map f) ≤ k
  | [] => Nat.zero_le _
  | a :: l => by
    have h1 := g.dp a
    have h2 := depthAll_map g l
    rw [List.map_cons, PyData.depthAll]
    omega
theorem eqvAll_map (g : Good f k) : ∀ l m : List α, PyData.eqvAll (l.map f) (m.map f) = decide (l = m)
  | [], [] => by simp [PyData.eqvAll]
  | [], _ :: _ => by simp [PyData.eqvAll]
  | _ :: _, [] => by simp [PyData.eqvAll]
  | a :: l, b :: m => by
    rw [List.map_cons, List.map_cons, PyData.eqvAll, g.eq, eqvAll_map g l m]
    by_cases h1 : a = b <;> by_cases h2 : l = m <;> simp [h1, h2]
theorem gT (g : Good f k) : Good (dT f) (k + 1) := ⟨fun a => by simpa [dT, PyData.plain] using plainAll_map g a, fun a => by
  have := depthAll_map g a
  simp only [dT, PyData.depth]; omega, fun a b => by simp only [dT, PyData.eqv]; exact eqvAll_map g a b⟩
theorem gA (g : Good f k) : Good (dA f) (k + 1) := ⟨fun a => by simpa [dA, PyData.plain] using plainAll_map g a, fun a => by
  have := depthAll_map g a
  simp only [dA, PyData.depth]; omega, fun a b => by simp only [dA, PyData.eqv]; exact eqvAll_map g a b⟩
theorem Good.p (g : Good f k) (h : k ≤ 40) (a : α) : Z.pl (f a) = true := by
  have h1 := g.dp a
  have h2 := g.pl a
  unfold Z.pl
  rw [h2]
  simp
  omega
theorem Good.inj (g : Good f k) {a b : α} (h : f a = f b) : a = b := by
  have h1 := g.eq a b
  have h2 := g.eq b b
  rw [h, h2] at h1
  simpa using h1.symm
theorem any_map (g : Good f k) (l : List α) (d : α) : ((l.map f).any fun y => PyData.eqv y (f d)) = decide (d ∈ l) := by
  induction l with
  | nil => rfl
  | cons a l ih =>
    rw [List.map_cons, List.any_cons, ih, g.eq]
    by_cases h1 : a = d
    · simp [h1]
    · have : ¬ d = a := fun z => h1 z.symm
      by_cases h2 : d ∈ l <;> simp [h1, h2, this]
theorem datsO_map (l : List PyData) : datsO (l.map .dat) = some l := by
  induction l with
  | nil => rfl
  | cons a l ih => rw [List.map_cons]; show (datsO (l.map .dat)).map _ = _; rw [ih]; rfl
theorem oL_eq (f : α → PyData) (l : List α) : oL f l = .lst ((l.map f).map .dat) := by
  unfold oL
  rw [List.map_map]
  rfl
@[simp] theorem i_oL (l : List α) : items (oL f l) = some (l.map f) := by rw [oL_eq]; exact datsO_map _
@[simp] theorem i_dA (l : List α) : items (.dat (dA f l)) = some (l.map f) := id rfl
@[simp] theorem i_dT (l : List α) : items (.dat (dT f l)) = some (l.map f) := id rfl
@[simp] theorem ad_oL (l : List α) : asD (oL f l) = none := id rfl
@[simp] theorem ad_dA (l : List α) : asD (.dat (dA f l)) = none := id rfl
@[simp] theorem ad_dT (l : List α) : asD (.dat (dT f l)) = none := id rfl
theorem inA_of (g : Good f k) (h : k ≤ 40) {o : O} {l : List α} (h1 : asD o = none) (h2 : items o = some (l.map f)) (d : α) : inA (f d) o = oB (decide (d ∈ l)) := by
  unfold inA inO
  rw [h1, h2]
  simp only [Option.bind_some, g.p h, plainAll_map g, Bool.and_self, if_true, any_map g]
theorem ninA_of (g : Good f k) (h : k ≤ 40) {o : O} {l : List α} (h1 : asD o = none) (h2 : items o = some (l.map f)) (d : α) : ninA (f d) o = oB (!decide (d ∈ l)) := by
  unfold ninA ninO
  rw [h1, h2]
  simp only [Option.bind_some, g.p h, plainAll_map g, Bool.and_self, if_true, any_map g]
theorem eqD_of (g : Good f k) (h : k ≤ 40) (a b : α) : eqD (f a) (f b) = oB (decide (a = b)) := by
  unfold eqD
  simp only [g.p h, Bool.and_self, if_true, g.eq]
theorem neD_of (g : Good f k) (h : k ≤ 40) (a b : α) : neD (f a) (f b) = oB (!decide (a = b)) := by
  unfold neD
  simp only [g.p h, Bool.and_self, if_true, g.eq]
@[simp] theorem data_oL (l : List α) : (oL f l).data = dA f l := by
  rw [oL_eq]
  show PyData.list (O.datas _) = _
  rw [O.datas_eq, List.map_map]
  exact congrArg PyData.list ((congrArg (List.map · _) (funext fun x => rfl)).trans (List.map_id _))
@[simp] theorem len_oL (l : List α) : lenO (oL f l) = oI l.length := by simp [oL]
@[simp] theorem tup_oL (l : List α) : tupO (oL f l) = some (.dat (dT f l)) := by unfold tupO; rw [i_oL]; rfl
@[simp] theorem lst_dT (l : List α) : listO (.dat (dT f l)) = some (oL f l) := by unfold listO; rw [i_dT, oL_eq]; rfl
@[simp] theorem lst_dA (l : List α) : listO (.dat (dA f l)) = some (oL f l) := by unfold listO; rw [i_dA, oL_eq]; rfl
@[simp] theorem tup_dA (l : List α) : tupO (.dat (dA f l)) = some (.dat (dT f l)) := id rfl
@[simp] theorem len_dA (l : List α) : lenO (.dat (dA f l)) = oI l.length := by simp [dA, lenO]
@[simp] theorem len_dT (l : List α) : lenO (.dat (dT f l)) = oI l.length := by simp [dT, lenO]
@[simp] theorem app_oL (f : α → PyData) (l : List α) (a : α) : fAppend (oL f l) [.dat (f a)] = fitS (l.length + 1) (some (.dat .none, oL f (l ++ [a]))) := by simp [oL]
@[simp] theorem ty_oL (f : α → PyData) (l : List α) : tyO "list" (oL f l) = true := id rfl
@[simp] theorem ty_dA (l : List α) : tyD "list" (dA f l) = true := id rfl
@[simp] theorem ix_oL (l : List α) (j : Nat) : ixA (oL f l) (dN j) = (l[j]?).map fun a => .dat (f a) := by
  show atI _ ((j : Nat) : Int) = _
  rw [e_atin, List.getElem?_map]
@[simp] theorem ix_dA (l : List α) (j : Nat) : ixA (.dat (dA f l)) (dN j) = (l[j]?).map fun a => .dat (f a) := by
  show (atI _ ((j : Nat) : Int)).map _ = _
  rw [e_atin, List.getElem?_map, Option.map_map]
  rfl
@[simp] theorem ix_dT (l : List α) (j : Nat) : ixA (.dat (dT f l)) (dN j) = (l[j]?).map fun a => .dat (f a) := by
  show (atI _ ((j : Nat) : Int)).map _ = _
  rw [e_atin, List.getElem?_map, Option.map_map]
  rfl
@[simp] theorem ixi_oL (l : List α) (j : Nat) : ixA (oL f l) (.int j) = (l[j]?).map fun a => .dat (f a) := ix_oL l j
@[simp] theorem ixi_dA (l : List α) (j : Nat) : ixA (.dat (dA f l)) (.int j) = (l[j]?).map fun a => .dat (f a) := ix_dA l j
@[simp] theorem ixi_dT (l : List α) (j : Nat) : ixA (.dat (dT f l)) (.int j) = (l[j]?).map fun a => .dat (f a) := ix_dT l j
@[simp] theorem ix_S0 (s : Lb × Nat) : ixA (.dat (dS s)) (.int 0) = some (.dat (dL s.1)) := id rfl
@[simp] theorem ix_S1 (s : Lb × Nat) : ixA (.dat (dS s)) (.int 1) = some (.dat (dN s.2)) := id rfl
@[simp] theorem ix_L0 (l : Lb) : ixA (.dat (dL l)) (.int 0) = some (.dat (dX l.1)) := id rfl
theorem idxD_map (g : Good f k) (d : α) : ∀ (l : List α) (n : Nat), idxD (f d) (l.map f) n = if d ∈ l then some (n + l.idxOf d) else none
  | [], n => rfl
  | a :: l, n => by
    rw [List.map_cons, idxD, g.eq, idxD_map g d l, List.idxOf_cons]
    by_cases h1 : a = d
    · subst h1
      simp
    · have h3 : ¬ d = a := fun z => h1 z.symm
      by_cases h2 : d ∈ l
      · have hb : (a == d) = false := by simpa using h1
        simp [h1, h2, h3, hb]; omega
      · simp [h1, h2, h3]
theorem idx_of (g : Good f k) (h : k ≤ 40) (l : List α) (d : α) : gIndex (dA f l) [.dat (f d)] = if d ∈ l then some (.dat (dN (l.idxOf d))) else none := by
  show (if pl (f d) = true ∧ PyData.plainAll (l.map f) = true then (idxD (f d) (l.map f) 0).map fun j => O.dat (.int (j : Nat)) else none) = _
  rw [if_pos ⟨g.p h d, plainAll_map g l⟩, idxD_map g]
  by_cases h2 : d ∈ l <;> simp [h2, dN]
/-! ### sorting -/
def leD' (a b : PyData) : Bool := PySem.W.dataLe false id a b
theorem leD_total (a b : PyData) : (leD' a b || leD' b a) = true := by
  show (!(listOrd itemOrd).blt (PySem.W.keyToks b) (PySem.W.keyToks a) || !(listOrd itemOrd).blt (PySem.W.keyToks a) (PySem.W.keyToks b)) = true
  cases h : (listOrd itemOrd).blt (PySem.W.keyToks b) (PySem.W.keyToks a) with
  | false => rfl
  | true =>
    cases h2 : (listOrd itemOrd).blt (PySem.W.keyToks a) (PySem.W.keyToks b) with
    | false => rfl
    | true =>
      have := (listOrd itemOrd).trans _ _ _ h h2
      rw [(listOrd itemOrd).irrefl] at this
      cases this
theorem leD_trans (a b c : PyData) (h1 : leD' a b = true) (h2 : leD' b c = true) : leD' a c = true := by
  have h1 : (!(listOrd itemOrd).blt (PySem.W.keyToks b) (PySem.W.keyToks a)) = true := h1
  have h2 : (!(listOrd itemOrd).blt (PySem.W.keyToks c) (PySem.W.keyToks b)) = true := h2
  show (!(listOrd itemOrd).blt (PySem.W.keyToks c) (PySem.W.keyToks a)) = true
  rw [Bool.not_eq_true'] at h1 h2 ⊢
  cases h : (listOrd itemOrd).blt (PySem.W.keyToks c) (PySem.W.keyToks a) with
  | false => rfl
  | true =>
    rcases (listOrd itemOrd).negTrans _ (PySem.W.keyToks b) _ h with z | z
    · rw [h2] at z; cases z
    · rw [h1] at z; cases z
theorem leD_anti {a b : PyData} (h1 : leD' a b = true) (h2 : leD' b a = true) : PySem.W.keyToks a = PySem.W.keyToks b := by
  have h1 : (!(listOrd itemOrd).blt (PySem.W.keyToks b) (PySem.W.keyToks a)) = true := h1
  have h2 : (!(listOrd itemOrd).blt (PySem.W.keyToks a) (PySem.W.keyToks b)) = true := h2
  rw [Bool.not_eq_true'] at h1 h2
  exact (listOrd itemOrd).total _ _ h2 h1
/-- an encoding that the order tells apart -/
def Tok1 {α : Type} (f : α → PyData) : Prop := ∀ a b, PySem.W.keyToks (f a) = PySem.W.keyToks (f b) → a = b
def leE {α : Type} (f : α → PyData) (a b : α) : Bool := leD' (f a) (f b)
def sortE {α : Type} (f : α → PyData) (l : List α) : List α := l.mergeSort (leE f)
theorem sortD_map (f : α → PyData) (l : List α) : sortD (l.map f) = (sortE f l).map f := (List.map_mergeSort (r := leE f) (s := leD') (f := f) (l := l) fun _ _ _ _ => rfl).symm
theorem sortE_perm (f : α → PyData) (l : List α) : (sortE f l).Perm l := List.mergeSort_perm _ _
theorem sortE_sorted (f : α → PyData) (l : List α) : (sortE f l).Pairwise fun a b => leE f a b = true := List.pairwise_mergeSort (fun a b c => leD_trans (f a) (f b) (f c)) (fun a b => leD_total (f a) (f b)) l
theorem sorted_eq (t : Tok1 f) {l m : List α} (p : l.Perm m) (hl : l.Pairwise fun a b => leE f a b = true) (hm : m.Pairwise fun a b => leE f a b = true) : l = m :=
  p.eq_of_pairwise (fun a b _ _ h1 h2 => t a b (leD_anti h1 h2)) hl hm
theorem sortE_eq (t : Tok1 f) {l m : List α} (p : l.Perm m) : sortE f l = sortE f m := sorted_eq t ((sortE_perm f l).trans (p.trans (sortE_perm f m).symm)) (sortE_sorted f l) (sortE_sorted f m)
theorem tN : Tok1 dN := fun a b h => by
  have h : [(Sum.inl (a : Int) : Int ⊕ List Nat)] = [Sum.inl (b : Int)] := h
  injection h with h _
  injection h with h
  omega
theorem leN (a b : Nat) : leE dN a b = decide (a ≤ b) := by
  show (!PyProof.Rows.lexLt itemOrd [Sum.inl (b : Int)] [Sum.inl (a : Int)]) = _
  by_cases h : b = a
  · subst h
    rw [PyProof.Rows.lex_irrefl]
    simp
  · rw [PyProof.Rows.lex_diff (O := itemOrd) (fun z => h (by injection z with z; omega))]
    show (!decide ((b : Int) < (a : Int))) = _
    by_cases h2 : a ≤ b
    · have : ¬ ((b : Int) < (a : Int)) := by omega
      simp [h2, this]
    · have : (b : Int) < (a : Int) := by omega
      simp [h2, this]
/-- what sorted wants -/
def Srt {α : Type} (f : α → PyData) (l : List α) : Prop := srt (l.map f) = true
@[simp] theorem row_oL (l : List α) : rowO (oL f l) = some (l.map f) := by rw [oL_eq]; exact datsO_map _
theorem sorted_oL {l : List α} (h : Srt f l) : sortedO (oL f l) = some (oL f (sortE f l)) := by
  unfold sortedO
  rw [row_oL, Option.bind_some, if_pos (show srt (l.map f) = true from h), sortD_map, oL_eq]
theorem sorted_dA {l : List α} (h : Srt f l) : sortedO (.dat (dA f l)) = some (oL f (sortE f l)) := by
  unfold sortedO
  show (some (l.map f)).bind _ = _
  rw [Option.bind_some, if_pos (show srt (l.map f) = true from h), sortD_map, oL_eq]
theorem srt_N (l : List Nat) : Srt dN l := by
  unfold Srt srt
  simp only [Bool.and_eq_true, Bool.or_eq_true, List.all_eq_true, List.mem_map]
  refine ⟨⟨?_, ?_⟩, .inr ?_⟩
  · rintro _ ⟨a, _, rfl⟩; exact gN.p (by omega) a
  · rintro _ ⟨a, _, rfl⟩ _ ⟨b, _, rfl⟩; rfl
  · rintro _ ⟨a, _, rfl⟩; rfl
end
end Z
set_option Elab.async false
set_option linter.all false
set_option maxRecDepth 100000
/-! Y3: loops as folds, list comprehensions, closures. -/
namespace Z
open PySem PySem.Spec PyProof.Rows L2
theorem wp.mono' {α : Type} {m : M α} {ev : Ev} {Q Q' : α → Ev → Prop} (h : wp m ev Q) (i : ∀ a e, Q a e → Q' a e) : wp m ev Q' := h.mono i
/-- a loop that never ends early -/
theorem forL_fold {σ α : Type} {f : α → PyData} {St : σ → Ev} {t : PyData → Ev → Option Ev} {b : M Out} (step : σ → α → σ) (P : σ → Prop) : ∀ (l : List α)
    (h : ∀ s, P s → ∀ a ∈ l, P (step s a) ∧ ∃ e1 e2, t (f a) (St s) = some e1 ∧ b e1 = some (.nx, e2) ∧ mask (St s) e2 = St (step s a)) (s : σ), P s →
    forL t b (l.map f) (St s) = some (.nx, St (l.foldl step s)) ∧ P (l.foldl step s)
  | [], h, s, p => ⟨rfl, p⟩
  | a :: l, h, s, p => by
    obtain ⟨p1, e1, e2, h1, h2, h3⟩ := h s p a List.mem_cons_self
    have ih := forL_fold step P l (fun s p a m => h s p a (List.mem_cons_of_mem _ m)) (step s a) p1
    refine ⟨?_, ih.2⟩
    rw [List.map_cons, List.foldl_cons]
    unfold forL
    simp only [h1, Option.bind_some, h2, h3]
    exact ih.1
theorem lcL_wp {vs : List Nat} {t : PyData → Ev → Option Ev} {c : M Bool} {me : M O} {I : List PyData → List O → Ev → Prop} {Q : List O → Ev → Prop} (hend : ∀ os e, I [] os e → Q os e)
    (step : ∀ d ds os e, I (d :: ds) os e → ∃ e1, t d e = some e1 ∧ wp c e1 fun b e2 => if b = true then wp me e2 fun o e3 => I ds (os ++ [o]) (wipeE e3 vs) else I ds os (wipeE e2 vs)) :
    ∀ (ds : List PyData) (os : List O) (e : Ev), I ds os e → ∃ r e', lcL vs t c me ds e = some (r, e') ∧ Q (os ++ r) e'
  | [], os, e, h => ⟨[], e, rfl, by simpa using hend os e h⟩
  | d :: ds, os, e, h => by
    obtain ⟨e1, h1, b, e2, h2, h3⟩ := step d ds os e h
    unfold lcL
    simp only [h1, Option.bind_some, h2]
    cases b with
    | false =>
      obtain ⟨r, e', h4, h5⟩ := lcL_wp hend step ds os _ h3
      exact ⟨r, e', h4, h5⟩
    | true =>
      obtain ⟨o, e3, h4, h5⟩ := h3
      obtain ⟨r, e', h6, h7⟩ := lcL_wp hend step ds (os ++ [o]) _ h5
      refine ⟨o :: r, e', ?_, by simpa using h7⟩
      simp only [if_true, h4, Option.bind_some, h6, Option.map_some]
/-- a comprehension over a range -/
theorem lcL_rng {vs : List Nat} {t : PyData → Ev → Option Ev} {c : M Bool} {me : M O} {n : Nat} {I : Nat → List O → Ev → Prop}
    (step : ∀ k os e, k < n → I k os e → ∃ e1, t (dN k) e = some e1 ∧ wp c e1 fun b e2 => if b = true then wp me e2 fun o e3 => I (k + 1) (os ++ [o]) (wipeE e3 vs) else I (k + 1) os (wipeE e2 vs))
    {e : Ev} (h : I 0 [] e) : ∃ r e', lcL vs t c me ((List.range n).map dN) e = some (r, e') ∧ I n r e' := by
  have := lcL_wp (I := fun ds os e => ∃ k, k ≤ n ∧ ds = (List.range' k (n - k)).map dN ∧ I k os e) (Q := fun os e => I n os e) (vs := vs) (t := t) (c := c) (me := me) ?_ ?_ ((List.range n).map dN) [] e ⟨0, Nat.zero_le _, by rw [List.range_eq_range', Nat.sub_zero], h⟩
  · obtain ⟨r, e', h1, h2⟩ := this
    exact ⟨r, e', h1, by simpa using h2⟩
  · rintro os e ⟨k, h1, h2, h3⟩
    have : n - k = 0 := by
      cases q : n - k with
      | zero => rfl
      | succ j => rw [q, List.range'_succ] at h2; cases h2
    have : k = n := by omega
    subst this
    exact h3
  · rintro d ds os e ⟨k, h1, h2, h3⟩
    cases q : n - k with
    | zero => rw [q] at h2; cases h2
    | succ j =>
      rw [q, List.range'_succ, List.map_cons] at h2
      injection h2 with h2 h4
      subst h2
      obtain ⟨e1, h5, h6⟩ := step k os e (by omega) h3
      have ha : ds = (List.range' (k + 1) (n - (k + 1))).map dN := by rw [h4]; congr 2; omega
      refine ⟨e1, h5, h6.mono fun b e2 h7 => ?_⟩
      cases b with
      | false => exact ⟨k + 1, by omega, ha, h7⟩
      | true => exact h7.mono fun o e3 h8 => ⟨k + 1, by omega, ha, h8⟩
/-- a comprehension that leaves the slots alone -/
theorem lcL_map {α : Type} {f : α → PyData} {vs : List Nat} {t : PyData → Ev → Option Ev} {c : M Bool} {me : M O} {e : Ev} (p : α → Bool) (g : α → O) : ∀ (l : List α)
    (h : ∀ a ∈ l, ∃ e1 e2, t (f a) e = some e1 ∧ c e1 = some (p a, e2) ∧ (p a = false → wipeE e2 vs = e) ∧ (p a = true → ∃ e3, me e2 = some (g a, e3) ∧ wipeE e3 vs = e)),
    lcL vs t c me (l.map f) e = some ((l.filter p).map g, e)
  | [], h => rfl
  | a :: l, h => by
    obtain ⟨e1, e2, h1, h2, h3, h4⟩ := h a List.mem_cons_self
    have ih := lcL_map p g l fun a m => h a (List.mem_cons_of_mem _ m)
    rw [List.map_cons]
    unfold lcL
    simp only [h1, Option.bind_some, h2]
    cases q : p a with
    | false =>
      rw [List.filter_cons_of_neg (by simp [q])]
      simp [h3 q, ih]
    | true =>
      rw [List.filter_cons_of_pos q]
      obtain ⟨e3, h5, h6⟩ := h4 q
      simp [h5, h6, ih]
theorem filter_tt {α : Type} (l : List α) : (l.filter fun _ => true) = l := List.filter_eq_self.mpr fun _ _ => rfl
theorem nodup_map {α β : Type} {f : α → β} : ∀ {l : List α}, (∀ a ∈ l, ∀ b ∈ l, f a = f b → a = b) → l.Nodup → (l.map f).Nodup
  | [], _, _ => List.nodup_nil
  | a :: l, h, nd => by
    rw [List.nodup_cons] at nd
    rw [List.map_cons, List.nodup_cons]
    refine ⟨fun m => ?_, nodup_map (fun a m b n => h a (List.mem_cons_of_mem _ m) b (List.mem_cons_of_mem _ n)) nd.2⟩
    obtain ⟨b, hb, e⟩ := List.mem_map.mp m
    exact nd.1 (by rw [h a List.mem_cons_self b (List.mem_cons_of_mem _ hb) e.symm]; exact hb)
theorem lc_eq {vs : List Nat} {mi : M (List PyData)} {t : PyData → Ev → Option Ev} {c : M Bool} {me : M O} {ev ev1 e2 : Ev} {ds : List PyData} {r : List O} (h0 : mi ev = some (ds, ev1)) (h1 : lcL vs t c me ds (wipeE ev1 vs) = some (r, e2)) (hl : r.length ≤ 1000000) : mLc vs mi t c me ev = some (.lst r, e2) := by
  rw [e_lc, h0, e_bind, h1, e_bind, fitS_ok hl]
theorem rng_ok {i : Int} (h : 0 ≤ i) (h2 : i < 1000000) : rngOk i = true := by
  unfold rngOk
  exact decide_eq_true ⟨by omega, by omega⟩
theorem intsD0 (n : Nat) : intsD 0 n = (List.range n).map dN := by
  unfold intsD
  refine List.map_congr_left fun k _ => ?_
  show PyData.int _ = PyData.int _
  congr 1
  omega
theorem rng_eq {me : M O} {ev e : Ev} {n : Nat} (h : me ev = some (.dat (.int (n : Int)), e)) (hn : n < 1000000) : mRng1 me ev = some ((List.range n).map dN, e) := by
  unfold mRng1
  rw [h, Option.bind_some]
  show (if rngOk (n : Int) = true then some (intsD 0 ((n : Int).toNat), e) else none) = _
  rw [if_pos (rng_ok (by omega) (by omega)), Int.toNat_natCast, intsD0]
section
variable {α : Type} {f : α → PyData} {mi : M (List PyData)} {t : PyData → Ev → Option Ev} {b : M Out} {ev ev1 : Ev} {Q : Out → Ev → Prop}
theorem wp_forT {l : List α} (hi : mi ev = some (l.map f, ev1)) (I : List α → Ev → Prop) (h : I l ev1) (hend : ∀ e, I [] e → Q .nx e)
    (step : ∀ a as e, I (a :: as) e → ∃ e1, t (f a) e = some e1 ∧ wp b e1 fun o e2 => match o with
      | .nx => I as (mask e e2)
      | .ct => I as (mask e e2)
      | .bk => Q .nx (mask e e2)
      | .rt r => Q (.rt r) e2) : wp (mFor mi t b) ev Q := by
  refine wp_for (fun ds e => ∃ as, ds = as.map f ∧ I as e) ⟨_, _, hi, l, rfl, h⟩ ?_ ?_
  · rintro e ⟨as, h1, h2⟩
    cases as with
    | nil => exact hend e h2
    | cons _ _ => cases h1
  · rintro d ds e ⟨as, h1, h2⟩
    cases as with
    | nil => cases h1
    | cons a as =>
      rw [List.map_cons] at h1
      injection h1 with h1 h3
      subst h1 h3
      obtain ⟨e1, h4, h5⟩ := step a as e h2
      refine ⟨e1, h4, h5.mono fun o e2 h6 => ?_⟩
      cases o with
      | nx => exact ⟨as, rfl, h6⟩
      | ct => exact ⟨as, rfl, h6⟩
      | bk => exact h6
      | rt r => exact h6
theorem wp_forR {n : Nat} (hi : mi ev = some ((List.range n).map dN, ev1)) (I : Nat → Ev → Prop) (h : I 0 ev1) (hend : ∀ e, I n e → Q .nx e)
    (step : ∀ k e, k < n → I k e → ∃ e1, t (dN k) e = some e1 ∧ wp b e1 fun o e2 => match o with
      | .nx => I (k + 1) (mask e e2)
      | .ct => I (k + 1) (mask e e2)
      | .bk => Q .nx (mask e e2)
      | .rt r => Q (.rt r) e2) : wp (mFor mi t b) ev Q := by
  refine wp_forT hi (fun as e => ∃ k, k ≤ n ∧ as = List.range' k (n - k) ∧ I k e) ⟨0, Nat.zero_le _, by rw [List.range_eq_range', Nat.sub_zero], h⟩ ?_ ?_
  · rintro e ⟨k, h1, h2, h3⟩
    have : n - k = 0 := by
      cases q : n - k with
      | zero => rfl
      | succ j => rw [q, List.range'_succ] at h2; cases h2
    have : k = n := by omega
    subst this
    exact hend e h3
  · rintro a as e ⟨k, h1, h2, h3⟩
    cases q : n - k with
    | zero => rw [q] at h2; cases h2
    | succ j =>
      rw [q, List.range'_succ] at h2
      injection h2 with h2 h4
      subst h2
      obtain ⟨e1, h5, h6⟩ := step a e (by omega) h3
      have ha : as = List.range' (a + 1) (n - (a + 1)) := by rw [h4]; congr 1; omega
      refine ⟨e1, h5, h6.mono fun o e2 h7 => ?_⟩
      cases o with
      | nx => exact ⟨a + 1, by omega, ha, h7⟩
      | ct => exact ⟨a + 1, by omega, ha, h7⟩
      | bk => exact h7
      | rt r => exact h7
end
/-! ### closures -/
inductive Rch (R : Nat → Nat → Prop) (S : List Nat) : Nat → Prop
  | base {s : Nat} : s ∈ S → Rch R S s
  | step {s t : Nat} : Rch R S s → R s t → Rch R S t
open Classical in
noncomputable def cl (R : Nat → Nat → Prop) (n : Nat) (S : List Nat) : List Nat := (List.range n).filter fun s => decide (Rch R S s)
section
variable {R R' : Nat → Nat → Prop} {S S' : List Nat} {n : Nat}
theorem Rch.mono (h : Rch R S s) (hs : ∀ s ∈ S, s ∈ S') (hr : ∀ s t, R s t → R' s t) : Rch R' S' s := by
  induction h with
  | base m => exact .base (hs _ m)
  | step _ r ih => exact .step ih (hr _ _ r)
theorem Rch.lt (h : Rch R S s) (hs : ∀ s ∈ S, s < n) (hr : ∀ s t, R s t → t < n) : s < n := by
  cases h with
  | base m => exact hs _ m
  | step _ r => exact hr _ _ r
theorem Rch.in (h : Rch R S s) {M : List Nat} (hs : ∀ s ∈ S, s ∈ M) (hr : ∀ s ∈ M, ∀ t, R s t → t ∈ M) : s ∈ M := by
  induction h with
  | base m => exact hs _ m
  | step _ r ih => exact hr _ ih _ r
open Classical in
theorem mem_cl (hs : ∀ s ∈ S, s < n) (hr : ∀ s t, R s t → t < n) {s : Nat} : s ∈ cl R n S ↔ Rch R S s := by
  unfold cl
  rw [List.mem_filter, List.mem_range, decide_eq_true_iff]
  exact ⟨fun h => h.2, fun h => ⟨h.lt hs hr, h⟩⟩
theorem cl_lt {s : Nat} (h : s ∈ cl R n S) : s < n := by
  unfold cl at h
  rw [List.mem_filter, List.mem_range] at h
  exact h.1
theorem cl_sorted : (cl R n S).Pairwise fun a b => leE dN a b = true := by
  unfold cl
  refine List.Pairwise.sublist List.filter_sublist (List.pairwise_lt_range.imp ?_)
  intro a b h
  rw [leN, decide_eq_true_iff]
  omega
theorem cl_nodup : (cl R n S).Nodup := List.nodup_range.sublist List.filter_sublist
theorem cl_of {M : List Nat} (nd : M.Nodup) (hs : ∀ s ∈ S, s < n) (hr : ∀ s t, R s t → t < n) (h : ∀ s, s ∈ M ↔ Rch R S s) : sortE dN M = cl R n S :=
  sorted_eq tN ((sortE_perm dN M).trans ((List.perm_ext_iff_of_nodup nd cl_nodup).mpr fun s => by rw [h, mem_cl hs hr])) (sortE_sorted dN M) cl_sorted
open Classical in
theorem cl_eq (h : ∀ s, Rch R S s ↔ Rch R' S' s) : cl R n S = cl R' n S' := by
  unfold cl
  congr 1
  funext s
  exact decide_eq_decide.mpr (h s)
theorem cl_congr (hs : ∀ s, s ∈ S ↔ s ∈ S') : cl R n S = cl R n S' := cl_eq fun _ => ⟨fun h => h.mono (fun s m => (hs s).mp m) fun _ _ h => h, fun h => h.mono (fun s m => (hs s).mpr m) fun _ _ h => h⟩
open Classical in
theorem cl_nil : cl R n [] = [] := by
  unfold cl
  rw [List.filter_eq_nil_iff]
  intro s _ h
  have h : Rch R [] s := of_decide_eq_true h
  exact absurd (h.in (M := []) (fun _ m => m) fun s m => by cases m) (by simp)
open Classical in
theorem cl_pos {s : Nat} (hs : ∀ s ∈ S, s < n) (m : s ∈ S) : cl R n S ≠ [] := fun e => by
  have : s ∈ cl R n S := by
    unfold cl
    rw [List.mem_filter, List.mem_range, decide_eq_true_iff]
    exact ⟨hs _ m, .base m⟩
  rw [e] at this
  cases this
end
theorem nodup_lt {M : List Nat} {n : Nat} (nd : M.Nodup) (h : ∀ s ∈ M, s < n) : M.length ≤ n := by
  have := nd.length_le_of_subset (l₂ := List.range n) fun s m => List.mem_range.mpr (h s m)
  simpa using this
end Z
set_option Elab.async false
set_option linter.all false
set_option maxRecDepth 100000
/-! Y4: what is wanted behind an expression. -/
namespace Z
open PySem PySem.Spec PyProof.Rows L2 SX
section
variable {ev : Ev} {ma mb : M O} {mc md : M Bool} {m m' : M Out} {R : O → Ev → Prop} {RB : Bool → Ev → Prop} {Q : Out → Ev → Prop} {i : Nat}
theorem wp_op {g : PyData → PyData → Option O} (h : wp ma ev fun p e => wp mb e fun q e2 => ∃ o, g p.data q.data = some o ∧ R o e2) : wp (mOp g ma mb) ev R := by
  obtain ⟨p, e, h1, q, e2, h2, o, h3, h4⟩ := h
  exact ⟨o, e2, by simp [h1, h2, h3], h4⟩
theorem wp_get (h : wp ma ev fun p e => wp mb e fun q e2 => ∃ o, ixA (.dat p.data) q.data = some o ∧ R o e2) : wp (mGet ma mb) ev R := wp_op h
theorem wp_getN {o : O} (h0 : ev[i]?.bind Sl.see = some o) (h : wp mb ev fun p e => ∃ o r, e[i]?.bind Sl.see = some o ∧ ixA o p.data = some (.dat r) ∧ R (.dat r) e) : wp (mGetN i mb) ev R := by
  obtain ⟨p, e, h1, o', r, h2, h3, h4⟩ := h
  exact ⟨.dat r, e, by unfold mGetN; simp only [h0, Option.bind_some, h1, h2, h3], h4⟩
theorem wp_tru {f : O → Option Bool} (h : wp ma ev fun p e => ∃ b, f p = some b ∧ RB b e) : wp (mTru f ma) ev RB := by
  obtain ⟨p, e, h1, b, h2, h3⟩ := h
  exact ⟨b, e, by simp [h1, h2], h3⟩
theorem wp_c1 {g : O → Option O} (h : wp ma ev fun p e => ∃ o, g p = some o ∧ R o e) : wp (mC1 g ma) ev R := by
  obtain ⟨p, e, h1, b, h2, h3⟩ := h
  exact ⟨b, e, by simp [h1, h2], h3⟩
theorem wp_ex (h : wp ma ev fun _ e => Q .nx e) : wp (mEx ma) ev Q := by
  obtain ⟨p, e, h1, h2⟩ := h
  exact ⟨.nx, e, by simp [h1], h2⟩
theorem wp_ifs (h : wp mc ev fun b e => (b = true → wp m e Q) ∧ (b = false → wp m' e Q)) : wp (mIfS mc m m') ev Q := by
  obtain ⟨b, e, h1, h2, h3⟩ := h
  unfold wp
  cases b with
  | true =>
    obtain ⟨o, e2, h4, h5⟩ := h2 rfl
    exact ⟨o, e2, by simp [h1, h4], h5⟩
  | false =>
    obtain ⟨o, e2, h4, h5⟩ := h3 rfl
    exact ⟨o, e2, by simp [h1, h4], h5⟩
theorem wp_put {e : Ev} {o : O} (h : ∃ sl, e[i]? = some sl ∧ (sl = .un ∨ ∃ q, sl = .var q)) (q : Q .nx (e.set i (.var o))) : ∃ e', mPut i o e = some e' ∧ Q .nx e' := by
  refine ⟨e.set i (.var o), ?_, q⟩
  obtain ⟨sl, h1, rfl | ⟨q, rfl⟩⟩ := h <;> simp [h1]
end
theorem met_at {T : String} {l : Lv} {ms : M (List O)} {f : O → List O → Option (O × O)} {ev ev1 ev2 e3 : Ev} {i : Nat} {p : List PyData} {t node r node' : O} {mk : O → Sl} {os : List O} (h1 : l ev = some ((i, p), ev1)) (h2 : vw1 i ev1 = some (t, mk, ev2)) (h3 : atP t p = some node) (h4 : tyO T node = true)
    (h5 : ms ev2 = some (os, e3)) (h6 : isRo i e3 = true) (h7 : f node os = some (r, node')) : mMet T l ms f ev = some (r, e3.set i (mk (putP t p node'))) := by
  simp only [e_met, h1, e_bind, h2, h3, h4, if_true, h5, h6, h7, e_map]
theorem sto_at {f : O → PyData → O → Option O} {m mb : M O} {l : Lv} {ev e0 ev1 ev2 e3 : Ev} {v t node k n : O} {i : Nat} {p : List PyData} {mk : O → Sl} (h0 : m ev = some (v, e0)) (h1 : l e0 = some ((i, p), ev1)) (h2 : vw1 i ev1 = some (t, mk, ev2)) (h3 : atP t p = some node)
    (h4 : mb ev2 = some (k, e3)) (h5 : isRo i e3 = true) (h6 : f node k.data v = some n) : mSto f m l mb ev = some (.nx, e3.set i (mk (putP t p n))) := by
  simp only [e_sto, h0, e_bind, h1, h2, h3, h4, h5, if_true, h6, e_map]
/-- x.append(e): x an own list, e read only -/
theorem ap_own {α : Type} [DecidableEq α] {f : α → PyData} {i : Nat} {ev : Ev} {l : List α} {a : α} {me : M O} (h : ev[i]? = some (.var (oL f l))) (he : me (ev.set i (.ro (oL f l))) = some (.dat (f a), ev.set i (.ro (oL f l)))) (hl : l.length + 1 ≤ 1000000) :
    mEx (mMet "list" (lN i) (mCons me mNil) fAppend) ev = some (.nx, ev.set i (.var (oL f (l ++ [a])))) := by
  have hi : i < ev.length := (List.getElem?_eq_some_iff.mp h).1
  have e1 : lN i ev = some ((i, []), ev) := by rw [e_ln, e_vw1, h]; rfl
  have e2 : vw1 i ev = some (oL f l, Sl.var, ev.set i (.ro (oL f l))) := by rw [e_vw1, h]
  have e3 : isRo i (ev.set i (.ro (oL f l))) = true := by rw [e_isro, List.getElem?_set_self hi]
  have e4 : fAppend (oL f l) [.dat (f a)] = some (.dat .none, oL f (l ++ [a])) := by rw [app_oL f l a, fitS_ok hl]
  have e5 : mCons me mNil (ev.set i (.ro (oL f l))) = some ([.dat (f a)], ev.set i (.ro (oL f l))) := by rw [e_cons, he, e_bind, e_nil, e_map]
  have e6 : mMet "list" (lN i) (mCons me mNil) fAppend ev = some (.dat .none, ev.set i (.var (oL f (l ++ [a])))) := by
    rw [e_met, e1, e_bind, e2, e_bind, e_atP0, e_bind, if_pos (ty_oL f l), e5, e_bind, if_pos e3, e4, e_map, List.set_set, e_putP0]
  rw [e_ex, e6, e_map]
theorem ap_any {i : Nat} {ev e2 : Ev} {os : List O} {o : O} {me : M O} (h : ev[i]? = some (.var (.lst os))) (he : me (ev.set i (.ro (.lst os))) = some (o, e2)) (h2 : e2[i]? = some (.ro (.lst os))) (hl : os.length + 1 ≤ 1000000) :
    mEx (mMet "list" (lN i) (mCons me mNil) fAppend) ev = some (.nx, e2.set i (.var (.lst (os ++ [o])))) := by
  have e1 : lN i ev = some ((i, []), ev) := by rw [e_ln, e_vw1, h]; rfl
  have e2' : vw1 i ev = some (.lst os, Sl.var, ev.set i (.ro (.lst os))) := by rw [e_vw1, h]
  have e3 : isRo i e2 = true := by rw [e_isro, h2]
  have e5 : mCons me mNil (ev.set i (.ro (.lst os))) = some ([o], e2) := by rw [e_cons, he, e_bind, e_nil, e_map]
  have e6 : mMet "list" (lN i) (mCons me mNil) fAppend ev = some (.dat .none, e2.set i (.var (.lst (os ++ [o])))) := by
    rw [e_met, e1, e_bind, e2', e_bind, e_atP0, e_bind, if_pos (e_tyl), e5, e_bind, if_pos e3, e_app, fitS_ok hl, e_map, e_putP0]
  rw [e_ex, e6, e_map]
theorem ap_own2 {α : Type} {f : α → PyData} {i : Nat} {ev e2 : Ev} {l : List α} {a : α} {me : M O} (h : ev[i]? = some (.var (oL f l))) (he : me (ev.set i (.ro (oL f l))) = some (.dat (f a), e2)) (h2 : e2[i]? = some (.ro (oL f l))) (hl : l.length + 1 ≤ 1000000) :
    mEx (mMet "list" (lN i) (mCons me mNil) fAppend) ev = some (.nx, e2.set i (.var (oL f (l ++ [a])))) := by
  have := ap_any (o := .dat (f a)) h he h2 (by rw [List.length_map]; exact hl)
  rw [this]
  simp [oL]
theorem e_popi {os : List O} {i : Int} : fPop (.lst os) [.dat (.int i)] = if -(2 ^ 63) ≤ i ∧ i < 2 ^ 63 then (seqIndex? i os.length).bind fun k => (os[k]?).map fun o => (o, .lst (os.eraseIdx k)) else none := id rfl
theorem pop_at {os : List O} {r : Nat} (h : r < os.length) (h2 : os.length ≤ 1000000) : fPop (.lst os) [.dat (.int (r : Int))] = (os[r]?).map fun o => (o, .lst (os.eraseIdx r)) := by
  have hsi : seqIndex? (r : Int) os.length = some r := by
    unfold seqIndex?
    have a1 : ¬ (r : Int) < 0 := by omega
    simp [a1]
    omega
  rw [e_popi, if_pos ⟨by omega, by omega⟩, hsi, Option.bind_some]
theorem pick {α : Type} {l : List α} {r : Nat} (h : r < l.length) : ∃ x ∈ l, l[r]? = some x := ⟨l[r], List.getElem_mem h, List.getElem?_eq_getElem h⟩
/-! ### texts -/
theorem str_ext {x y : Str} (h : x.cps.toList = y.cps.toList) : x = y := by
  cases x; cases y
  simp only [Str.mk.injEq]
  exact Array.toList_inj.mp h
theorem cps_app (x y : Str) : (x ++ y).cps.toList = x.cps.toList ++ y.cps.toList := Array.toList_append
theorem len_cps (x : Str) : x.length = x.cps.toList.length := by show x.cps.size = _; simp
theorem S_cps (x : Str) : x = S x.cps.toList := by cases x; rfl
theorem slice_to' {x : Str} {i : Nat} : Txt.slice x none (some (i : Int)) = S (x.cps.toList.take i) := by
  conv => lhs; rw [S_cps x]
  rw [slice_to (by omega), Int.toNat_natCast]
theorem slice_from' {x : Str} {i : Nat} : Txt.slice x (some (i : Int)) none = S (x.cps.toList.drop i) := by
  conv => lhs; rw [S_cps x]
  rw [slice_from (by omega), Int.toNat_natCast]
theorem cps_S (l : List Nat) : (S l).cps.toList = l := rfl
theorem slD_str {x : Str} {lo hi : Option Int} (h : x.length ≤ 1000) : slD (.str x) lo hi = some (.dat (.str (Txt.slice x lo hi))) := by
  have := PySem.sizeLine_eq
  show (if x.length ≤ sizeLine then _ else _) = _
  rw [if_pos (by omega)]
  rfl
theorem addD_str {x y : Str} (h : x.length + y.length ≤ 1000) : addD (.str x) (.str y) = some (.dat (.str (x ++ y))) := by
  have := PySem.sizeLine_eq
  show (if x.length + y.length ≤ sizeLine then _ else _) = _
  rw [if_pos (by omega)]
  rfl
theorem ix_str {x : Str} {r : Nat} (h : x.length ≤ 1000) (h2 : r < x.length) : ∃ c, x.cps.toList[r]? = some c ∧ ixA (.dat (.str x)) (.int r) = some (.dat (.str ⟨#[c]⟩)) := by
  have := PySem.sizeLine_eq
  have hl := len_cps x
  obtain ⟨c, _, e⟩ := pick (l := x.cps.toList) (r := r) (by omega)
  refine ⟨c, e, ?_⟩
  show (if x.length ≤ sizeLine then (atI x.cps.toList (r : Int)).map fun c => PyData.str ⟨#[c]⟩ else none).map O.dat = _
  rw [if_pos (by omega), e_atin, e]
  rfl
theorem len_str {x : Str} (h : x.length ≤ 1000) : lenO (.dat (.str x)) = some (.dat (.int x.length)) := by
  have := PySem.sizeLine_eq
  show (if x.length ≤ sizeLine then _ else _) = _
  rw [if_pos (by omega)]
  rfl
end Z
set_option Elab.async false
set_option linter.all false
set_option maxRecDepth 100000
/-! Y5: dicts of typed things. -/
namespace Z
open PySem PySem.Spec PyProof.Rows L2
structure GoodK {α : Type} (f : α → PyData) (kf : α → NestedKey) : Prop where
  nk : ∀ a, nkD (f a) = some (kf a)
  inj : ∀ a b, kf a = kf b → a = b
  dat : ∀ a, (kf a).data = f a
  ok : ∀ {γ : Type} (es : List (NestedKey × γ)), (∀ p ∈ es, ∃ b, p.1 = kf b) → ∀ a, okKey es (kf a) = true
def kN (n : Nat) : NestedKey := .num n
def kO : Option Str → NestedKey
  | none => .none
  | some x => .text x
def kL (l : Lb) : NestedKey := .tup [.text l.1, kO l.2]
def kT (l : List Nat) : NestedKey := .tup (l.map kN)
theorem okTup {γ : Type} {es : List (NestedKey × γ)} {ks : List NestedKey} (h : ∀ p ∈ es, ∃ l, p.1 = .tup l) (hd : (NestedKey.tup ks).depth ≤ 8) : okKey es (.tup ks) = true := by
  show ((es.all fun p => isTup p.1) && decide ((NestedKey.tup ks).depth ≤ 8)) = true
  rw [Bool.and_eq_true, List.all_eq_true]
  refine ⟨fun p hp => ?_, decide_eq_true hd⟩
  obtain ⟨l, e⟩ := h p hp
  rw [e]; rfl
theorem gkN : GoodK dN kN := ⟨fun _ => rfl, fun a b h => by injection h with h; omega, fun _ => rfl, fun es h a => by
  show (es.all fun p => !isTup p.1) = true
  rw [List.all_eq_true]
  intro p hp
  obtain ⟨b, e⟩ := h p hp
  rw [e]; rfl⟩
theorem nkO (o : Option Str) : nkD (dO o) = some (kO o) := by cases o <;> rfl
theorem kO_inj {a b : Option Str} (h : kO a = kO b) : a = b := by
  cases a with
  | none => cases b with
    | none => rfl
    | some y => cases h
  | some x => cases b with
    | none => cases h
    | some y => injection h with h; rw [h]
theorem gkL : GoodK dL kL := ⟨fun a => by
  show (nkDs [.str a.1, dO a.2]).map NestedKey.tup = _
  simp only [nkDs, nkD, nkO, Option.bind_some, Option.map_some, kL], fun a b h => by
  injection h with h
  injection h with h1 h2
  injection h1 with h1
  injection h2 with h2 _
  have := kO_inj h2
  obtain ⟨a1, a2⟩ := a
  obtain ⟨b1, b2⟩ := b
  simp only at h1 this
  rw [h1, this], fun a => by
  obtain ⟨a1, a2⟩ := a
  cases a2 <;> rfl, fun es h a => okTup (fun p hp => let ⟨b, e⟩ := h p hp; ⟨_, e⟩) (by
  obtain ⟨a1, a2⟩ := a
  cases a2 <;> simp [kO, NestedKey.depth, NestedKey.depthAll])⟩
theorem nkDs_N : ∀ l : List Nat, nkDs (l.map dN) = some (l.map kN)
  | [] => rfl
  | a :: l => by
    rw [List.map_cons, nkDs, nkDs_N l]
    rfl
theorem datas_N : ∀ l : List Nat, NestedKey.datas (l.map kN) = l.map dN
  | [] => rfl
  | a :: l => by
    rw [List.map_cons, NestedKey.datas, datas_N l]
    rfl
theorem depths_N : ∀ l : List Nat, NestedKey.depthAll (l.map kN) = 0
  | [] => rfl
  | a :: l => by
    rw [List.map_cons, NestedKey.depthAll, depths_N l]
    rfl
theorem kN_map_inj : ∀ {l m : List Nat}, l.map kN = m.map kN → l = m
  | [], [], _ => rfl
  | [], _ :: _, h => by cases h
  | _ :: _, [], h => by cases h
  | a :: l, b :: m, h => by
    rw [List.map_cons, List.map_cons] at h
    injection h with h1 h2
    rw [gkN.inj a b h1, kN_map_inj h2]
theorem gkT : GoodK (dT dN) kT := ⟨fun a => by
  show (nkDs (a.map dN)).map NestedKey.tup = _
  rw [nkDs_N]
  rfl, fun a b h => by
  injection h with h
  exact kN_map_inj h, fun a => by
  show (NestedKey.tup (a.map kN)).data = _
  rw [NestedKey.data, datas_N]
  rfl, fun es h a => okTup (fun p hp => let ⟨b, e⟩ := h p hp; ⟨_, e⟩) (by
  show (NestedKey.tup (a.map kN)).depth ≤ 8
  rw [NestedKey.depth, depths_N]
  omega)⟩
def lk {α β : Type} [DecidableEq α] : List (α × β) → α → Option β
  | [], _ => none
  | p :: l, a => if p.1 = a then some p.2 else lk l a
def oD {α β : Type} (kf : α → NestedKey) (vf : β → O) (l : List (α × β)) : O := .dct (l.map fun p => (kf p.1, vf p.2))
def dD {α β : Type} (f : α → PyData) (vd : β → PyData) (l : List (α × β)) : PyData := .dict (l.map fun p => (f p.1, vd p.2))
section
variable {α β : Type} [DecidableEq α] {f : α → PyData} {kf : α → NestedKey} {vf : β → O} {vd : β → PyData}
theorem d_ok (g : GoodK f kf) (l : List (α × β)) (a : α) : okKey (l.map fun p => (kf p.1, vf p.2)) (kf a) = true := g.ok _ (fun p hp => by
  obtain ⟨q, _, rfl⟩ := List.mem_map.mp hp
  exact ⟨q.1, rfl⟩) a
theorem d_look (g : GoodK f kf) (a : α) : ∀ l : List (α × β), look (l.map fun p => (kf p.1, vf p.2)) (kf a) = (lk l a).map vf
  | [] => rfl
  | p :: l => by
    rw [List.map_cons, lk]
    by_cases e : p.1 = a
    · rw [look_pos (p := (kf p.1, vf p.2)) (by rw [e]), if_pos e]
      rfl
    · rw [look_neg (p := (kf p.1, vf p.2)) (fun z => e (g.inj _ _ z)), d_look g a l, if_neg e]
theorem lookup_none {a : α} : ∀ {l : List (α × β)}, lk l a = none ↔ a ∉ l.map (·.1)
  | [] => by simp [lk]
  | p :: l => by
    rw [lk, List.map_cons, List.mem_cons, not_or]
    by_cases e : p.1 = a
    · simp [e]
    · have e' : ¬ a = p.1 := fun z => e z.symm
      rw [if_neg e]
      simp only [e', not_false_eq_true, true_and]
      exact lookup_none
theorem lookup_mem {a : α} {b : β} : ∀ {l : List (α × β)}, lk l a = some b → (a, b) ∈ l
  | [], h => by cases h
  | p :: l, h => by
    rw [lk] at h
    by_cases e : p.1 = a
    · rw [if_pos e] at h
      cases h
      rw [← e]
      exact List.mem_cons_self
    · rw [if_neg e] at h
      exact List.mem_cons_of_mem _ (lookup_mem h)
theorem d_isSome (l : List (α × β)) (a : α) : (lk l a).isSome = decide (a ∈ l.map (·.1)) := by
  cases h : lk l a with
  | none => simp only [Option.isSome_none]; exact (decide_eq_false (lookup_none.mp h)).symm
  | some b => simp only [Option.isSome_some]; exact (decide_eq_true (List.mem_map.mpr ⟨_, lookup_mem h, rfl⟩)).symm
theorem d_in (g : GoodK f kf) (l : List (α × β)) (a : α) : inA (f a) (oD kf vf l) = oB (decide (a ∈ l.map (·.1))) := by
  show ((nkD (f a)).bind fun k => if okKey (l.map fun p => (kf p.1, vf p.2)) k = true then oB (look (l.map fun p => (kf p.1, vf p.2)) k).isSome else none) = _
  rw [g.nk, Option.bind_some, if_pos (d_ok g l a), d_look g, Option.isSome_map, d_isSome]
theorem d_nin (g : GoodK f kf) (l : List (α × β)) (a : α) : ninA (f a) (oD kf vf l) = oB (!decide (a ∈ l.map (·.1))) := by
  show ((nkD (f a)).bind fun k => if okKey (l.map fun p => (kf p.1, vf p.2)) k = true then oB (!(look (l.map fun p => (kf p.1, vf p.2)) k).isSome) else none) = _
  rw [g.nk, Option.bind_some, if_pos (d_ok g l a), d_look g, Option.isSome_map, d_isSome]
theorem d_get (g : GoodK f kf) (l : List (α × β)) (a : α) : ixA (oD kf vf l) (f a) = (lk l a).map vf := by
  show dget _ _ = _
  unfold dget
  rw [g.nk, Option.bind_some, if_pos (d_ok g l a), d_look g]
theorem d_at (g : GoodK f kf) (l : List (α × β)) (a : α) : at1 (oD kf vf l) (f a) = (lk l a).map vf := d_get g l a
theorem d_put (g : GoodK f kf) {l : List (α × β)} {a : α} (h : a ∉ l.map (·.1)) (b : β) (hl : l.length + 1 ≤ 1000000) : sAny (oD kf vf l) (f a) (vf b) = some (oD kf vf (l ++ [(a, b)])) := by
  unfold oD
  rw [e_sany2, e_sdct, g.nk, e_bind, if_pos (d_ok g l a), List.length_map, fitS_ok hl]
  unfold tput
  rw [d_look g, lookup_none.mpr h]
  simp
theorem d_row (g : GoodK f kf) (l : List (α × β)) : rowO (oD kf vf l) = some ((l.map (·.1)).map f) := by
  show some ((l.map fun p => (kf p.1, vf p.2)).map fun p => p.1.data) = _
  rw [List.map_map, List.map_map]
  refine congrArg some (List.map_congr_left fun p _ => ?_)
  exact g.dat p.1
theorem d_sorted (g : GoodK f kf) {l : List (α × β)} (h : Srt f (l.map (·.1))) : sortedO (oD kf vf l) = some (oL f (sortE f (l.map (·.1)))) := by
  unfold sortedO
  rw [d_row g, Option.bind_some, if_pos (show srt ((l.map (·.1)).map f) = true from h), sortD_map, oL_eq]
theorem d_data (g : GoodK f kf) (l : List (α × β)) : (oD kf vf l).data = dD f (fun b => (vf b).data) l := by
  show PyData.dict (O.dataKs _) = _
  rw [O.dataKs_eq, List.map_map]
  refine congrArg PyData.dict (List.map_congr_left fun p _ => ?_)
  show ((kf p.1).data, _) = _
  rw [g.dat]
theorem thaw_D (g : GoodK f kf) : ∀ l : List (α × β), thawK (l.map fun p => (f p.1, vd p.2)) = some (l.map fun p => (kf p.1, O.dat (vd p.2)))
  | [] => rfl
  | p :: l => by
    rw [List.map_cons, thawK, thaw_D g l, g.nk]
    rfl
theorem dd_get (g : GoodK f kf) (l : List (α × β)) (a : α) : ixA (.dat (dD f vd l)) (f a) = (lk l a).map fun b => .dat (vd b) := by
  show (thawK _).bind _ = _
  rw [thaw_D g, Option.bind_some]
  unfold dget
  rw [g.nk, Option.bind_some, if_pos (d_ok (vf := fun b => O.dat (vd b)) g l a), d_look (vf := fun b => O.dat (vd b)) g]
theorem dd_sorted (g : GoodK f kf) {l : List (α × β)} (h : Srt f (l.map (·.1))) : sortedO (.dat (dD f vd l)) = some (oL f (sortE f (l.map (·.1)))) := by
  have hr : rowO (.dat (dD f vd l)) = some ((l.map (·.1)).map f) := by
    show (thawK _).map _ = _
    rw [thaw_D g, Option.map_some]
    exact d_row (vf := fun b => O.dat (vd b)) g l
  unfold sortedO
  rw [hr, Option.bind_some, if_pos (show srt ((l.map (·.1)).map f) = true from h), sortD_map, oL_eq]
end
/-! a place behind setdefault -/
def putA {α β : Type} [DecidableEq α] (a : α) (b : β) : List (α × β) → List (α × β)
  | [] => []
  | p :: l => if p.1 = a then (p.1, b) :: l else p :: putA a b l
def setd {α β : Type} [DecidableEq α] (l : List (α × β)) (a : α) (b0 : β) : List (α × β) := if a ∈ l.map (·.1) then l else l ++ [(a, b0)]
/-- d.setdefault(a, b0) changed by g -/
def updA {α β : Type} [DecidableEq α] (l : List (α × β)) (a : α) (b0 : β) (g : β → β) : List (α × β) := putA a (g ((lk l a).getD b0)) (setd l a b0)
section
variable {α β : Type} [DecidableEq α] {f : α → PyData} {kf : α → NestedKey} {vf : β → O}
theorem putA_map (g : GoodK f kf) (a : α) (b : β) : ∀ l : List (α × β), putF (kf a) (vf b) (l.map fun p => (kf p.1, vf p.2)) = (putA a b l).map fun p => (kf p.1, vf p.2)
  | [] => rfl
  | p :: l => by
    rw [List.map_cons, putF, putA, putA_map g a b l]
    by_cases h : p.1 = a
    · rw [if_pos (by rw [h]), if_pos h]; rfl
    · rw [if_neg (fun z => h (g.inj _ _ z)), if_neg h]; rfl
theorem putA_keys (a : α) (b : β) : ∀ l : List (α × β), (putA a b l).map (·.1) = l.map (·.1)
  | [] => rfl
  | p :: l => by
    rw [putA]
    split
    · rfl
    · rw [List.map_cons, List.map_cons, putA_keys a b l]
theorem putA_lookup (a : α) (b : β) : ∀ (l : List (α × β)), a ∈ l.map (·.1) → ∀ x, lk (putA a b l) x = if x = a then some b else lk l x
  | [], h, _ => by simp at h
  | p :: l, h, x => by
    rw [putA]
    by_cases e : p.1 = a
    · rw [if_pos e, lk, lk]
      by_cases hx : x = a
      · rw [if_pos (by rw [e, hx]), if_pos hx]
      · rw [if_neg (fun z => hx (by rw [← z, e])), if_neg hx, if_neg (fun z => hx (by rw [← z, e]))]
    · rw [if_neg e, lk, lk]
      have h' : a ∈ l.map (·.1) := by
        rw [List.map_cons, List.mem_cons] at h
        exact h.resolve_left fun z => e z.symm
      by_cases hx : p.1 = x
      · rw [if_pos hx, if_pos hx, if_neg (fun z => e (by rw [hx, z]))]
      · rw [if_neg hx, if_neg hx]
        exact putA_lookup a b l h' x
theorem lookup_app (l : List (α × β)) (a : α) (b : β) (h : a ∉ l.map (·.1)) (x : α) : lk (l ++ [(a, b)]) x = if x = a then some b else lk l x := by
  induction l with
  | nil =>
    show (if a = x then some b else none) = if x = a then some b else none
    by_cases hx : x = a
    · rw [if_pos hx, if_pos hx.symm]
    · rw [if_neg hx, if_neg fun z => hx z.symm]
  | cons p l ih =>
    rw [List.map_cons, List.mem_cons, not_or] at h
    rw [List.cons_append, lk, lk, ih h.2]
    by_cases hx : p.1 = x
    · rw [if_pos hx, if_pos hx, if_neg fun z => h.1 (by rw [← z, hx])]
    · rw [if_neg hx, if_neg hx]
theorem setd_mem (l : List (α × β)) (a : α) (b0 : β) : a ∈ (setd l a b0).map (·.1) := by
  unfold setd
  split
  · assumption
  · simp
theorem setd_lookup (l : List (α × β)) (a : α) (b0 : β) (x : α) : lk (setd l a b0) x = if x = a then some ((lk l a).getD b0) else lk l x := by
  unfold setd
  split
  · rename_i h
    by_cases hx : x = a
    · rw [if_pos hx, hx]
      cases e : lk l a with
      | none => exact absurd h (lookup_none.mp e)
      | some b => rfl
    · rw [if_neg hx]
  · rename_i h
    rw [lookup_app l a b0 h x, lookup_none.mpr h]
    rfl
theorem updA_keys (l : List (α × β)) (a : α) (b0 : β) (g : β → β) : (updA l a b0 g).map (·.1) = if a ∈ l.map (·.1) then l.map (·.1) else l.map (·.1) ++ [a] := by
  unfold updA
  rw [putA_keys]
  unfold setd
  split <;> simp
theorem updA_nodup (l : List (α × β)) (a : α) (b0 : β) (g : β → β) (h : (l.map (·.1)).Nodup) : ((updA l a b0 g).map (·.1)).Nodup := by
  rw [updA_keys]
  split
  · exact h
  · rename_i hn
    exact List.nodup_append.mpr ⟨h, by simp, fun x hx y hy e => hn (by rw [List.mem_singleton.mp hy] at e; rw [← e]; exact hx)⟩
theorem updA_mem (l : List (α × β)) (a : α) (b0 : β) (g : β → β) (x : α) : x ∈ (updA l a b0 g).map (·.1) ↔ x ∈ l.map (·.1) ∨ x = a := by
  rw [updA_keys]
  split
  · rename_i h
    exact ⟨.inl, fun z => z.elim id fun e => e ▸ h⟩
  · rw [List.mem_append, List.mem_singleton]
theorem updA_lookup (l : List (α × β)) (a : α) (b0 : β) (g : β → β) (x : α) : lk (updA l a b0 g) x = if x = a then some (g ((lk l a).getD b0)) else lk l x := by
  unfold updA
  rw [putA_lookup _ _ _ (setd_mem l a b0), setd_lookup]
  by_cases hx : x = a <;> simp [hx]
theorem lookup_of_mem {l : List (α × β)} (h : (l.map (·.1)).Nodup) {p : α × β} (hp : p ∈ l) : lk l p.1 = some p.2 := by
  induction l with
  | nil => cases hp
  | cons q l ih =>
    rw [List.map_cons, List.nodup_cons] at h
    rw [lk]
    rcases List.mem_cons.mp hp with e | hp
    · rw [if_pos (by rw [e]), e]
    · rw [if_neg fun z => h.1 (List.mem_map.mpr ⟨p, hp, z.symm⟩)]
      exact ih h.2 hp
/-- d.setdefault(a, b0).m(..), d an own dict in the slot i -/
theorem setd_met (g : GoodK f kf) {i : Nat} {ev : Ev} {l : List (α × β)} {a : α} {b0 : β} {ms ms2 : M (List O)} {os : List O} {F : O → List O → Option (O × O)} {r : O} {T : String} {u : β → β} (h : ev[i]? = some (.var (oD kf vf l))) (h1 : ms (ev.set i (.ro (oD kf vf l))) = some ([.dat (f a), vf b0], ev.set i (.ro (oD kf vf l)))) (hl : l.length + 1 ≤ 1000000)
    (h2 : ∀ l', ms2 (ev.set i (.ro (oD kf vf l'))) = some (os, ev.set i (.ro (oD kf vf l')))) (hT : ∀ b, tyO T (vf b) = true) (hF : F (vf ((lk l a).getD b0)) os = some (r, vf (u ((lk l a).getD b0)))) :
    mMet T (lSetd (lN i) ms) ms2 F ev = some (r, ev.set i (.var (oD kf vf (updA l a b0 u)))) := by
  have hi : i < ev.length := (List.getElem?_eq_some_iff.mp h).1
  have e1 : lN i ev = some ((i, []), ev) := by rw [e_ln, e_vw1, h]; rfl
  have e2 : vw1 i ev = some (oD kf vf l, Sl.var, ev.set i (.ro (oD kf vf l))) := by rw [e_vw1, h]
  have e3 : isRo i (ev.set i (.ro (oD kf vf l))) = true := by rw [e_isro, List.getElem?_set_self hi]
  have L : lSetd (lN i) ms ev = some ((i, [f a]), ev.set i (.var (oD kf vf (setd l a b0)))) := by
    unfold lSetd
    simp only [e1, e_bind, e2, h1, e3, if_true, e_atP0]
    show ((nkD (f a)).bind fun k => _) = _
    have hlt : (l.map fun p => (kf p.1, vf p.2)).length < sizeLine := by have := PySem.sizeLine_eq; rw [List.length_map]; omega
    rw [g.nk, e_bind, if_pos ⟨d_ok g l a, hlt⟩, d_look g]
    unfold setd
    by_cases hm : a ∈ l.map (·.1)
    · cases q : lk l a with
      | none => exact absurd hm (lookup_none.mp q)
      | some b =>
        rw [if_pos hm]
        simp only [e_map, e_putP0, List.set_set]
        rfl
    · rw [lookup_none.mpr hm, if_neg hm]
      simp only [Option.map_none, e_putP0, List.set_set]
      unfold oD
      rw [List.map_append]
      rfl
  have hs : (ev.set i (.var (oD kf vf (setd l a b0))))[i]? = some (.var (oD kf vf (setd l a b0))) := List.getElem?_set_self hi
  have e4 : vw1 i (ev.set i (.var (oD kf vf (setd l a b0)))) = some (oD kf vf (setd l a b0), Sl.var, ev.set i (.ro (oD kf vf (setd l a b0)))) := by rw [e_vw1, hs]; simp only [List.set_set]
  have e5 : atP (oD kf vf (setd l a b0)) [f a] = some (vf ((lk l a).getD b0)) := by
    rw [e_atP1, d_at g, setd_lookup, if_pos rfl]
    rfl
  have e6 : isRo i (ev.set i (.ro (oD kf vf (setd l a b0)))) = true := by rw [e_isro, List.getElem?_set_self hi]
  have := met_at (T := T) (f := F) L e4 e5 (hT _) (h2 _) e6 hF
  rw [this]
  have e7 : putP (oD kf vf (setd l a b0)) [f a] (vf (u ((lk l a).getD b0))) = oD kf vf (updA l a b0 u) := by
    rw [e_putP1, d_at g, setd_lookup, if_pos rfl, e_map]
    show put1 (.dct _) (f a) (putP _ [] _) = _
    rw [e_putP0, e_put1d, g.nk]
    show O.dct (putF (kf a) _ _) = _
    rw [putA_map g]
    rfl
  rw [e7, List.set_set]
end
theorem forL_cons_nx {t : PyData → Ev → Option Ev} {b : M Out} {d : PyData} {ds : List PyData} {ev e1 e2 : Ev} (h1 : t d ev = some e1) (h2 : b e1 = some (.nx, e2)) : forL t b (d :: ds) ev = forL t b ds (mask ev e2) := by
  rw [forL]
  simp only [h1, Option.bind_some, h2]
end Z
set_option Elab.async false
set_option linter.all false
set_option maxRecDepth 100000
/-! Y6: how long data are when shown. -/
namespace Z
open PySem PySem.Spec PyProof.Rows L2
theorem app_length (x y : Str) : (x ++ y).length = x.length + y.length := by
  show (x.cps ++ y.cps).size = x.cps.size + y.cps.size
  rw [Array.size_append]
theorem textFrom_le (b : Nat) : ∀ (ts : List Str) (k : Nat) (acc : Str), (∀ t ∈ ts, t.length ≤ b) → (textFrom k acc ts).length ≤ acc.length + ts.length * (b + 2)
  | [], k, acc, _ => by show acc.length ≤ _; omega
  | t :: r, k, acc, h => by
    have ih := textFrom_le b r (k + 1) (acc ++ (if k > 0 then ", " else "" : String) ++ t) fun x m => h x (List.mem_cons_of_mem _ m)
    have ht := h t List.mem_cons_self
    show (textFrom (k + 1) (acc ++ (if k > 0 then ", " else "" : String) ++ t) r).length ≤ _
    rw [app_length, app_length] at ih
    have h2 : (((if k > 0 then ", " else "" : String) : Str)).length ≤ 2 := by
      split
      · exact Nat.le_of_eq (by decide +kernel)
      · exact Nat.le_trans (Nat.le_of_eq (by decide +kernel : (Str.ofString "").length = 0)) (by omega)
    rw [List.length_cons, Nat.add_mul]
    omega
theorem listText_le {b : Nat} {ts : List Str} (h : ∀ t ∈ ts, t.length ≤ b) : (listText ts).length ≤ ts.length * (b + 2) + 3 := by
  unfold listText
  rw [app_length]
  have h1 := textFrom_le b ts 0 "[" h
  have h2 : (Str.ofString "[").length = 1 := by decide +kernel
  have h3 : (Str.ofString "]").length = 1 := by decide +kernel
  omega
theorem join_le (b : Nat) : ∀ ts : List Str, (∀ t ∈ ts, t.length ≤ b) → (Str.join ", " ts).length ≤ ts.length * (b + 2)
  | [], _ => by show (Str.empty).length ≤ _; exact Nat.zero_le _
  | [x], h => by
    have := h x List.mem_cons_self
    show x.length ≤ _
    simp
    omega
  | x :: y :: r, h => by
    have ih := join_le b (y :: r) fun t m => h t (List.mem_cons_of_mem _ m)
    have hx := h x List.mem_cons_self
    show (x ++ ", " ++ Str.join ", " (y :: r)).length ≤ _
    rw [app_length, app_length, List.length_cons, Nat.add_mul]
    have e2 : (Str.ofString ", ").length = 2 := by decide +kernel
    omega
theorem tupleText_le {b : Nat} {ts : List Str} (h : ∀ t ∈ ts, t.length ≤ b) : (tupleText ts).length ≤ ts.length * (b + 2) + 3 := by
  unfold tupleText
  rw [app_length, app_length]
  have h1 := join_le b ts h
  have h2 : (Str.ofString "(").length = 1 := by decide +kernel
  have h3 : (((if ts.length == 1 then ",)" else ")" : String)) : Str).length ≤ 2 := by
    split
    · exact Nat.le_of_eq (by decide +kernel)
    · exact Nat.le_trans (Nat.le_of_eq (by decide +kernel : (Str.ofString ")").length = 1)) (by omega)
  omega
theorem shownAll_map : ∀ l : List PyData, PyData.shownAll l = l.map PyData.shown
  | [] => rfl
  | a :: l => by rw [PyData.shownAll, shownAll_map l]; rfl
theorem showableAll_of : ∀ l : List PyData, (∀ d ∈ l, d.showable = true) → PyData.showableAll l = true
  | [], _ => rfl
  | a :: l, h => by
    rw [PyData.showableAll, h a List.mem_cons_self, showableAll_of l fun d m => h d (List.mem_cons_of_mem _ m)]
    rfl
theorem plainAll_of : ∀ l : List PyData, (∀ d ∈ l, d.plain = true) → PyData.plainAll l = true
  | [], _ => rfl
  | a :: l, h => by
    rw [PyData.plainAll, h a List.mem_cons_self, plainAll_of l fun d m => h d (List.mem_cons_of_mem _ m)]
    rfl
theorem depthAll_le (k : Nat) : ∀ l : List PyData, (∀ d ∈ l, d.depth ≤ k) → PyData.depthAll l ≤ k
  | [], _ => Nat.zero_le _
  | a :: l, h => by
    have h1 := h a List.mem_cons_self
    have h2 := depthAll_le k l fun d m => h d (List.mem_cons_of_mem _ m)
    rw [PyData.depthAll]
    omega
/-- shown within b signs, at depth k at most -/
structure Sh (d : PyData) (k b : Nat) : Prop where
  pl : d.plain = true
  dp : d.depth ≤ k
  sh : d.showable = true
  le : d.shown.length ≤ b
theorem Sh.tup {l : List PyData} {k b n : Nat} (h : ∀ d ∈ l, Sh d k b) (hn : l.length ≤ n) : Sh (.tuple l) (k + 1) (n * (b + 2) + 3) := ⟨by simpa [PyData.plain] using plainAll_of l fun d m => (h d m).pl, by
  have := depthAll_le k l fun d m => (h d m).dp
  simp only [PyData.depth]; omega, by simpa [PyData.showable] using showableAll_of l fun d m => (h d m).sh, by
  simp only [PyData.shown]
  have := tupleText_le (b := b) (ts := PyData.shownAll l) (by
    rw [shownAll_map]
    intro t ht
    obtain ⟨d, hd, rfl⟩ := List.mem_map.mp ht
    exact (h d hd).le)
  rw [shownAll_map] at this ⊢
  rw [List.length_map] at this
  have h2 := Nat.mul_le_mul_right (b + 2) hn
  omega⟩
theorem Sh.lst {l : List PyData} {k b n : Nat} (h : ∀ d ∈ l, Sh d k b) (hn : l.length ≤ n) : Sh (.list l) (k + 1) (n * (b + 2) + 3) := ⟨by simpa [PyData.plain] using plainAll_of l fun d m => (h d m).pl, by
  have := depthAll_le k l fun d m => (h d m).dp
  simp only [PyData.depth]; omega, by simpa [PyData.showable] using showableAll_of l fun d m => (h d m).sh, by
  simp only [PyData.shown]
  have := listText_le (b := b) (ts := PyData.shownAll l) (by
    rw [shownAll_map]
    intro t ht
    obtain ⟨d, hd, rfl⟩ := List.mem_map.mp ht
    exact (h d hd).le)
  rw [shownAll_map] at this ⊢
  rw [List.length_map] at this
  have h2 := Nat.mul_le_mul_right (b + 2) hn
  omega⟩
theorem Sh.mono {d : PyData} {k k' b b' : Nat} (h : Sh d k b) (hk : k ≤ k') (hb : b ≤ b') : Sh d k' b' := ⟨h.pl, Nat.le_trans h.dp hk, h.sh, Nat.le_trans h.le hb⟩
theorem Sh.dT {α : Type} {f : α → PyData} {l : List α} {k b n : Nat} (h : ∀ a ∈ l, Sh (f a) k b) (hn : l.length ≤ n) : Sh (Z.dT f l) (k + 1) (n * (b + 2) + 3) := Sh.tup (fun d hd => by
  obtain ⟨a, ha, rfl⟩ := List.mem_map.mp hd
  exact h a ha) (by rw [List.length_map]; exact hn)
theorem Sh.dA {α : Type} {f : α → PyData} {l : List α} {k b n : Nat} (h : ∀ a ∈ l, Sh (f a) k b) (hn : l.length ≤ n) : Sh (Z.dA f l) (k + 1) (n * (b + 2) + 3) := Sh.lst (fun d hd => by
  obtain ⟨a, ha, rfl⟩ := List.mem_map.mp hd
  exact h a ha) (by rw [List.length_map]; exact hn)
theorem nat_shown : ∀ n : Nat, n < 100 → (PyData.shown (.int (n : Int))).length ≤ 3 := by
  have : ∀ n : Nat, n < 100 → ((Str.ofString (toString (n : Int)))).length ≤ 3 := by decide +kernel
  exact this
theorem Sh.nat {n : Nat} (h : n < 100) : Sh (dN n) 0 3 := ⟨rfl, Nat.le_refl _, by
  show decide ((n : Int).natAbs.log2 < 1920) = true
  rw [decide_eq_true_iff, Int.natAbs_natCast]
  have := Nat.log2_le_self n
  omega, nat_shown n h⟩
theorem Sh.str {x : Str} {n : Nat} (h : ∀ c ∈ x.cps.toList, c < 128) (hn : x.length ≤ n) : Sh (.str x) 0 (10 * n + 2) := ⟨rfl, Nat.le_refl _, rfl, by
  show (reprText x).length ≤ _
  have := PySem.StrLaws.reprText_len x fun c hc => by have := h c hc; omega
  omega⟩
theorem Sh.none : Sh .none 0 4 := ⟨rfl, Nat.le_refl _, rfl, Nat.le_of_eq (by decide +kernel)⟩
theorem Sh.ok_t {l : List PyData} {k b : Nat} (h : Sh (.tuple l) k b) (hk : k ≤ 40) (hb : b ≤ 16777216) : okShow (.tuple l) = true := by
  unfold okShow Z.pl
  have := PySem.sizeLine_eq
  have h2 := h.le
  have h3 := h.dp
  rw [h.pl, h.sh, decide_eq_true (show (PyData.tuple l).depth ≤ 40 by omega), decide_eq_true (show (PyData.tuple l).shown.length ≤ sizeLine by omega)]
  rfl
end Z
set_option Elab.async false
set_option linter.all false
set_option maxRecDepth 100000
/-! K1: a draw. -/
namespace K78
open PySem PySem.Spec PyProof.Rows L2 Z
def Dk (os : List O) : Prop := ∃ (cs : List Int) (p : Nat) (a b c : Int), cs.length ≤ 63 ∧ O.lst os = deckO cs p a b c
theorem draw_lem (cs : List Int) (p : Nat) (a b c m : Int) (hl : cs.length ≤ 63) (h : 0 < m) (h2 : m < 1073741824) :
    ∃ (r : Int) (p' : Nat) (a' b' c' : Int), 0 ≤ r ∧ r < m ∧ f__law_draw [deckO cs p a b c, oi m] = some (oi r, [some (deckO cs p' a' b' c'), some (oi m)]) := by
  have hb : b__law_draw = mSeq (mFor (mRng1 (mOp addD (mC1 lenO (mQP (qIx (qN 0) (qC (.int 0))))) (mC (.int 2)))) (tgN 2) bodyD) tailD := rfl
  have key : wp b__law_draw [.par (deckO cs p a b c), .par (oi m), .un, .un] fun o e => ∃ (r : Int) (p' : Nat) (a' b' c' : Int) (s2 s3 : Sl), 0 ≤ r ∧ r < m ∧ o = .rt (oi r) ∧ e = [.par (deckO cs p' a' b' c'), .par (oi m), s2, s3] := by
    rw [hb]
    refine wp_seq (wp_for (fun ds e => (∃ k, ds = intsD k ds.length) ∧ ∃ (p' : Nat) (a' b' c' : Int), e = [.par (deckO cs p' a' b' c'), .par (oi m), .un, .un]) (wp_of (a := intsD 0 ((cs.length : Int) + 2).toNat) (e := [.par (deckO cs p a b c), .par (oi m), .un, .un]) ?_ ⟨⟨0, ?_⟩, p, a, b, c, rfl⟩) ?_ ?_)
    · have e1 : (mOp addD (mC1 lenO (mQP (qIx (qN 0) (qC (.int 0))))) (mC (.int 2))) [.par (deckO cs p a b c), .par (oi m), .un, .un] = some (.dat (.int ((cs.length : Int) + 2)), [.par (deckO cs p a b c), .par (oi m), .un, .un]) := by simp [deckO]
      unfold mRng1
      rw [e1, Option.bind_some]
      show (if rngOk ((cs.length : Int) + 2) = true then _ else _) = _
      rw [if_pos (rng_ok (by omega) (by omega))]
    · unfold intsD; simp
    · rintro e ⟨_, p', a', b', c', rfl⟩
      obtain ⟨b2, c2, ht⟩ := tail_ok (cs := cs) (p := p') (a := a') (b := b') (c := c') (s2 := .un) (s3 := .un) h
      exact wp_of ht ⟨_, p', a', b2, c2, .un, .un, Int.emod_nonneg _ (by omega), Int.emod_lt_of_pos _ h, rfl, rfl⟩
    · rintro d ds e ⟨⟨k, hk⟩, p', a', b', c', rfl⟩
      rw [List.length_cons] at hk
      unfold intsD at hk
      rw [List.range_succ_eq_map, List.map_cons, List.map_map] at hk
      injection hk with hd hds
      subst hd
      refine ⟨[.par (deckO cs p' a' b' c'), .par (oi m), .var (oi (k + (0 : Nat))), .un], rfl, ?_⟩
      have inv : ∃ k, ds = intsD k ds.length := ⟨k + 1, by
        rw [hds]
        unfold intsD
        simp only [List.length_map, List.length_range]
        refine List.map_congr_left fun j _ => ?_
        simp only [Function.comp]
        congr 1
        push_cast
        omega⟩
      have fin : ∀ (p2 : Nat) (a2 b2 c2 : Int), ∃ (b3 c3 : Int), tailD [.par (deckO cs p2 a2 b2 c2), .par (oi m), .un, .un] = some (.rt (oi ((b3 + c3) / 13 % m)), [.par (deckO cs p2 a2 b3 c3), .par (oi m), .un, .un]) := fun p2 a2 b2 c2 => tail_ok h
      by_cases ha : 1 < a'
      · exact wp_of (body_a h h2 ha) ⟨_, p', _, b', c', _, _, Int.emod_nonneg _ (by omega), Int.emod_lt_of_pos _ h, rfl, rfl⟩
      · by_cases hp : (cs.length : Int) ≤ (p' : Int)
        · refine wp_of (body_b (by omega) ha hp) ?_
          obtain ⟨b3, c3, ht⟩ := fin p' a' b' c'
          exact wp_of ht ⟨_, p', a', b3, c3, .un, .un, Int.emod_nonneg _ (by omega), Int.emod_lt_of_pos _ h, rfl, rfl⟩
        · have hlt : p' < cs.length := by omega
          have hg := List.getElem?_eq_getElem hlt
          by_cases hx : cs[p'] < 1000000000000000000
          · refine wp_of (body_c (by omega) ha hg hx) ?_
            obtain ⟨b3, c3, ht⟩ := fin (p' + 1) a' ((b' * 48271 + cs[p'] * 69621 + 17) % 2147483647) c'
            exact wp_of ht ⟨_, p' + 1, a', b3, c3, .un, .un, Int.emod_nonneg _ (by omega), Int.emod_lt_of_pos _ h, rfl, rfl⟩
          · exact wp_of (body_d (by omega) ha hg hx) ⟨inv, p' + 1, _, b', c', rfl⟩
  obtain ⟨o, e, h3, r, p', a', b', c', s2, s3, h4, h5, rfl, rfl⟩ := key
  refine ⟨r, p', a', b', c', h4, h5, ?_⟩
  unfold f__law_draw runF
  have he : enter [true, true] [deckO cs p a b c, oi m] ++ List.replicate 2 Sl.un = [.par (deckO cs p a b c), .par (oi m), .un, .un] := rfl
  rw [he, h3]
  rfl
/-- a draw: a number below m, and a deck again -/
theorem draw_ok {os : List O} (h : Dk os) (m : Nat) (mi : Int) (hm : mi = m) (h0 : 0 < m) (h1 : m < 1073741824) : ∃ (r : Nat) (os' : List O), r < m ∧ Dk os' ∧ f__law_draw [.lst os, .dat (.int mi)] = some (.dat (.int r), [some (.lst os'), some (.dat (.int mi))]) := by
  subst hm
  obtain ⟨cs, p, a, b, c, hl, e⟩ := h
  obtain ⟨r, p', a', b', c', h2, h3, h4⟩ := draw_lem cs p a b c m hl (by omega) (by omega)
  refine ⟨r.toNat, _, by omega, ⟨cs, p', a', b', c', hl, rfl⟩, ?_⟩
  rw [e]
  have hr : ((r.toNat : Nat) : Int) = r := by omega
  rw [hr]
  exact h4
theorem deck_ok' (ns : List Int) (h : ns.length ≤ 63) : ∃ os, Dk os ∧ f__law_deck [scr ns] = some (.lst os, [some (scr ns)]) :=
  ⟨_, ⟨ns, 0, 0, 7, 1 + (ns.length : Int), h, rfl⟩, deck_ok ns (by have := PySem.sizeLine_eq; omega)⟩
/-- a draw as an expression -/
theorem wp_draw {os : List O} {ev e1 : Ev} {i m : Nat} {mi : Int} {me : M O} {mk : O → Sl} {Q : O → Ev → Prop} (hk : Dk os) (hi : ev[i]? = some (mk (.lst os))) (hm : mk = Sl.var ∨ mk = Sl.par) (he : me ev = some (.dat (.int mi), ev)) (hmi : mi = m) (h0 : 0 < m) (h1 : m < 1073741824)
    (q : ∀ (r : Nat) (os' : List O), r < m → Dk os' → Q (.dat (.int r)) (ev.set i (mk (.lst os')))) : wp (mCall f__law_draw (mALend i (mAVal me mANil))) ev Q := by
  obtain ⟨r, os', h2, h3, h4⟩ := draw_ok hk m mi hmi h0 h1
  refine wp_of ?_ (q r os' h2 h3)
  rcases hm with rfl | rfl <;> simp [hi, he, h4]
end K78
set_option Elab.async false
set_option linter.all false
set_option maxRecDepth 100000
/-! K2: names. -/
namespace K78
open PySem PySem.Spec PyProof.Rows L2 Z SX
/-- a name: some signs below 128 -/
structure Nm (x : Str) : Prop where
  ne : 0 < x.length
  le : x.length ≤ 11
  as : ∀ c ∈ x.cps.toList, c < 128
structure Nms (l : List Str) : Prop where
  nd : l.Nodup
  nm : ∀ x ∈ l, Nm x
def St0 (x : Str) (k : Nat) : Prop := x.length ≤ k ∧ ∀ c ∈ x.cps.toList, c < 128
structure Abc (signs : Str) : Prop where
  len : signs.length = 26
  nd : signs.cps.toList.Nodup
  as : ∀ c ∈ signs.cps.toList, c < 128
structure Hds (heads : Str) : Prop where
  len : heads.length = 3
  as : ∀ c ∈ heads.cps.toList, c < 128
theorem abc_lo : Abc (Str.ofString "abcdefghijklmnopqrstuvwxyz") := ⟨by decide +kernel, by decide +kernel, by decide +kernel⟩
theorem abc_up : Abc (Str.ofString "ABCDEFGHIJKLMNOPQRSTUVWXYZ") := ⟨by decide +kernel, by decide +kernel, by decide +kernel⟩
theorem hds_lo : Hds (Str.ofString "xyz") := ⟨by decide +kernel, by decide +kernel⟩
theorem hds_up : Hds (Str.ofString "QXZ") := ⟨by decide +kernel, by decide +kernel⟩
theorem tail_str : (Str.ofString "_0qQ9").length = 5 ∧ ∀ c ∈ (Str.ofString "_0qQ9").cps.toList, c < 128 := ⟨by decide +kernel, by decide +kernel⟩
theorem app_as {x y : Str} (hx : ∀ c ∈ x.cps.toList, c < 128) (hy : ∀ c ∈ y.cps.toList, c < 128) : ∀ c ∈ (x ++ y).cps.toList, c < 128 := fun c m => by
  rw [cps_app] at m
  exact (List.mem_append.mp m).elim (hx c) (hy c)
theorem app_len (x y : Str) : (x ++ y).length = x.length + y.length := by rw [len_cps, len_cps, len_cps, cps_app, List.length_append]
/-- strides keep places apart -/
theorem stride_inj : ∀ s ∈ [1, 5, 7, 25], ∀ f < 26, ∀ i < 3, ∀ j < 3, (f + s * i) % 26 = (f + s * j) % 26 → i = j := by decide +kernel
def e11 (d m g : Sl) (s h t k a f r p : Sl) : Ev := [d, m, g, s, h, t, k, a, f, r, p]
def NmQ (many : Nat) (great : Bool) (o : Out) (e : Ev) : Prop := ∃ nm os' tl, Dk os' ∧ Nms nm ∧ nm.length = many ∧ o = .rt (oL dX nm) ∧ e = .par (.lst os') :: .par (.dat (.int many)) :: .par (.dat (.bool great)) :: tl
def vS (x : Str) : Sl := .var (.dat (.str x))
def sgn (signs : Str) (k : Nat) : Nat := signs.cps.toList.getD k 0
def vI (n : Nat) : Sl := .var (.dat (.int n))
theorem names_end {os : List O} {many : Nat} {great : Bool} {signs heads stem : Str} {a f r : Nat} (hk : Dk os) (hm : many ≤ 3) (A : Abc signs) (hs : St0 stem 9) (ha : a ≤ stem.length) (hf : f < 26) (hr : r ∈ [1, 5, 7, 25]) :
    wp (mSeq (mAsg 10 (mLc [6] (mRng1 (mNm 1)) (tgN 6) mYes (mOp modD (mC1 intO (mOp addD (mNm 8) (mOp mulD (mNm 9) (mNm 6)))) (mC (.int 26)))))
  (mRet (mLc [6] (mItA (mMv 10)) (tgN 6) mYes (mOp addD (mOp addD (mSl (mNm 5) mONo (mOSo (mNm 7))) (mQ (qIx (qN 3) (qN 6)))) (mSl (mNm 5) (mOSo (mNm 7)) mONo)))))
    [.par (.lst os), .par (.dat (.int many)), .par (.dat (.bool great)), vS signs, vS heads, vS stem, .un, vI a, vI f, vI r, .un] (NmQ many great) := by
  have hsl := PySem.sizeLine_eq
  have h1 : lcL [6] (tgN 6) mYes (mOp modD (mC1 intO (mOp addD (mNm 8) (mOp mulD (mNm 9) (mNm 6)))) (mC (.int 26))) ((List.range many).map dN)
      [.par (.lst os), .par (.dat (.int many)), .par (.dat (.bool great)), vS signs, vS heads, vS stem, .un, vI a, vI f, vI r, .un] = some (((List.range many).filter fun _ => true).map fun k => .dat (dN ((f + r * k) % 26)), [.par (.lst os), .par (.dat (.int many)), .par (.dat (.bool great)), vS signs, vS heads, vS stem, .un, vI a, vI f, vI r, .un]) := by
    refine lcL_map _ _ _ fun k hk => ?_
    have hs1 : small (r : Int) = true := small_nat (by simp at hr; omega)
    refine ⟨[.par (.lst os), .par (.dat (.int many)), .par (.dat (.bool great)), vS signs, vS heads, vS stem, .var (.dat (.int k)), vI a, vI f, vI r, .un], _, by simp [dN], rfl, fun z => (by cases z), fun _ => ⟨[.par (.lst os), .par (.dat (.int many)), .par (.dat (.bool great)), vS signs, vS heads, vS stem, .var (.dat (.int k)), vI a, vI f, vI r, .un], ?_, by simp⟩⟩
    simp [vI, vS, hs1, dN]
  have h0 : mRng1 (mNm 1) [.par (.lst os), .par (.dat (.int many)), .par (.dat (.bool great)), vS signs, vS heads, vS stem, .un, vI a, vI f, vI r, .un] = some ((List.range many).map dN, [.par (.lst os), .par (.dat (.int many)), .par (.dat (.bool great)), vS signs, vS heads, vS stem, .un, vI a, vI f, vI r, .un]) := rng_eq (by simp) (by omega)
  refine wp_seq (wp_of (a := .nx) (e := [.par (.lst os), .par (.dat (.int many)), .par (.dat (.bool great)), vS signs, vS heads, vS stem, .un, vI a, vI f, vI r, .var (oL dN ((List.range many).map fun k => (f + r * k) % 26))]) ?_ ?_)
  · have h3 := lc_eq h0 h1 (by rw [List.length_map, filter_tt, List.length_range]; omega)
    rw [e_asg, h3, filter_tt]
    simp [oL, Function.comp_def]
  let g (k : Nat) : Str := S (stem.cps.toList.take a) ++ ⟨#[sgn signs k]⟩ ++ S (stem.cps.toList.drop a)
  have hsig := len_cps signs
  have A1 := A.len
  have hst := len_cps stem
  have hst9 := hs.1
  have h2 : ∀ pl : List Nat, (∀ k ∈ pl, k < 26) → lcL [6] (tgN 6) mYes (mOp addD (mOp addD (mSl (mNm 5) mONo (mOSo (mNm 7))) (mQ (qIx (qN 3) (qN 6)))) (mSl (mNm 5) (mOSo (mNm 7)) mONo)) (pl.map dN)
      [.par (.lst os), .par (.dat (.int many)), .par (.dat (.bool great)), vS signs, vS heads, vS stem, .un, vI a, vI f, vI r, .un] = some ((pl.filter fun _ => true).map fun k => .dat (dX (g k)), [.par (.lst os), .par (.dat (.int many)), .par (.dat (.bool great)), vS signs, vS heads, vS stem, .un, vI a, vI f, vI r, .un]) := by
    intro pl hpl
    refine lcL_map _ _ _ fun k hk => ?_
    refine ⟨[.par (.lst os), .par (.dat (.int many)), .par (.dat (.bool great)), vS signs, vS heads, vS stem, .var (.dat (.int k)), vI a, vI f, vI r, .un], _, by simp [dN], rfl, fun z => (by cases z), fun _ => ⟨[.par (.lst os), .par (.dat (.int many)), .par (.dat (.bool great)), vS signs, vS heads, vS stem, .var (.dat (.int k)), vI a, vI f, vI r, .un], ?_, by simp⟩⟩
    obtain ⟨c, hc, hi⟩ := ix_str (x := signs) (r := k) (by omega) (by have := hpl k hk; omega)
    have hg : sgn signs k = c := by unfold sgn; rw [List.getD_eq_getElem?_getD, hc]; rfl
    have l1 : (S (stem.cps.toList.take a)).length = a := by rw [S_len, List.length_take]; omega
    have l2 : (⟨#[c]⟩ : Str).length = 1 := rfl
    have l3 : (S (stem.cps.toList.drop a)).length = stem.length - a := by rw [S_len, List.length_drop]; omega
    have a1 : addD (.str (S (stem.cps.toList.take a))) (.str ⟨#[c]⟩) = some (.dat (.str (S (stem.cps.toList.take a) ++ ⟨#[c]⟩))) := addD_str (by omega)
    have a2 : addD (.str (S (stem.cps.toList.take a) ++ ⟨#[c]⟩)) (.str (S (stem.cps.toList.drop a))) = some (.dat (.str (S (stem.cps.toList.take a) ++ ⟨#[c]⟩ ++ S (stem.cps.toList.drop a)))) := addD_str (by rw [app_len]; omega)
    have s1 : slD (.str stem) none (some (a : Int)) = some (.dat (.str (S (stem.cps.toList.take a)))) := by rw [slD_str (by omega), slice_to']
    have s2 : slD (.str stem) (some (a : Int)) none = some (.dat (.str (S (stem.cps.toList.drop a)))) := by rw [slD_str (by omega), slice_from']
    simp only [e_op, e_sl, e_nm, e_ono, e_oso, e_q, e_qix, e_qn, vS, vI]
    simp [s1, s2, hi, a1, a2, g, hg, dX]
  have hpl : ∀ k ∈ (List.range many).map (fun k => (f + r * k) % 26), k < 26 := fun k hk => by
    obtain ⟨j, _, rfl⟩ := List.mem_map.mp hk
    exact Nat.mod_lt _ (by omega)
  have h4 : mItA (mMv 10) [.par (.lst os), .par (.dat (.int many)), .par (.dat (.bool great)), vS signs, vS heads, vS stem, .un, vI a, vI f, vI r, .var (oL dN ((List.range many).map fun k => (f + r * k) % 26))] = some (((List.range many).map fun k => (f + r * k) % 26).map dN, [.par (.lst os), .par (.dat (.int many)), .par (.dat (.bool great)), vS signs, vS heads, vS stem, .un, vI a, vI f, vI r, .un]) := by
    have : oL dN ((List.range many).map fun k => (f + r * k) % 26) = .lst (((List.range many).map fun k => (f + r * k) % 26).map fun a => .dat (dN a)) := rfl
    rw [e_ita, e_mv, this]
    simp only [List.getElem?_cons_succ, List.getElem?_cons_zero, e_bind]
    rw [← this, data_oL]
    rfl
  have h3 := lc_eq h4 (h2 _ hpl) (by rw [List.length_map, filter_tt, List.length_map, List.length_range]; omega)
  refine wp_ret (wp_of h3 ?_)
  have hg : ∀ k, k < 26 → (∃ c, signs.cps.toList[k]? = some c ∧ sgn signs k = c) := fun k hk => by
    obtain ⟨c, _, e⟩ := pick (l := signs.cps.toList) (r := k) (by omega)
    exact ⟨c, e, by unfold sgn; rw [List.getD_eq_getElem?_getD, e]; rfl⟩
  have gl : ∀ k, (g k).cps.toList = stem.cps.toList.take a ++ [sgn signs k] ++ stem.cps.toList.drop a := fun k => by
    show (S _ ++ _ ++ S _ : Str).cps.toList = _
    rw [cps_app, cps_app]
  refine ⟨((List.range many).map fun k => (f + r * k) % 26).map g, os, _, hk, ⟨?_, ?_⟩, by simp, ?_, rfl⟩
  · rw [List.map_map]
    refine nodup_map (fun i hi j hj e => ?_) List.nodup_range
    have e2 := congrArg (fun x : Str => x.cps.toList) e
    simp only [Function.comp, gl, List.append_assoc, List.append_cancel_left_eq] at e2
    rw [List.singleton_append, List.singleton_append, List.cons.injEq] at e2
    have e2 := e2.1
    have hi' := List.mem_range.mp hi
    have hj' := List.mem_range.mp hj
    have li : (f + r * i) % 26 < 26 := Nat.mod_lt _ (by omega)
    have lj : (f + r * j) % 26 < 26 := Nat.mod_lt _ (by omega)
    obtain ⟨c, c1, c2⟩ := hg _ li
    obtain ⟨d, d1, d2⟩ := hg _ lj
    have e3 : (f + r * i) % 26 = (f + r * j) % 26 := by
      rw [c2, d2] at e2
      rw [← e2] at d1
      exact (List.getElem?_inj (by rw [← hsig, A1]; exact li) A.nd).mp (c1.trans d1.symm)
    exact stride_inj r hr f hf i (by omega) j (by omega) e3
  · intro x hx
    obtain ⟨k, hk2, rfl⟩ := List.mem_map.mp hx
    have hk3 := hpl k hk2
    obtain ⟨c, c1, c2⟩ := hg k hk3
    have gl2 : (g k).length = stem.length + 1 := by
      rw [len_cps, gl, List.length_append, List.length_append, List.length_take, List.length_drop, List.length_singleton]
      omega
    refine ⟨by omega, by omega, fun d hd => ?_⟩
    rw [gl, List.mem_append, List.mem_append] at hd
    rcases hd with (hd | hd) | hd
    · exact hs.2 d (List.mem_of_mem_take hd)
    · rw [List.mem_singleton.mp hd, c2]
      exact A.as c (List.mem_of_getElem? c1)
    · exact hs.2 d (List.mem_of_mem_drop hd)
  · simp [oL, filter_tt, Function.comp_def]
theorem names_ok {os : List O} (hk : Dk os) (many : Nat) (hm : many ≤ 3) (great : Bool) : ∃ nm os', Dk os' ∧ Nms nm ∧ nm.length = many ∧
    f__law_names [.lst os, .dat (.int many), .dat (.bool great)] = some (oL dX nm, [some (.lst os'), some (.dat (.int many)), some (.dat (.bool great))]) := by
  have hsl := PySem.sizeLine_eq
  have main : wp b__law_names (enter [true, true, true] [.lst os, .dat (.int many), .dat (.bool great)] ++ List.replicate 8 .un) (NmQ many great) := by
    show wp b__law_names [.par (.lst os), .par (.dat (.int many)), .par (.dat (.bool great)), .un, .un, .un, .un, .un, .un, .un, .un] (NmQ many great)
    unfold b__law_names
    refine wp_seq (wp_of (a := .nx) (e := [.par (.lst os), .par (.dat (.int many)), .par (.dat (.bool great)), vS (Str.ofString "abcdefghijklmnopqrstuvwxyz"), .un, .un, .un, .un, .un, .un, .un]) (by simp [vS]) ?_)
    refine wp_seq (wp_of (a := .nx) (e := [.par (.lst os), .par (.dat (.int many)), .par (.dat (.bool great)), vS (Str.ofString "abcdefghijklmnopqrstuvwxyz"), vS (Str.ofString "xyz"), .un, .un, .un, .un, .un, .un]) (by simp [vS]) ?_)
    obtain ⟨signs, heads, A, Hd, e0⟩ : ∃ signs heads, Abc signs ∧ Hds heads ∧ (mIfS (mTru oTru (mPk 2)) (mSeq (mAsg 3 (mC (.str "ABCDEFGHIJKLMNOPQRSTUVWXYZ"))) (mAsg 4 (mC (.str "QXZ")))) mNx)
        [.par (.lst os), .par (.dat (.int many)), .par (.dat (.bool great)), vS (Str.ofString "abcdefghijklmnopqrstuvwxyz"), vS (Str.ofString "xyz"), .un, .un, .un, .un, .un, .un] = some (.nx, [.par (.lst os), .par (.dat (.int many)), .par (.dat (.bool great)), vS signs, vS heads, .un, .un, .un, .un, .un, .un]) := by
      cases great with
      | true => exact ⟨_, _, abc_up, hds_up, by simp [vS]⟩
      | false => exact ⟨_, _, abc_lo, hds_lo, by simp [vS]⟩
    refine wp_seq (wp_of e0 ?_)
    refine wp_seq (wp_of (a := .nx) (e := [.par (.lst os), .par (.dat (.int many)), .par (.dat (.bool great)), vS signs, vS heads, vS (Str.ofString ""), .un, .un, .un, .un, .un]) (by simp [vS]) ?_)
    obtain ⟨r0, os1, hr0, hk1, e1⟩ := draw_ok hk 5 5 rfl (by omega) (by omega)
    obtain ⟨n, hn9, hn⟩ : ∃ n : Nat, n ≤ 9 ∧ ([PyData.int 0, .int 0, .int 1, .int 3, .int 9])[r0]? = some (.int n) := by
      obtain ⟨x, hx, e⟩ := pick (l := [PyData.int 0, .int 0, .int 1, .int 3, .int 9]) (r := r0) hr0
      simp only [List.mem_cons, List.not_mem_nil, or_false] at hx
      rcases hx with rfl | rfl | rfl | rfl | rfl
      · exact ⟨0, by omega, e⟩
      · exact ⟨0, by omega, e⟩
      · exact ⟨1, by omega, e⟩
      · exact ⟨3, by omega, e⟩
      · exact ⟨9, by omega, e⟩
    refine wp_seq (wp_forR (n := n) (ev1 := [.par (.lst os1), .par (.dat (.int many)), .par (.dat (.bool great)), vS signs, vS heads, vS (Str.ofString ""), .un, .un, .un, .un, .un]) (rng_eq (by simp [vS, e1, hn]) (by omega))
      (fun k e => ∃ os2 stem, Dk os2 ∧ St0 stem k ∧ e = [.par (.lst os2), .par (.dat (.int many)), .par (.dat (.bool great)), vS signs, vS heads, vS stem, .un, .un, .un, .un, .un]) ⟨os1, _, hk1, ⟨Nat.le_of_eq (by decide +kernel), by decide +kernel⟩, rfl⟩ ?_ ?_)
    case refine_2 =>
      rintro k e hkn ⟨os2, stem, hk2, hs, rfl⟩
      refine ⟨[.par (.lst os2), .par (.dat (.int many)), .par (.dat (.bool great)), vS signs, vS heads, vS stem, .var (.dat (.int k)), .un, .un, .un, .un], by simp [vS, dN], ?_⟩
      obtain ⟨r1, os3, hr1, hk3, e3⟩ := draw_ok hk2 8 8 rfl (by omega) (by omega)
      have hh : (heads ++ Str.ofString "_0qQ9").length = 8 := by rw [app_len, Hd.len, tail_str.1]
      obtain ⟨c, hc, hi⟩ := ix_str (x := heads ++ Str.ofString "_0qQ9") (r := r1) (by omega) (by omega)
      have a1 : addD (.str heads) (.str (Str.ofString "_0qQ9")) = some (.dat (.str (heads ++ Str.ofString "_0qQ9"))) := addD_str (by rw [Hd.len, tail_str.1]; omega)
      have a2 : addD (.str stem) (.str ⟨#[c]⟩) = some (.dat (.str (stem ++ ⟨#[c]⟩))) := addD_str (by have := hs.1; have : (⟨#[c]⟩ : Str).length = 1 := rfl; omega)
      refine wp_of (a := .nx) (e := [.par (.lst os3), .par (.dat (.int many)), .par (.dat (.bool great)), vS signs, vS heads, vS (stem ++ ⟨#[c]⟩), .var (.dat (.int k)), .un, .un, .un, .un]) (by simp [vS, e3, hi, a1, a2]) ?_
      refine ⟨os3, stem ++ ⟨#[c]⟩, hk3, ⟨?_, ?_⟩, by simp [vS]⟩
      · have := hs.1; have : (⟨#[c]⟩ : Str).length = 1 := rfl
        rw [app_len]; omega
      · refine app_as hs.2 fun d hd => ?_
        have hd : d ∈ [c] := hd
        rw [List.mem_singleton.mp hd]
        exact app_as Hd.as tail_str.2 c (List.mem_of_getElem? hc)
    rintro e ⟨os2, stem, hk2, hs, rfl⟩
    have hst := hs.1
    obtain ⟨a, os3, ha, hk3, e3⟩ := draw_ok hk2 (stem.length + 1) ((stem.length : Int) + 1) (by omega) (by omega) (by omega)
    refine wp_seq (wp_of (a := .nx) (e := [.par (.lst os3), .par (.dat (.int many)), .par (.dat (.bool great)), vS signs, vS heads, vS stem, .un, vI a, .un, .un, .un]) ?_ ?_)
    · have l1 := Z.len_str (x := stem) (by omega)
      simp [vS, vI, l1, e3]
    obtain ⟨os4, stem2, hk4, hs2, ha2, e4⟩ : ∃ os4 stem2, Dk os4 ∧ St0 stem2 9 ∧ a ≤ stem2.length ∧ (mIfS (mTru oBool (mOp gtD (mNm 7) (mC (.int 0)))) (mAsg 5 (mOp addD (mGetN 4 (mCall f__law_draw (mALend 0 (mAVal (mC (.int 3)) mANil)))) (mSl (mNm 5) (mOSo (mC (.int 1))) mONo))) mNx)
        [.par (.lst os3), .par (.dat (.int many)), .par (.dat (.bool great)), vS signs, vS heads, vS stem, .un, vI a, .un, .un, .un] = some (.nx, [.par (.lst os4), .par (.dat (.int many)), .par (.dat (.bool great)), vS signs, vS heads, vS stem2, .un, vI a, .un, .un, .un]) := by
      by_cases h0 : a = 0
      · subst h0
        exact ⟨os3, stem, hk3, ⟨by omega, hs.2⟩, Nat.zero_le _, by simp [vS, vI]⟩
      · obtain ⟨r1, os4, hr1, hk4, e4⟩ := draw_ok hk3 3 3 rfl (by omega) (by omega)
        have := Hd.len
        obtain ⟨c, hc, hi⟩ := ix_str (x := heads) (r := r1) (by omega) (by omega)
        have s1 : slD (.str stem) (some 1) none = some (.dat (.str (S (stem.cps.toList.drop 1)))) := by rw [slD_str (by omega)]; exact congrArg (fun x => some (O.dat (.str x))) (slice_from' (i := 1))
        have l2 : (⟨#[c]⟩ : Str).length = 1 := rfl
        have l3 : (S (stem.cps.toList.drop 1)).length = stem.length - 1 := by rw [S_len, List.length_drop, ← len_cps]
        have a1 : addD (.str ⟨#[c]⟩) (.str (S (stem.cps.toList.drop 1))) = some (.dat (.str (⟨#[c]⟩ ++ S (stem.cps.toList.drop 1)))) := addD_str (by omega)
        have hpos : 0 < a := by omega
        refine ⟨os4, ⟨#[c]⟩ ++ S (stem.cps.toList.drop 1), hk4, ⟨?_, ?_⟩, ?_, ?_⟩
        · rw [app_len]; omega
        · refine app_as (fun d hd => ?_) fun d hd => hs.2 d (List.mem_of_mem_drop hd)
          have hd : d ∈ [c] := hd
          rw [List.mem_singleton.mp hd]
          exact Hd.as c (List.mem_of_getElem? hc)
        · rw [app_len]; omega
        · simp [-List.drop_one, vS, vI, hpos, e4, hi, s1, a1]
    refine wp_seq (wp_of e4 ?_)
    obtain ⟨f, os5, hf, hk5, e5⟩ := draw_ok hk4 26 26 rfl (by omega) (by omega)
    refine wp_seq (wp_of (a := .nx) (e := [.par (.lst os5), .par (.dat (.int many)), .par (.dat (.bool great)), vS signs, vS heads, vS stem2, .un, vI a, vI f, .un, .un]) (by simp [vS, vI, e5]) ?_)
    obtain ⟨r2, os6, hr2, hk6, e6⟩ := draw_ok hk5 4 4 rfl (by omega) (by omega)
    obtain ⟨r, hr, hrr⟩ : ∃ r : Nat, r ∈ [1, 5, 7, 25] ∧ ([PyData.int 1, .int 5, .int 7, .int 25])[r2]? = some (.int r) := by
      obtain ⟨x, hx, e⟩ := pick (l := [PyData.int 1, .int 5, .int 7, .int 25]) (r := r2) hr2
      simp only [List.mem_cons, List.not_mem_nil, or_false] at hx
      rcases hx with rfl | rfl | rfl | rfl
      · exact ⟨1, by simp, e⟩
      · exact ⟨5, by simp, e⟩
      · exact ⟨7, by simp, e⟩
      · exact ⟨25, by simp, e⟩
    refine wp_seq (wp_of (a := .nx) (e := [.par (.lst os6), .par (.dat (.int many)), .par (.dat (.bool great)), vS signs, vS heads, vS stem2, .un, vI a, vI f, vI r, .un]) (by simp [vS, vI, e6, hrr]) ?_)
    exact names_end hk6 hm A hs2 ha2 hf hr
  obtain ⟨r, bs, h1, nm, os', h2, h3, h4, rfl, rfl⟩ := run_wp (ks := [true, true, true]) (l := 8) (R := fun r bs => ∃ nm os', Dk os' ∧ Nms nm ∧ nm.length = many ∧ r = oL dX nm ∧ bs = [some (.lst os'), some (.dat (.int many)), some (.dat (.bool great))]) rfl
    (main.mono (by rintro o e ⟨nm, os', tl, h1, h2, h3, rfl, rfl⟩; exact ⟨nm, os', h1, h2, h3, rfl, rfl⟩))
  exact ⟨nm, os', h2, h3, h4, h1⟩
end K78
set_option Elab.async false
set_option linter.all false
set_option maxRecDepth 100000
/-! K3: doors. -/
namespace K78
open PySem PySem.Spec PyProof.Rows L2 Z SX
def LbOk (l : Lb) : Prop := Nm l.1 ∧ ∀ y, l.2 = some y → Nm y
def Co (evs : List Lb) : Prop := ∀ a ∈ evs, ∀ b ∈ evs, a.1 = b.1 → a.2.isSome = b.2.isSome
structure Drs (ins outs evs : List Lb) : Prop where
  ni : (ins.map (·.1)).Nodup
  no : (outs.map (·.1)).Nodup
  li : ins.length ≤ 3
  lo : outs.length ≤ 3
  le : evs.length ≤ 6
  ne : 0 < evs.length
  okd : ∀ d ∈ ins ++ outs, LbOk d
  oke : ∀ e ∈ evs, LbOk e
  co : Co evs
/-- while the doors are made: the names behind -/
structure DI (don : List Str) (ins outs evs : List Lb) : Prop where
  mi : ∀ d ∈ ins ++ outs, d.1 ∈ don
  me : ∀ d ∈ evs, d.1 ∈ don
  ni : (ins.map (·.1)).Nodup
  no : (outs.map (·.1)).Nodup
  li : ins.length ≤ don.length
  lo : outs.length ≤ don.length
  le : evs.length ≤ 2 * don.length
  ne : don.length ≤ evs.length
  okd : ∀ d ∈ ins ++ outs, LbOk d
  oke : ∀ e ∈ evs, LbOk e
  co : Co evs
theorem DI.next {don : List Str} {ins outs evs : List Lb} (h : DI don ins outs evs) {x : Str} (hx : x ∉ don) (nx : Nm x) {d : Lb} (hd : d.1 = x) (od : LbOk d) {ws : List (Option Str)} (w1 : 0 < ws.length) (w2 : ws.length ≤ 2) (wc : ∀ a ∈ ws, ∀ b ∈ ws, a.isSome = b.isSome) (wo : ∀ w ∈ ws, ∀ y, w = some y → Nm y) (k : Bool) :
    DI (don ++ [x]) (if k = true then ins ++ [d] else ins) (if k = true then outs else outs ++ [d]) (evs ++ ws.map fun w => (x, w)) := by
  have nod : ∀ l : List Lb, (∀ d ∈ l, d.1 ∈ don) → (l.map (·.1)).Nodup → ((l ++ [d]).map (·.1)).Nodup := fun l hl hn => by
    rw [List.map_append, List.map_singleton]
    refine List.nodup_append.mpr ⟨hn, by simp, ?_⟩
    intro a ha b hb e
    obtain ⟨c, hc, rfl⟩ := List.mem_map.mp ha
    rw [List.mem_singleton.mp hb, hd] at e
    exact hx (e ▸ hl c hc)
  have hi := fun d m => h.mi d (List.mem_append_left _ m)
  have ho := fun d m => h.mi d (List.mem_append_right _ m)
  refine ⟨?_, ?_, ?_, ?_, ?_, ?_, ?_, ?_, ?_, ?_, ?_⟩
  · intro c hc
    have : c ∈ ins ++ outs ∨ c = d := by cases k <;> simp at hc <;> simp <;> rcases hc with hc | hc | hc <;> simp [hc]
    rcases this with hc | rfl
    · exact List.mem_append_left _ (h.mi c hc)
    · rw [hd]; simp
  · intro c hc
    rcases List.mem_append.mp hc with hc | hc
    · exact List.mem_append_left _ (h.me c hc)
    · obtain ⟨w, _, rfl⟩ := List.mem_map.mp hc
      simp
  · cases k
    · exact h.ni
    · exact nod ins hi h.ni
  · cases k
    · exact nod outs ho h.no
    · exact h.no
  · have := h.li; cases k <;> simp <;> omega
  · have := h.lo; cases k <;> simp <;> omega
  · have := h.le; simp; omega
  · have := h.ne; simp; omega
  · intro c hc
    have : c ∈ ins ++ outs ∨ c = d := by cases k <;> simp at hc <;> simp <;> rcases hc with hc | hc | hc <;> simp [hc]
    rcases this with hc | rfl
    · exact h.okd c hc
    · exact od
  · intro c hc
    rcases List.mem_append.mp hc with hc | hc
    · exact h.oke c hc
    · obtain ⟨w, hw, rfl⟩ := List.mem_map.mp hc
      exact ⟨nx, wo w hw⟩
  · intro a ha b hb e
    rcases List.mem_append.mp ha with ha | ha <;> rcases List.mem_append.mp hb with hb | hb
    · exact h.co a ha b hb e
    · obtain ⟨w, hw, rfl⟩ := List.mem_map.mp hb
      exact absurd (by have := h.me a ha; rwa [e] at this) hx
    · obtain ⟨w, hw, rfl⟩ := List.mem_map.mp ha
      exact absurd (by have := h.me b hb; rwa [← e] at this) hx
    · obtain ⟨w, hw, rfl⟩ := List.mem_map.mp ha
      obtain ⟨v, hv, rfl⟩ := List.mem_map.mp hb
      exact wc w hw v hv
def dS3 (os : List O) (nm : List Str) (kind : Str) (vo : O) (ins outs evs : List Lb) (n d w x : Sl) : Ev := [.par (.lst os), .par (.dat (dA dX nm)), .par (.dat (.str kind)), .par vo, .var (oL dL ins), .var (oL dL outs), .var (oL dL evs), n, d, w, x]
/-- the last two rows of a turn -/
theorem doors_tail {os : List O} {nm : List Str} {kind : Str} {vo : O} {ins outs evs : List Lb} {x : Str} {d : Lb} {wo : O} {s9 : Sl} {ws : List (Option Str)} (hk : Dk os) (l1 : ins.length ≤ 3) (l2 : outs.length ≤ 3) (l3 : evs.length ≤ 6) (l4 : ws.length ≤ 2)
    (hit : ∀ i o e, mItA (mMv 9) [.par i, .par (.dat (dA dX nm)), .par (.dat (.str kind)), .par vo, .var o, .var e, .un, .var (.dat (.str x)), .var (.dat (dL d)), .var wo, .un] = some (ws.map dO, [.par i, .par (.dat (dA dX nm)), .par (.dat (.str kind)), .par vo, .var o, .var e, .un, .var (.dat (.str x)), .var (.dat (dL d)), s9, .un])) :
    ∃ os' k, Dk os' ∧ (mSeq (mIfS (mTru oBool (mOp eqD (mCall f__law_draw (mALend 0 (mAVal (mC (.int 2)) mANil))) (mC (.int 0)))) (mEx (mMet "list" (lN 4) (mCons (mNm 8) mNil) fAppend)) (mEx (mMet "list" (lN 5) (mCons (mNm 8) mNil) fAppend)))
  (mAsg 6 (mOp addD (mMv 6) (mLc [10] (mItA (mMv 9)) (tgN 10) mYes (mTup (mDCons (mNm 7) (mDCons (mNm 10) mDNil)))))))
      (dS3 os nm kind vo ins outs evs (.var (.dat (.str x))) (.var (.dat (dL d))) (.var wo) .un) = some (.nx, dS3 os' nm kind vo (if k = true then ins ++ [d] else ins) (if k = true then outs else outs ++ [d]) (evs ++ ws.map fun w => (x, w)) (.var (.dat (.str x))) (.var (.dat (dL d))) s9 .un) := by
  obtain ⟨r, os', hr, hk', e1⟩ := draw_ok hk 2 2 rfl (by omega) (by omega)
  refine ⟨os', decide (r = 0), hk', ?_⟩
  have hq := eqD_of gN (by omega) r 0
  have hq : eqD (.int r) (.int 0) = oB (decide (r = 0)) := hq
  have s1 : (mIfS (mTru oBool (mOp eqD (mCall f__law_draw (mALend 0 (mAVal (mC (.int 2)) mANil))) (mC (.int 0)))) (mEx (mMet "list" (lN 4) (mCons (mNm 8) mNil) fAppend)) (mEx (mMet "list" (lN 5) (mCons (mNm 8) mNil) fAppend)))
      (dS3 os nm kind vo ins outs evs (.var (.dat (.str x))) (.var (.dat (dL d))) (.var wo) .un) = some (.nx, dS3 os' nm kind vo (if decide (r = 0) = true then ins ++ [d] else ins) (if decide (r = 0) = true then outs else outs ++ [d]) evs (.var (.dat (.str x))) (.var (.dat (dL d))) (.var wo) .un) := by
    have st : (mTru oBool (mOp eqD (mCall f__law_draw (mALend 0 (mAVal (mC (.int 2)) mANil))) (mC (.int 0)))) (dS3 os nm kind vo ins outs evs (.var (.dat (.str x))) (.var (.dat (dL d))) (.var wo) .un) = some (decide (r = 0), dS3 os' nm kind vo ins outs evs (.var (.dat (.str x))) (.var (.dat (dL d))) (.var wo) .un) := by
      simp [dS3, e1, hq]
    rw [e_ifs, st, e_bind]
    by_cases h : r = 0
    · simp only [h, decide_true, if_true]
      exact ap_own (i := 4) rfl rfl (by omega)
    · simp only [h, decide_false, if_false]
      exact ap_own (i := 5) rfl rfl (by omega)
  rw [e_seq, s1, seqK_nx]
  generalize (if decide (r = 0) = true then ins ++ [d] else ins) = ins2
  generalize (if decide (r = 0) = true then outs else outs ++ [d]) = outs2
  have mv : mMv 6 (dS3 os' nm kind vo ins2 outs2 evs (.var (.dat (.str x))) (.var (.dat (dL d))) (.var wo) .un) = some (oL dL evs, [.par (.lst os'), .par (.dat (dA dX nm)), .par (.dat (.str kind)), .par vo, .var (oL dL ins2), .var (oL dL outs2), .un, .var (.dat (.str x)), .var (.dat (dL d)), .var wo, .un]) := rfl
  have lc : lcL [10] (tgN 10) mYes (mTup (mDCons (mNm 7) (mDCons (mNm 10) mDNil))) (ws.map dO) [.par (.lst os'), .par (.dat (dA dX nm)), .par (.dat (.str kind)), .par vo, .var (oL dL ins2), .var (oL dL outs2), .un, .var (.dat (.str x)), .var (.dat (dL d)), s9, .un] = some ((ws.filter fun _ => true).map fun w => .dat (dL (x, w)), [.par (.lst os'), .par (.dat (dA dX nm)), .par (.dat (.str kind)), .par vo, .var (oL dL ins2), .var (oL dL outs2), .un, .var (.dat (.str x)), .var (.dat (dL d)), s9, .un]) := by
    refine lcL_map _ _ _ fun w hw => ?_
    exact ⟨[.par (.lst os'), .par (.dat (dA dX nm)), .par (.dat (.str kind)), .par vo, .var (oL dL ins2), .var (oL dL outs2), .un, .var (.dat (.str x)), .var (.dat (dL d)), s9, .var (.dat (dO w))], _, by simp, rfl, fun z => (by cases z), fun _ => ⟨[.par (.lst os'), .par (.dat (dA dX nm)), .par (.dat (.str kind)), .par vo, .var (oL dL ins2), .var (oL dL outs2), .un, .var (.dat (.str x)), .var (.dat (dL d)), s9, .var (.dat (dO w))], by simp [dL], by simp⟩⟩
  have h3 := lc_eq (hit _ _ _) lc (by rw [List.length_map, filter_tt]; omega)
  have ad : addD (oL dL evs).data (O.data (.lst ((ws.filter fun _ => true).map fun w => .dat (dL (x, w))))) = some (oL dL (evs ++ ws.map fun w => (x, w))) := by
    have e2 : (O.lst ((ws.filter fun _ => true).map fun w => .dat (dL (x, w)))) = oL dL (ws.map fun w => (x, w)) := by rw [filter_tt]; simp [oL, Function.comp_def]
    rw [e2, data_oL, data_oL]
    show (if (evs.map dL).length + ((ws.map fun w => (x, w)).map dL).length ≤ sizeLine then _ else _) = _
    rw [if_pos (by have := PySem.sizeLine_eq; simp; omega), ← List.map_append, oL_eq]
  rw [e_asg, e_op, mv, e_bind, h3, e_bind, ad]
  rfl
theorem doors_ok {os : List O} (hk : Dk os) {nm : List Str} (hn : Nms nm) (h1 : 1 ≤ nm.length) (h3 : nm.length ≤ 3) {kind : Str} (hkd : Nm kind) {vals : List Str} (hv0 : 0 < vals.length) (hv2 : vals.length ≤ 2) (hv : ∀ v ∈ vals, Nm v) :
    ∃ ins outs evs os' b1 b2 b3, Dk os' ∧ Drs ins outs evs ∧ f__law_doors [.lst os, oL dX nm, .dat (.str kind), oL dX vals] = some (.dat (.tuple [dA dL ins, dA dL outs, dA dL evs]), [some (.lst os'), b1, b2, b3]) := by
  have main : wp b__law_doors (enter [true, true, true, true] [.lst os, oL dX nm, .dat (.str kind), oL dX vals] ++ List.replicate 7 .un) fun o e => ∃ ins outs evs os' s1 s2 s3 tl, Dk os' ∧ Drs ins outs evs ∧ o = .rt (.dat (.tuple [dA dL ins, dA dL outs, dA dL evs])) ∧ e = .par (.lst os') :: .par s1 :: .par s2 :: .par s3 :: tl := by
    show wp b__law_doors [.par (.lst os), .par (oL dX nm), .par (.dat (.str kind)), .par (oL dX vals), .un, .un, .un, .un, .un, .un, .un] _
    unfold b__law_doors
    refine wp_seq (wp_of (a := .nx) (e := [.par (.lst os), .par (oL dX nm), .par (.dat (.str kind)), .par (oL dX vals), .var (oL dL []), .un, .un, .un, .un, .un, .un]) rfl ?_)
    refine wp_seq (wp_of (a := .nx) (e := [.par (.lst os), .par (oL dX nm), .par (.dat (.str kind)), .par (oL dX vals), .var (oL dL []), .var (oL dL []), .un, .un, .un, .un, .un]) rfl ?_)
    refine wp_seq (wp_of (a := .nx) (e := [.par (.lst os), .par (oL dX nm), .par (.dat (.str kind)), .par (oL dX vals), .var (oL dL []), .var (oL dL []), .var (oL dL []), .un, .un, .un, .un]) rfl ?_)
    have hi0 : mItA (mNm 1) [.par (.lst os), .par (oL dX nm), .par (.dat (.str kind)), .par (oL dX vals), .var (oL dL []), .var (oL dL []), .var (oL dL []), .un, .un, .un, .un] = some (nm.map dX, dS3 os nm kind (oL dX vals) [] [] [] .un .un .un .un) := by
      have e1 : mNm 1 [.par (.lst os), .par (oL dX nm), .par (.dat (.str kind)), .par (oL dX vals), .var (oL dL []), .var (oL dL []), .var (oL dL []), .un, .un, .un, .un] = some (.dat (oL dX nm).data, [.par (.lst os), .par (.dat (oL dX nm).data), .par (.dat (.str kind)), .par (oL dX vals), .var (oL dL []), .var (oL dL []), .var (oL dL []), .un, .un, .un, .un]) := rfl
      rw [e_ita, e1, e_bind, data_oL]
      rfl
    refine wp_seq (wp_forT hi0 (fun rest e => ∃ don os' vo ins outs evs, nm = don ++ rest ∧ Dk os' ∧ (vo = oL dX vals ∨ vo = .dat (dA dX vals)) ∧ DI don ins outs evs ∧ e = dS3 os' nm kind vo ins outs evs .un .un .un .un)
      ⟨[], os, _, [], [], [], rfl, hk, .inl rfl, ⟨by simp, by simp, by simp, by simp, Nat.le_refl _, Nat.le_refl _, by simp, by simp, by simp, by simp, fun a ha => by cases ha⟩, rfl⟩ ?_ ?_)
    · rintro e ⟨don, os', vo, ins, outs, evs, he, hk', hvo, D, rfl⟩
      rw [List.append_nil] at he
      subst he
      have li := D.li; have lo := D.lo; have le := D.le; have ne := D.ne
      refine wp_ret (wp_of (a := .dat (.tuple [dA dL ins, dA dL outs, dA dL evs])) (e := [.par (.lst os'), .par (.dat (dA dX nm)), .par (.dat (.str kind)), .par vo, .un, .un, .un, .un, .un, .un, .un]) ?_ ⟨ins, outs, evs, os', _, _, _, _, hk', ⟨D.ni, D.no, by omega, by omega, by omega, by omega, D.okd, D.oke, D.co⟩, rfl, rfl⟩)
      have m4 : mMv 4 (dS3 os' nm kind vo ins outs evs .un .un .un .un) = some (oL dL ins, [.par (.lst os'), .par (.dat (dA dX nm)), .par (.dat (.str kind)), .par vo, .un, .var (oL dL outs), .var (oL dL evs), .un, .un, .un, .un]) := rfl
      have m5 : mMv 5 [.par (.lst os'), .par (.dat (dA dX nm)), .par (.dat (.str kind)), .par vo, .un, .var (oL dL outs), .var (oL dL evs), .un, .un, .un, .un] = some (oL dL outs, [.par (.lst os'), .par (.dat (dA dX nm)), .par (.dat (.str kind)), .par vo, .un, .un, .var (oL dL evs), .un, .un, .un, .un]) := rfl
      have m6 : mMv 6 [.par (.lst os'), .par (.dat (dA dX nm)), .par (.dat (.str kind)), .par vo, .un, .un, .var (oL dL evs), .un, .un, .un, .un] = some (oL dL evs, [.par (.lst os'), .par (.dat (dA dX nm)), .par (.dat (.str kind)), .par vo, .un, .un, .un, .un, .un, .un, .un]) := rfl
      rw [e_tup, e_dcons, m4, e_bind, e_dcons, m5, e_bind, e_dcons, m6, e_bind, e_dnil]
      simp
    · rintro x rest e ⟨don, os', vo, ins, outs, evs, he, hk', hvo, D, rfl⟩
      have li := D.li; have lo := D.lo; have le := D.le; have ne := D.ne
      have hlen : don.length + rest.length + 1 ≤ 3 := by rw [he] at h3; simp at h3; omega
      have hx : x ∉ don := fun m => by
        have := hn.nd
        rw [he] at this
        exact (List.nodup_append.mp this).2.2 x m x List.mem_cons_self rfl
      have nx : Nm x := hn.nm x (by rw [he]; simp)
      refine ⟨dS3 os' nm kind vo ins outs evs (.var (.dat (.str x))) .un .un .un, rfl, ?_⟩
      refine wp_seq (wp_of (a := .nx) (e := dS3 os' nm kind vo ins outs evs (.var (.dat (.str x))) (.var (.dat (dL (x, none)))) .un .un) (by simp [dS3, dL, dO]) ?_)
      refine wp_seq (wp_of (a := .nx) (e := dS3 os' nm kind vo ins outs evs (.var (.dat (.str x))) (.var (.dat (dL (x, none)))) (.var (oL dO [none])) .un) rfl ?_)
      obtain ⟨r, os2, hr, hk2, e1⟩ := draw_ok hk' 3 3 rfl (by omega) (by omega)
      have hq : eqD (.int r) (.int 0) = oB (decide (r = 0)) := eqD_of gN (by omega) r 0
      have st : (mTru oBool (mOp eqD (mCall f__law_draw (mALend 0 (mAVal (mC (.int 3)) mANil))) (mC (.int 0)))) (dS3 os' nm kind vo ins outs evs (.var (.dat (.str x))) (.var (.dat (dL (x, none)))) (.var (oL dO [none])) .un) = some (decide (r = 0), dS3 os2 nm kind vo ins outs evs (.var (.dat (.str x))) (.var (.dat (dL (x, none)))) (.var (oL dO [none])) .un) := by
        simp [dS3, e1, hq]
      by_cases h0 : r = 0
      · have s1 : (mSeq (mAsg 8 (mTup (mDCons (mNm 7) (mDCons (mNm 2) mDNil)))) (mAsg 9 (mNm 3))) (dS3 os2 nm kind vo ins outs evs (.var (.dat (.str x))) (.var (.dat (dL (x, none)))) (.var (oL dO [none])) .un) = some (.nx, dS3 os2 nm kind (.dat (dA dX vals)) ins outs evs (.var (.dat (.str x))) (.var (.dat (dL (x, some kind)))) (.var (.dat (dA dX vals))) .un) := by
          rcases hvo with rfl | rfl
          · have e2 : mNm 3 [.par (.lst os2), .par (.dat (dA dX nm)), .par (.dat (.str kind)), .par (oL dX vals), .var (oL dL ins), .var (oL dL outs), .var (oL dL evs), .var (.dat (.str x)), .var (.dat (dL (x, some kind))), .var (oL dO [none]), .un] = some (.dat (oL dX vals).data, [.par (.lst os2), .par (.dat (dA dX nm)), .par (.dat (.str kind)), .par (.dat (oL dX vals).data), .var (oL dL ins), .var (oL dL outs), .var (oL dL evs), .var (.dat (.str x)), .var (.dat (dL (x, some kind))), .var (oL dO [none]), .un]) := rfl
            rw [data_oL] at e2
            have e3 : (mAsg 8 (mTup (mDCons (mNm 7) (mDCons (mNm 2) mDNil)))) (dS3 os2 nm kind (oL dX vals) ins outs evs (.var (.dat (.str x))) (.var (.dat (dL (x, none)))) (.var (oL dO [none])) .un) = some (.nx, [.par (.lst os2), .par (.dat (dA dX nm)), .par (.dat (.str kind)), .par (oL dX vals), .var (oL dL ins), .var (oL dL outs), .var (oL dL evs), .var (.dat (.str x)), .var (.dat (dL (x, some kind))), .var (oL dO [none]), .un]) := by
              simp [dS3, dL, dO]
            rw [e_seq, e3, seqK_nx, e_asg, e2, e_bind]
            rfl
          · have e3 : (mAsg 8 (mTup (mDCons (mNm 7) (mDCons (mNm 2) mDNil)))) (dS3 os2 nm kind (.dat (dA dX vals)) ins outs evs (.var (.dat (.str x))) (.var (.dat (dL (x, none)))) (.var (oL dO [none])) .un) = some (.nx, [.par (.lst os2), .par (.dat (dA dX nm)), .par (.dat (.str kind)), .par (.dat (dA dX vals)), .var (oL dL ins), .var (oL dL outs), .var (oL dL evs), .var (.dat (.str x)), .var (.dat (dL (x, some kind))), .var (oL dO [none]), .un]) := by
              simp [dS3, dL, dO]
            rw [e_seq, e3, seqK_nx]
            rfl
        refine wp_seq (wp_of (a := .nx) (e := dS3 os2 nm kind (.dat (dA dX vals)) ins outs evs (.var (.dat (.str x))) (.var (.dat (dL (x, some kind)))) (.var (.dat (dA dX vals))) .un) (by rw [e_ifs, st, e_bind, if_pos (by simpa using h0)]; exact s1) ?_)
        obtain ⟨os4, k, hk4, e4⟩ := doors_tail (vo := .dat (dA dX vals)) (x := x) (d := (x, some kind)) (wo := .dat (dA dX vals)) (s9 := .var (.dat (dA dX vals))) (ws := vals.map some) (nm := nm) (kind := kind) hk2 (by omega : ins.length ≤ 3) (by omega : outs.length ≤ 3) (by omega : evs.length ≤ 6) (by rw [List.length_map]; omega) (fun i o e => by simp [dA, List.map_map, Function.comp_def, dX, dO])
        refine wp_of e4 ?_
        exact ⟨don ++ [x], os4, _, _, _, _, by rw [he]; simp, hk4, .inr rfl, D.next hx nx (d := (x, some kind)) rfl ⟨nx, fun y hy => by cases hy; exact hkd⟩ (by rw [List.length_map]; omega) (by rw [List.length_map]; omega) (fun a ha b hb => by
          obtain ⟨_, _, rfl⟩ := List.mem_map.mp ha
          obtain ⟨_, _, rfl⟩ := List.mem_map.mp hb
          rfl) (fun w hw y hy => by
          obtain ⟨v, hv1, rfl⟩ := List.mem_map.mp hw
          cases hy
          exact hv _ hv1) k, rfl⟩
      · refine wp_seq (wp_of (a := .nx) (e := dS3 os2 nm kind vo ins outs evs (.var (.dat (.str x))) (.var (.dat (dL (x, none)))) (.var (oL dO [none])) .un) (by rw [e_ifs, st, e_bind, if_neg (by simpa using h0)]; rfl) ?_)
        obtain ⟨os4, k, hk4, e4⟩ := doors_tail (vo := vo) (x := x) (d := (x, none)) (wo := oL dO [none]) (s9 := .un) (ws := [none]) (nm := nm) (kind := kind) hk2 (by omega : ins.length ≤ 3) (by omega : outs.length ≤ 3) (by omega : evs.length ≤ 6) (by simp) (fun i o e => rfl)
        refine wp_of e4 ?_
        exact ⟨don ++ [x], os4, _, _, _, _, by rw [he]; simp, hk4, hvo, D.next hx nx (d := (x, none)) rfl ⟨nx, fun y hy => by cases hy⟩ (ws := [none]) (by simp) (by simp) (fun a ha b hb => by
          rw [List.mem_singleton.mp ha, List.mem_singleton.mp hb]) (fun w hw y hy => by
          rw [List.mem_singleton.mp hw] at hy
          cases hy) k, rfl⟩
  obtain ⟨r, bs, h4, ins, outs, evs, os', b1, b2, b3, h5, h6, rfl, rfl⟩ := run_wp (ks := [true, true, true, true]) (l := 7) (R := fun r bs => ∃ ins outs evs os' b1 b2 b3, Dk os' ∧ Drs ins outs evs ∧ r = .dat (.tuple [dA dL ins, dA dL outs, dA dL evs]) ∧ bs = [some (.lst os'), b1, b2, b3]) rfl
    (main.mono (by rintro o e ⟨ins, outs, evs, os', s1, s2, s3, tl, h1, h2, rfl, rfl⟩; exact ⟨ins, outs, evs, os', some s1, some s2, some s3, h1, h2, rfl, rfl⟩))
  exact ⟨ins, outs, evs, os', b1, b2, b3, h5, h6, h4⟩
end K78
set_option Elab.async false
set_option linter.all false
set_option maxRecDepth 100000
/-! K4: rows, worlds, faults. -/
namespace K78
open PySem PySem.Spec PyProof.Rows L2 Z SX
def quiet : Lb := (Str.ofString "", some (Str.ofString "quiet"))
def fault : Lb := (Str.ofString "", some (Str.ofString "fault"))
def oLL {α : Type} (f : α → PyData) (ls : List (List α)) : O := .lst (ls.map (oL f))
theorem data_oLL (f : α → PyData) (ls : List (List α)) [DecidableEq α] : (oLL f ls).data = dA (dA f) ls := by
  show PyData.list (O.datas _) = _
  rw [O.datas_eq, List.map_map]
  refine congrArg PyData.list (List.map_congr_left fun l _ => ?_)
  exact data_oL l
/-- a row of a world -/
structure RowOk (evs : List Lb) (many most : Nat) (row : List (Lb × Nat)) : Prop where
  lb : ∀ s ∈ row, s.1 ∈ evs ∨ s.1 = quiet ∨ s.1 = fault
  to : ∀ s ∈ row, s.2 < many
  le : row.length ≤ most
def dR (os : List O) (evs : List Lb) (many : Nat) (rows : List (List (Lb × Nat))) (k r t l a : Sl) : Ev := [.par (.lst os), .par (.dat (dA dL evs)), .par (.dat (.int many)), .var (oLL dS rows), k, r, t, l, a]
theorem rows_turn {os : List O} {evs : List Lb} {many k t : Nat} {rows : List (List (Lb × Nat))} {row : List (Lb × Nat)} (hk : Dk os) (hm0 : 0 < many) (hm : many ≤ 4) (he : evs.length ≤ 6) (R : RowOk evs many t row) (ht : t ≤ 5) {e : Ev} (hev : e = dR os evs many rows (.var (.dat (.int k))) (.var (oL dS row)) (.var (.dat (.int t))) .un .un) :
    wp (mSeq (mAsg 7 (mTup (mDCons (mC (.str "")) (mDCons (mC (.str "quiet")) mDNil))))
  (mSeq (mAsg 8 (mOp divD (mCall f__law_draw (mALend 0 (mAVal (mOp addD (mOp mulD (mC (.int 3)) (mC1 lenO (mPk 1))) (mC (.int 2))) mANil))) (mC (.int 3))))
  (mSeq (mIfS (mTru oBool (mOp ltD (mNm 8) (mC1 lenO (mPk 1)))) (mAsg 7 (mQ (qIx (qN 1) (qN 8)))) mNx)
  (mEx (mMet "list" (lN 5) (mCons (mTup (mDCons (mNm 7) (mDCons (mCall f__law_draw (mALend 0 (mALend 2 mANil))) mDNil))) mNil) fAppend))))) e
  fun o e => ∃ os' row' l a, Dk os' ∧ RowOk evs many (t + 1) row' ∧ o = .nx ∧ e = dR os' evs many rows (.var (.dat (.int k))) (.var (oL dS row')) (.var (.dat (.int t))) l a := by
  subst hev
  refine wp_seq (wp_of (a := .nx) (e := dR os evs many rows (.var (.dat (.int k))) (.var (oL dS row)) (.var (.dat (.int t))) (.var (.dat (dL quiet))) .un) (by simp [dR, dL, quiet, dO]) ?_)
  obtain ⟨r, os1, hr, hk1, e1⟩ := draw_ok hk (3 * evs.length + 2) (3 * (evs.length : Int) + 2) (by omega) (by omega) (by omega)
  have h3 : small 3 = true := small_nat (n := 3) (by omega)
  refine wp_seq (wp_of (a := .nx) (e := dR os1 evs many rows (.var (.dat (.int k))) (.var (oL dS row)) (.var (.dat (.int t))) (.var (.dat (dL quiet))) (.var (.dat (dN (r / 3))))) (by simp [dR, h3, e1, dN]) ?_)
  obtain ⟨l, hl, e2⟩ : ∃ l, (l ∈ evs ∨ l = quiet) ∧ (mIfS (mTru oBool (mOp ltD (mNm 8) (mC1 lenO (mPk 1)))) (mAsg 7 (mQ (qIx (qN 1) (qN 8)))) mNx) (dR os1 evs many rows (.var (.dat (.int k))) (.var (oL dS row)) (.var (.dat (.int t))) (.var (.dat (dL quiet))) (.var (.dat (dN (r / 3))))) =
      some (.nx, dR os1 evs many rows (.var (.dat (.int k))) (.var (oL dS row)) (.var (.dat (.int t))) (.var (.dat (dL l))) (.var (.dat (dN (r / 3))))) := by
    have ec : (mTru oBool (mOp ltD (mNm 8) (mC1 lenO (mPk 1)))) (dR os1 evs many rows (.var (.dat (.int k))) (.var (oL dS row)) (.var (.dat (.int t))) (.var (.dat (dL quiet))) (.var (.dat (dN (r / 3))))) = some (decide (((r / 3 : Nat) : Int) < (evs.length : Int)), dR os1 evs many rows (.var (.dat (.int k))) (.var (oL dS row)) (.var (.dat (.int t))) (.var (.dat (dL quiet))) (.var (.dat (dN (r / 3))))) := by
      simp [dR, dN]
    rw [e_ifs, ec, e_bind]
    by_cases h : r / 3 < evs.length
    · obtain ⟨l, hl, e⟩ := pick h
      refine ⟨l, .inl hl, ?_⟩
      rw [if_pos (by simp; omega)]
      simp [dR, e]
    · refine ⟨quiet, .inr rfl, ?_⟩
      rw [if_neg (by simp; omega)]
      rfl
  refine wp_seq (wp_of e2 ?_)
  obtain ⟨r2, os2, hr2, hk2, e3⟩ := draw_ok hk1 many many rfl hm0 (by omega)
  have Rl := R.le
  refine wp_of (ap_own2 (i := 5) (f := dS) (l := row) (a := (l, r2)) (e2 := [.par (.lst os2), .par (.dat (dA dL evs)), .par (.dat (.int many)), .var (oLL dS rows), .var (.dat (.int k)), .ro (oL dS row), .var (.dat (.int t)), .var (.dat (dL l)), .var (.dat (dN (r / 3)))]) rfl (by simp [dR, e3, dS, dN]) rfl (by omega)) ⟨os2, row ++ [(l, r2)], _, _, hk2, ⟨?_, ?_, ?_⟩, rfl, rfl⟩
  · intro s hs
    rcases List.mem_append.mp hs with hs | hs
    · exact R.lb s hs
    · rw [List.mem_singleton.mp hs]
      exact hl.imp id .inl
  · intro s hs
    rcases List.mem_append.mp hs with hs | hs
    · exact R.to s hs
    · rw [List.mem_singleton.mp hs]
      exact hr2
  · rw [List.length_append]; simp; omega
theorem rows_ok {os : List O} {evs : List Lb} {many : Nat} (hk : Dk os) (hm0 : 0 < many) (hm : many ≤ 4) (he : evs.length ≤ 6) :
    ∃ rows os' b1 b2, Dk os' ∧ rows.length = many ∧ (∀ r ∈ rows, RowOk evs many 5 r) ∧ f__law_rows [.lst os, .dat (dA dL evs), .dat (.int many)] = some (oLL dS rows, [some (.lst os'), b1, b2]) := by
  have main : wp b__law_rows (enter [true, true, true] [.lst os, .dat (dA dL evs), .dat (.int many)] ++ List.replicate 6 .un) fun o e => ∃ rows os' s1 s2 tl, Dk os' ∧ rows.length = many ∧ (∀ r ∈ rows, RowOk evs many 5 r) ∧ o = .rt (oLL dS rows) ∧ e = .par (.lst os') :: .par s1 :: .par s2 :: tl := by
    show wp b__law_rows [.par (.lst os), .par (.dat (dA dL evs)), .par (.dat (.int many)), .un, .un, .un, .un, .un, .un] _
    unfold b__law_rows
    refine wp_seq (wp_of (a := .nx) (e := dR os evs many [] .un .un .un .un .un) rfl ?_)
    refine wp_seq (wp_forR (n := many) (ev1 := dR os evs many [] .un .un .un .un .un) (rng_eq rfl (by omega)) (fun k e => ∃ os' rows, Dk os' ∧ rows.length = k ∧ (∀ r ∈ rows, RowOk evs many 5 r) ∧ e = dR os' evs many rows .un .un .un .un .un) ⟨os, [], hk, rfl, by simp, rfl⟩ ?_ ?_)
    · rintro e ⟨os', rows, h1, h2, h3, rfl⟩
      exact wp_ret (wp_of (a := oLL dS rows) (e := [.par (.lst os'), .par (.dat (dA dL evs)), .par (.dat (.int many)), .un, .un, .un, .un, .un, .un]) rfl ⟨rows, os', _, _, _, h1, h2, h3, rfl, rfl⟩)
    · rintro k e hkm ⟨os', rows, hk', hl, hR, rfl⟩
      refine ⟨dR os' evs many rows (.var (.dat (.int k))) .un .un .un .un, rfl, ?_⟩
      refine wp_seq (wp_of (a := .nx) (e := dR os' evs many rows (.var (.dat (.int k))) (.var (oL dS [])) .un .un .un) rfl ?_)
      obtain ⟨r0, os1, hr0, hk1, e1⟩ := draw_ok hk' 6 6 rfl (by omega) (by omega)
      obtain ⟨n, hn9, hn⟩ : ∃ n : Nat, n ≤ 4 ∧ ([PyData.int 0, .int 1, .int 2, .int 2, .int 3, .int 4])[r0]? = some (.int n) := by
        obtain ⟨x, hx, e⟩ := pick (l := [PyData.int 0, .int 1, .int 2, .int 2, .int 3, .int 4]) (r := r0) hr0
        simp only [List.mem_cons, List.not_mem_nil, or_false] at hx
        rcases hx with rfl | rfl | rfl | rfl | rfl | rfl
        · exact ⟨0, by omega, e⟩
        · exact ⟨1, by omega, e⟩
        · exact ⟨2, by omega, e⟩
        · exact ⟨2, by omega, e⟩
        · exact ⟨3, by omega, e⟩
        · exact ⟨4, by omega, e⟩
      have hq : eqD (.int k) (.int 0) = oB (decide (k = 0)) := eqD_of gN (by omega) k 0
      have hi : ∀ b : Bool, intO (.dat (.bool b)) = some (.dat (.int (if b = true then 1 else 0))) := fun b => rfl
      refine wp_seq (wp_forR (n := n + if k = 0 then 1 else 0) (ev1 := dR os1 evs many rows (.var (.dat (.int k))) (.var (oL dS [])) .un .un .un) (rng_eq ?_ (by split <;> omega)) (fun t e => ∃ os' row, Dk os' ∧ RowOk evs many t row ∧ e = dR os' evs many rows (.var (.dat (.int k))) (.var (oL dS row)) .un .un .un) ⟨os1, [], hk1, ⟨by simp, by simp, by simp⟩, rfl⟩ ?_ ?_)
      · by_cases h0 : k = 0
        · have hq0 : eqD (.int 0) (.int 0) = oB true := eqD_of gN (by omega) 0 0
          simp [dR, e1, hn, hq0, h0, hi]
        · simp [dR, e1, hn, hq, h0, hi]
      · rintro e ⟨os2, row, hk2, hrow, rfl⟩
        refine wp_of (ap_any (i := 3) (os := rows.map (oL dS)) (o := oL dS row) (e2 := [.par (.lst os2), .par (.dat (dA dL evs)), .par (.dat (.int many)), .ro (.lst (rows.map (oL dS))), .var (.dat (.int k)), .un, .un, .un, .un]) rfl rfl rfl (by rw [List.length_map]; omega)) ?_
        refine ⟨os2, rows ++ [row], hk2, by simp [hl], ?_, by simp [dR, oLL]⟩
        intro r hr
        rcases List.mem_append.mp hr with hr | hr
        · exact hR r hr
        · rw [List.mem_singleton.mp hr]
          have := hrow.le
          exact ⟨hrow.lb, hrow.to, by split at this <;> omega⟩
      · rintro t e ht ⟨os2, row, hk2, hrow, rfl⟩
        refine ⟨dR os2 evs many rows (.var (.dat (.int k))) (.var (oL dS row)) (.var (.dat (.int t))) .un .un, rfl, ?_⟩
        refine (rows_turn hk2 hm0 hm he hrow (by split at ht <;> omega) rfl).mono ?_
        rintro o e ⟨os3, row', l, a, h1, h2, rfl, rfl⟩
        exact ⟨os3, row', h1, h2, rfl⟩
  obtain ⟨r, bs, h4, rows, os', b1, b2, h5, h6, h7, rfl, rfl⟩ := run_wp (ks := [true, true, true]) (l := 6) (R := fun r bs => ∃ rows os' b1 b2, Dk os' ∧ rows.length = many ∧ (∀ r ∈ rows, RowOk evs many 5 r) ∧ r = oLL dS rows ∧ bs = [some (.lst os'), b1, b2]) rfl
    (main.mono (by rintro o e ⟨rows, os', s1, s2, tl, h1, h2, h3, rfl, rfl⟩; exact ⟨rows, os', some s1, some s2, h1, h2, h3, rfl, rfl⟩))
  exact ⟨rows, os', b1, b2, h5, h6, h7, h4⟩
/-- a world -/
def Wd (m : Nat) (evs : List Lb) (rows : List (List (Lb × Nat))) : Prop := (1 ≤ rows.length ∧ rows.length ≤ 4 ∧ ∀ r ∈ rows, RowOk evs rows.length m r) ∨ (5 ≤ rows.length ∧ rows.length ≤ 17 ∧ ∀ r ∈ rows, RowOk evs rows.length 1 r)
theorem RowOk.more {evs : List Lb} {m a b : Nat} {r : List (Lb × Nat)} (h : RowOk evs m a r) (hb : a ≤ b) : RowOk evs m b r := ⟨h.lb, h.to, Nat.le_trans h.le hb⟩
theorem world_ok {os : List O} {evs : List Lb} (hk : Dk os) (he0 : 0 < evs.length) (he : evs.length ≤ 6) :
    ∃ rows os' b1, Dk os' ∧ Wd 5 evs rows ∧ f__law_world [.lst os, .dat (dA dL evs)] = some (oLL dS rows, [some (.lst os'), b1]) := by
  have main : wp b__law_world (enter [true, true] [.lst os, .dat (dA dL evs)] ++ List.replicate 3 .un) fun o e => ∃ rows os' s1 tl, Dk os' ∧ Wd 5 evs rows ∧ o = .rt (oLL dS rows) ∧ e = .par (.lst os') :: .par s1 :: tl := by
    show wp b__law_world [.par (.lst os), .par (.dat (dA dL evs)), .un, .un, .un] _
    unfold b__law_world
    obtain ⟨r0, os1, hr0, hk1, e1⟩ := draw_ok hk 6 6 rfl (by omega) (by omega)
    have st : (mTru oBool (mOp gtD (mCall f__law_draw (mALend 0 (mAVal (mC (.int 6)) mANil))) (mC (.int 0)))) [.par (.lst os), .par (.dat (dA dL evs)), .un, .un, .un] = some (decide (0 < (r0 : Int)), [.par (.lst os1), .par (.dat (dA dL evs)), .un, .un, .un]) := by
      simp [e1]
    by_cases h0 : 0 < r0
    · obtain ⟨r2, os2, hr2, hk2, e2⟩ := draw_ok hk1 6 6 rfl (by omega) (by omega)
      obtain ⟨n, hn0, hn9, hn⟩ : ∃ n : Nat, 0 < n ∧ n ≤ 4 ∧ ([PyData.int 1, .int 2, .int 3, .int 4, .int 4, .int 3])[r2]? = some (.int n) := by
        obtain ⟨x, hx, e⟩ := pick (l := [PyData.int 1, .int 2, .int 3, .int 4, .int 4, .int 3]) (r := r2) hr2
        simp only [List.mem_cons, List.not_mem_nil, or_false] at hx
        rcases hx with rfl | rfl | rfl | rfl | rfl | rfl
        · exact ⟨1, by omega, by omega, e⟩
        · exact ⟨2, by omega, by omega, e⟩
        · exact ⟨3, by omega, by omega, e⟩
        · exact ⟨4, by omega, by omega, e⟩
        · exact ⟨4, by omega, by omega, e⟩
        · exact ⟨3, by omega, by omega, e⟩
      obtain ⟨rows, os3, b1, b2, hk3, hl, hR, e3⟩ := rows_ok hk2 hn0 hn9 he
      refine wp_seq (wp_of (a := .rt (oLL dS rows)) (e := [.par (.lst os3), .par (.dat (dA dL evs)), .un, .un, .un]) ?_ ?_)
      · rw [e_ifs, st, e_bind, if_pos (by simp; omega)]
        simp [e2, hn, e3]
      · exact ⟨rows, os3, _, _, hk3, .inl ⟨by omega, by omega, fun r hr => by rw [hl]; exact (hR r hr).more (by omega)⟩, rfl, rfl⟩
    · refine wp_seq (wp_of (a := .nx) (e := [.par (.lst os1), .par (.dat (dA dL evs)), .un, .un, .un]) (by rw [e_ifs, st, e_bind, if_neg (by simp; omega)]; rfl) ?_)
      obtain ⟨r2, os2, hr2, hk2, e2⟩ := draw_ok hk1 13 13 rfl (by omega) (by omega)
      refine wp_seq (wp_of (a := .nx) (e := [.par (.lst os2), .par (.dat (dA dL evs)), .var (.dat (.int ((5 + r2 : Nat) : Int))), .un, .un]) (by simp [e2]) ?_)
      have hit : mRng1 (mOp subD (mNm 2) (mC (.int 1))) [.par (.lst os2), .par (.dat (dA dL evs)), .var (.dat (.int ((5 + r2 : Nat) : Int))), .un, .un] = some ((List.range (4 + r2)).map dN, [.par (.lst os2), .par (.dat (dA dL evs)), .var (.dat (.int ((5 + r2 : Nat) : Int))), .un, .un]) := by
        refine rng_eq ?_ (by omega)
        have : ((5 + r2 : Nat) : Int) - 1 = ((4 + r2 : Nat) : Int) := by omega
        rw [e_op, e_nm]
        simp only [List.getElem?_cons_succ, List.getElem?_cons_zero, e_bind, e_see1, e_c, e_data, e_sub, e_map, this]
      have step1 : ∀ (os : List O) (s : Sl), Dk os → ∃ l os', l ∈ evs ∧ Dk os' ∧ ∀ m x y, (mGetN 1 (mCall f__law_draw (mALend 0 (mAVal (mC1 lenO (mPk 1)) mANil)))) [.par (.lst os), .par (.dat (dA dL evs)), m, x, y] = some (.dat (dL l), [.par (.lst os'), .par (.dat (dA dL evs)), m, x, y]) := by
        intro os s hk
        obtain ⟨r, os', hr, hk', e⟩ := draw_ok hk evs.length evs.length rfl he0 (by omega)
        obtain ⟨l, hl, hi⟩ := pick hr
        have hx : ixA (.dat (dA dL evs)) (.int r) = some (.dat (dL l)) := by
          have := ix_dA (f := dL) evs r
          rw [hi] at this
          exact this
        refine ⟨l, os', hl, hk', fun m x y => ?_⟩
        simp [e, hx]
      obtain ⟨rs, e', hlc, rows, os3, hk3, hl, hR, rfl, rfl⟩ := lcL_rng (vs := [4]) (t := tgN 4) (c := mYes) (me := mLst (mCons (mTup (mDCons (mGetN 1 (mCall f__law_draw (mALend 0 (mAVal (mC1 lenO (mPk 1)) mANil)))) (mDCons (mOp addD (mNm 4) (mC (.int 1))) mDNil))) mNil)) (n := 4 + r2)
        (I := fun k ls e => ∃ rows os', Dk os' ∧ rows.length = k ∧ (∀ r ∈ rows, RowOk evs (5 + r2) 1 r) ∧ ls = rows.map (oL dS) ∧ e = [.par (.lst os'), .par (.dat (dA dL evs)), .var (.dat (.int ((5 + r2 : Nat) : Int))), .un, .un]) (by
          rintro k ls e hkn ⟨rows, os', hk', hl, hR, rfl, rfl⟩
          obtain ⟨l, os4, hle, hk4, e4⟩ := step1 os' .un hk'
          refine ⟨[.par (.lst os'), .par (.dat (dA dL evs)), .var (.dat (.int ((5 + r2 : Nat) : Int))), .un, .var (.dat (.int k))], rfl, wp_of rfl (wp_of (a := oL dS [(l, k + 1)]) (e := [.par (.lst os4), .par (.dat (dA dL evs)), .var (.dat (.int ((5 + r2 : Nat) : Int))), .un, .var (.dat (.int k))]) ?_ ?_)⟩
          · rw [e_lst, e_cons, e_tup, e_dcons, e4]
            simp [oL, dS, dN]
          · refine ⟨rows ++ [[(l, k + 1)]], os4, hk4, by simp [hl], ?_, by simp, rfl⟩
            intro r hr
            rcases List.mem_append.mp hr with hr | hr
            · exact hR r hr
            · rw [List.mem_singleton.mp hr]
              refine ⟨fun s hs => ?_, fun s hs => ?_, by simp⟩
              · rw [List.mem_singleton.mp hs]; exact .inl hle
              · rw [List.mem_singleton.mp hs]; show k + 1 < 5 + r2; omega) (e := [.par (.lst os2), .par (.dat (dA dL evs)), .var (.dat (.int ((5 + r2 : Nat) : Int))), .un, .un]) ⟨[], os2, hk2, rfl, by simp, rfl, rfl⟩
      have h3 := lc_eq hit hlc (by rw [List.length_map]; omega)
      refine wp_seq (wp_of (a := .nx) (e := [.par (.lst os3), .par (.dat (dA dL evs)), .var (.dat (.int ((5 + r2 : Nat) : Int))), .var (oLL dS rows), .un]) (by rw [e_asg, h3]; rfl) ?_)
      obtain ⟨l, os4, hle, hk4, e4⟩ := step1 os3 .un hk3
      obtain ⟨r5, os5, hr5, hk5, e5⟩ := draw_ok hk4 (5 + r2) ((5 + r2 : Nat) : Int) rfl (by omega) (by omega)
      have happ := ap_any (i := 3) (ev := [.par (.lst os3), .par (.dat (dA dL evs)), .var (.dat (.int ((5 + r2 : Nat) : Int))), .var (oLL dS rows), .un]) (os := rows.map (oL dS)) (o := oL dS [(l, r5)])
        (me := mLst (mCons (mTup (mDCons (mGetN 1 (mCall f__law_draw (mALend 0 (mAVal (mC1 lenO (mPk 1)) mANil)))) (mDCons (mCall f__law_draw (mALend 0 (mALend 2 mANil))) mDNil))) mNil))
        (e2 := [.par (.lst os5), .par (.dat (dA dL evs)), .var (.dat (.int ((5 + r2 : Nat) : Int))), .ro (.lst (rows.map (oL dS))), .un]) rfl (by
          have hs : ([Sl.par (.lst os3), .par (.dat (dA dL evs)), .var (.dat (.int ((5 + r2 : Nat) : Int))), .var (oLL dS rows), .un]).set 3 (.ro (.lst (rows.map (oL dS)))) = [.par (.lst os3), .par (.dat (dA dL evs)), .var (.dat (.int ((5 + r2 : Nat) : Int))), .ro (.lst (rows.map (oL dS))), .un] := rfl
          have e6 : (mCall f__law_draw (mALend 0 (mALend 2 mANil))) [.par (.lst os4), .par (.dat (dA dL evs)), .var (.dat (.int ((5 + r2 : Nat) : Int))), .ro (.lst (rows.map (oL dS))), .un] = some (.dat (.int r5), [.par (.lst os5), .par (.dat (dA dL evs)), .var (.dat (.int ((5 + r2 : Nat) : Int))), .ro (.lst (rows.map (oL dS))), .un]) := by
            rw [e_call, e_alend, e_alend]
            simp only [List.getElem?_cons_succ, List.getElem?_cons_zero, e_bind, e_see1, e_see2, e_anil, e_map, List.map_nil, List.append_nil, List.nil_append, e_lendl, e_lendr, e_lend0, e_tree2, List.set_cons_zero, e5, e_givel, e_giver, e_give0, List.getD_cons_zero, e_sput2]
          rw [hs, e_lst, e_cons, e_tup, e_dcons, e4, e_bind, e_dcons, e6, e_bind, e_dnil]
          simp [oL, dS, dN]) rfl (by rw [List.length_map]; omega)
      refine wp_seq (wp_of happ ?_)
      refine wp_ret (wp_of (a := oLL dS (rows ++ [[(l, r5)]])) (e := [.par (.lst os5), .par (.dat (dA dL evs)), .var (.dat (.int ((5 + r2 : Nat) : Int))), .un, .un]) ?_ ⟨rows ++ [[(l, r5)]], os5, _, _, hk5, .inr ?_, rfl, rfl⟩)
      · have : (O.lst (rows.map (oL dS) ++ [oL dS [(l, r5)]])) = oLL dS (rows ++ [[(l, r5)]]) := by simp [oLL]
        rw [this]
        rfl
      · have hlen : (rows ++ [[(l, r5)]]).length = 5 + r2 := by rw [List.length_append, hl]; simp; omega
        rw [hlen]
        refine ⟨by omega, by omega, fun r hr => ?_⟩
        rcases List.mem_append.mp hr with hr | hr
        · exact hR r hr
        · rw [List.mem_singleton.mp hr]
          refine ⟨fun s hs => ?_, fun s hs => ?_, by simp⟩
          · rw [List.mem_singleton.mp hs]; exact .inl hle
          · rw [List.mem_singleton.mp hs]; exact hr5
  obtain ⟨r, bs, h4, rows, os', b1, h5, h6, rfl, rfl⟩ := run_wp (ks := [true, true]) (l := 3) (R := fun r bs => ∃ rows os' b1, Dk os' ∧ Wd 5 evs rows ∧ r = oLL dS rows ∧ bs = [some (.lst os'), b1]) rfl
    (main.mono (by rintro o e ⟨rows, os', s1, tl, h1, h2, rfl, rfl⟩; exact ⟨rows, os', some s1, h1, h2, rfl, rfl⟩))
  exact ⟨rows, os', b1, h5, h6, h4⟩
theorem fault_ok {os : List O} {evs : List Lb} {rows : List (List (Lb × Nat))} (hk : Dk os) (h1 : 1 ≤ rows.length) (h4 : rows.length ≤ 4) (hR : ∀ r ∈ rows, RowOk evs rows.length 5 r) :
    ∃ made os' b1, Dk os' ∧ made.length = rows.length ∧ (∀ r ∈ made, RowOk evs made.length 7 r) ∧ f__law_fault [.lst os, .dat (dA (dA dS) rows)] = some (oLL dS made, [some (.lst os'), b1]) := by
  have main : wp b__law_fault (enter [true, true] [.lst os, .dat (dA (dA dS) rows)] ++ List.replicate 4 .un) fun o e => ∃ made os' s1 tl, Dk os' ∧ made.length = rows.length ∧ (∀ r ∈ made, RowOk evs made.length 7 r) ∧ o = .rt (oLL dS made) ∧ e = .par (.lst os') :: .par s1 :: tl := by
    show wp b__law_fault [.par (.lst os), .par (.dat (dA (dA dS) rows)), .un, .un, .un, .un] _
    unfold b__law_fault
    have c1 : lcL [4] (tgN 4) mYes (mLc [3] (mItA (mNm 4)) (tgN 3) mYes (mNm 3)) (rows.map (dA dS)) [.par (.lst os), .par (.dat (dA (dA dS) rows)), .un, .un, .un, .un] = some ((rows.filter fun _ => true).map fun r => oL dS r, [.par (.lst os), .par (.dat (dA (dA dS) rows)), .un, .un, .un, .un]) := by
      refine lcL_map _ _ _ fun r hr => ?_
      have c2 : lcL [3] (tgN 3) mYes (mNm 3) (r.map dS) [.par (.lst os), .par (.dat (dA (dA dS) rows)), .un, .un, .var (.dat (dA dS r)), .un] = some ((r.filter fun _ => true).map fun s => .dat (dS s), [.par (.lst os), .par (.dat (dA (dA dS) rows)), .un, .un, .var (.dat (dA dS r)), .un]) := by
        refine lcL_map _ _ _ fun s hs => ?_
        exact ⟨[.par (.lst os), .par (.dat (dA (dA dS) rows)), .un, .var (.dat (dS s)), .var (.dat (dA dS r)), .un], _, rfl, rfl, fun z => (by cases z), fun _ => ⟨_, rfl, rfl⟩⟩
      have hrl := (hR r hr).le
      rw [filter_tt] at c2
      have c3 : mLc [3] (mItA (mNm 4)) (tgN 3) mYes (mNm 3) [.par (.lst os), .par (.dat (dA (dA dS) rows)), .un, .un, .var (.dat (dA dS r)), .un] = some (oL dS r, [.par (.lst os), .par (.dat (dA (dA dS) rows)), .un, .un, .var (.dat (dA dS r)), .un]) := lc_eq (ds := r.map dS) rfl c2 (by rw [List.length_map]; omega)
      exact ⟨_, _, rfl, rfl, fun z => (by cases z), fun _ => ⟨_, c3, rfl⟩⟩
    rw [filter_tt] at c1
    have c4 : mLc [4] (mItA (mNm 1)) (tgN 4) mYes (mLc [3] (mItA (mNm 4)) (tgN 3) mYes (mNm 3)) [.par (.lst os), .par (.dat (dA (dA dS) rows)), .un, .un, .un, .un] = some (oLL dS rows, [.par (.lst os), .par (.dat (dA (dA dS) rows)), .un, .un, .un, .un]) := lc_eq (ds := rows.map (dA dS)) rfl c1 (by rw [List.length_map]; omega)
    refine wp_seq (wp_of (a := .nx) (e := [.par (.lst os), .par (.dat (dA (dA dS) rows)), .var (oLL dS rows), .un, .un, .un]) (by rw [e_asg, c4]; rfl) ?_)
    obtain ⟨n, os1, hn, hk1, e1⟩ := draw_ok hk 3 3 rfl (by omega) (by omega)
    refine wp_seq (wp_forR (n := n) (ev1 := [.par (.lst os1), .par (.dat (dA (dA dS) rows)), .var (oLL dS rows), .un, .un, .un]) (rng_eq (by simp [e1]) (by omega))
      (fun k e => ∃ os' made, Dk os' ∧ made.length = rows.length ∧ (∀ r ∈ made, RowOk evs made.length (5 + k) r) ∧ e = [.par (.lst os'), .par (.dat (dA (dA dS) rows)), .var (oLL dS made), .un, .un, .un]) ⟨os1, rows, hk1, rfl, hR, rfl⟩ ?_ ?_)
    · rintro e ⟨os', made, h5, h6, h7, rfl⟩
      refine wp_ret (wp_of (a := oLL dS made) (e := [.par (.lst os'), .par (.dat (dA (dA dS) rows)), .un, .un, .un, .un]) rfl ⟨made, os', _, _, h5, h6, fun r hr => (h7 r hr).more (by omega), rfl, rfl⟩)
    · rintro k e hkn ⟨os', made, h5, h6, h7, rfl⟩
      refine ⟨[.par (.lst os'), .par (.dat (dA (dA dS) rows)), .var (oLL dS made), .un, .un, .var (.dat (.int k))], rfl, ?_⟩
      obtain ⟨r, os2, hr, hk2, e2⟩ := draw_ok h5 made.length made.length rfl (by omega) (by omega)
      obtain ⟨r', os3, hr', hk3, e3⟩ := draw_ok hk2 made.length made.length rfl (by omega) (by omega)
      have d1 : ∀ (o o' : List O) (x : Nat) (s : Sl), f__law_draw [.lst o, .dat (.int made.length)] = some (.dat (.int x), [some (.lst o'), some (.dat (.int made.length))]) → (mCall f__law_draw (mALend 0 (mAVal (mC1 lenO (mPk 2)) mANil))) [.par (.lst o), .par (.dat (dA (dA dS) rows)), .ro (oLL dS made), .un, .un, s] = some (.dat (.int x), [.par (.lst o'), .par (.dat (dA (dA dS) rows)), .ro (oLL dS made), .un, .un, s]) := by
        intro o o' x s h
        simp [oLL, h]
      obtain ⟨row, hrow, hi⟩ := pick hr
      have at0 : atP (oLL dS made) [.int r] = some (oL dS row) := by
        show (atI (made.map (oL dS)) (r : Int)).bind (fun c => some c) = _
        rw [e_atin, List.getElem?_map, hi]
        rfl
      have l1 : lIx (lN 2) (mCall f__law_draw (mALend 0 (mAVal (mC1 lenO (mPk 2)) mANil))) [.par (.lst os'), .par (.dat (dA (dA dS) rows)), .var (oLL dS made), .un, .un, .var (.dat (.int k))] = some ((2, [.int r]), [.par (.lst os2), .par (.dat (dA (dA dS) rows)), .var (oLL dS made), .un, .un, .var (.dat (.int k))]) := by
        have e0 : lN 2 [.par (.lst os'), .par (.dat (dA (dA dS) rows)), .var (oLL dS made), .un, .un, .var (.dat (.int k))] = some ((2, []), [.par (.lst os'), .par (.dat (dA (dA dS) rows)), .var (oLL dS made), .un, .un, .var (.dat (.int k))]) := rfl
        have e0' : vw1 2 [.par (.lst os'), .par (.dat (dA (dA dS) rows)), .var (oLL dS made), .un, .un, .var (.dat (.int k))] = some (oLL dS made, Sl.var, [.par (.lst os'), .par (.dat (dA (dA dS) rows)), .ro (oLL dS made), .un, .un, .var (.dat (.int k))]) := rfl
        rw [e_lix, e0, e_bind, e0', e_bind, d1 _ _ _ _ e2, e_bind, List.nil_append, e_data, at0, if_pos ⟨rfl, rfl⟩]
        rfl
      have hne : row.length + 1 ≤ 1000000 := by have := (h7 row hrow).le; omega
      have ap : fAppend (oL dS row) [.dat (dS (fault, r'))] = some (.dat .none, oL dS (row ++ [(fault, r')])) := by rw [app_oL dS row _, fitS_ok hne]
      have pu : putP (oLL dS made) [.int r] (oL dS (row ++ [(fault, r')])) = oLL dS (made.set r (row ++ [(fault, r')])) := by
        have at1' : at1 (oLL dS made) (.int r) = some (oL dS row) := by
          show atI (made.map (oL dS)) (r : Int) = _
          rw [e_atin, List.getElem?_map, hi]
          rfl
        rw [e_putP1, at1']
        show put1 (.lst (made.map (oL dS))) (.int (r : Int)) _ = _
        rw [e_put1l, List.length_map, e_ixn, if_pos hr]
        simp [oLL]
      have me : mMet "list" (lIx (lN 2) (mCall f__law_draw (mALend 0 (mAVal (mC1 lenO (mPk 2)) mANil)))) (mCons (mTup (mDCons (mTup (mDCons (mC (.str "")) (mDCons (mC (.str "fault")) mDNil))) (mDCons (mCall f__law_draw (mALend 0 (mAVal (mC1 lenO (mPk 2)) mANil))) mDNil))) mNil) fAppend
          [.par (.lst os'), .par (.dat (dA (dA dS) rows)), .var (oLL dS made), .un, .un, .var (.dat (.int k))] = some (.dat .none, [.par (.lst os3), .par (.dat (dA (dA dS) rows)), .var (oLL dS (made.set r (row ++ [(fault, r')]))), .un, .un, .var (.dat (.int k))]) := by
        have e0' : vw1 2 [.par (.lst os2), .par (.dat (dA (dA dS) rows)), .var (oLL dS made), .un, .un, .var (.dat (.int k))] = some (oLL dS made, Sl.var, [.par (.lst os2), .par (.dat (dA (dA dS) rows)), .ro (oLL dS made), .un, .un, .var (.dat (.int k))]) := rfl
        have e4 : (mTup (mDCons (mTup (mDCons (mC (.str "")) (mDCons (mC (.str "fault")) mDNil))) (mDCons (mCall f__law_draw (mALend 0 (mAVal (mC1 lenO (mPk 2)) mANil))) mDNil))) [.par (.lst os2), .par (.dat (dA (dA dS) rows)), .ro (oLL dS made), .un, .un, .var (.dat (.int k))] = some (.dat (dS (fault, r')), [.par (.lst os3), .par (.dat (dA (dA dS) rows)), .ro (oLL dS made), .un, .un, .var (.dat (.int k))]) := by
          have e5 : (mTup (mDCons (mC (.str "")) (mDCons (mC (.str "fault")) mDNil))) [.par (.lst os2), .par (.dat (dA (dA dS) rows)), .ro (oLL dS made), .un, .un, .var (.dat (.int k))] = some (.dat (dL fault), [.par (.lst os2), .par (.dat (dA (dA dS) rows)), .ro (oLL dS made), .un, .un, .var (.dat (.int k))]) := by
            simp [dL, dO, fault]
          rw [e_tup, e_dcons, e5, e_bind, e_dcons, d1 _ _ _ (.var (.dat (.int k))) e3, e_bind, e_dnil]
          simp [dS, dN]
        have e6 : (mCons (mTup (mDCons (mTup (mDCons (mC (.str "")) (mDCons (mC (.str "fault")) mDNil))) (mDCons (mCall f__law_draw (mALend 0 (mAVal (mC1 lenO (mPk 2)) mANil))) mDNil))) mNil) [.par (.lst os2), .par (.dat (dA (dA dS) rows)), .ro (oLL dS made), .un, .un, .var (.dat (.int k))] = some ([.dat (dS (fault, r'))], [.par (.lst os3), .par (.dat (dA (dA dS) rows)), .ro (oLL dS made), .un, .un, .var (.dat (.int k))]) := by
          rw [e_cons, e4, e_bind, e_nil, e_map]
        have := met_at (T := "list") l1 e0' at0 (ty_oL dS row) e6 rfl ap
        rw [this, pu]
        rfl
      refine wp_of (a := .nx) (e := [.par (.lst os3), .par (.dat (dA (dA dS) rows)), .var (oLL dS (made.set r (row ++ [(fault, r')]))), .un, .un, .var (.dat (.int k))]) (by rw [e_ex, me]; rfl) ?_
      refine ⟨os3, made.set r (row ++ [(fault, r')]), hk3, by simpa using h6, ?_, rfl⟩
      intro x hx
      rw [List.length_set]
      rcases List.mem_or_eq_of_mem_set hx with hx | rfl
      · exact (h7 x hx).more (by omega)
      · have := h7 row hrow
        have hl := this.le
        refine ⟨fun s hs => ?_, fun s hs => ?_, by simp; omega⟩
        · rcases List.mem_append.mp hs with hs | hs
          · exact this.lb s hs
          · rw [List.mem_singleton.mp hs]; exact .inr (.inr rfl)
        · rcases List.mem_append.mp hs with hs | hs
          · exact this.to s hs
          · rw [List.mem_singleton.mp hs]; exact hr'
  obtain ⟨r, bs, h4, made, os', b1, h5, h6, h7, rfl, rfl⟩ := run_wp (ks := [true, true]) (l := 4) (R := fun r bs => ∃ made os' b1, Dk os' ∧ made.length = rows.length ∧ (∀ r ∈ made, RowOk evs made.length 7 r) ∧ r = oLL dS made ∧ bs = [some (.lst os'), b1]) rfl
    (main.mono (by rintro o e ⟨made, os', s1, tl, h1, h2, h3, rfl, rfl⟩; exact ⟨made, os', some s1, h1, h2, h3, rfl, rfl⟩))
  exact ⟨made, os', b1, h5, h6, h7, h4⟩
end K78
set_option Elab.async false
set_option linter.all false
set_option maxRecDepth 100000
/-! K5: what is met, by rows of steps. -/
namespace K78
open PySem PySem.Spec PyProof.Rows L2 Z SX
def addP (p : Lb → Bool) (M : List Nat) (y : Lb × Nat) : List Nat := if p y.1 = true ∧ y.2 ∉ M then M ++ [y.2] else M
theorem addP_fold (p : Lb → Bool) : ∀ (row : List (Lb × Nat)) (M : List Nat), M.Nodup → (M <+: row.foldl (addP p) M) ∧ (row.foldl (addP p) M).Nodup ∧ (∀ x ∈ row.foldl (addP p) M, x ∈ M ∨ ∃ y ∈ row, p y.1 = true ∧ y.2 = x) ∧ ∀ y ∈ row, p y.1 = true → y.2 ∈ row.foldl (addP p) M
  | [], M, nd => ⟨List.prefix_refl _, nd, fun x h => .inl h, fun y h => by cases h⟩
  | a :: row, M, nd => by
    have nd1 : (addP p M a).Nodup := by
      unfold addP
      split
      · rename_i h
        exact List.nodup_append.mpr ⟨nd, by simp, fun x hx y hy e => h.2 (by rw [List.mem_singleton.mp hy] at e; rw [← e]; exact hx)⟩
      · exact nd
    have pre1 : M <+: addP p M a := by
      unfold addP
      split
      · exact List.prefix_append _ _
      · exact List.prefix_refl _
    have in1 : ∀ x ∈ addP p M a, x ∈ M ∨ (p a.1 = true ∧ a.2 = x) := by
      intro x hx
      unfold addP at hx
      split at hx
      · rename_i h
        rcases List.mem_append.mp hx with hx | hx
        · exact .inl hx
        · exact .inr ⟨h.1, (List.mem_singleton.mp hx).symm⟩
      · exact .inl hx
    have got : p a.1 = true → a.2 ∈ addP p M a := by
      intro hp
      unfold addP
      split
      · simp
      · rename_i h
        exact Decidable.byContradiction fun z => h ⟨hp, z⟩
    obtain ⟨h1, h2, h3, h4⟩ := addP_fold p row (addP p M a) nd1
    rw [List.foldl_cons]
    refine ⟨pre1.trans h1, h2, fun x hx => ?_, fun y hy hp => ?_⟩
    · rcases h3 x hx with h | ⟨y, hy, hp, e⟩
      · rcases in1 x h with h | h
        · exact .inl h
        · exact .inr ⟨a, List.mem_cons_self, h⟩
      · exact .inr ⟨y, List.mem_cons_of_mem _ hy, hp, e⟩
    · rcases List.mem_cons.mp hy with rfl | hy
      · exact h1.subset (got hp)
      · exact h4 y hy hp
/-- steps by rows -/
def UR (p : Lb → Bool) (rows : List (List (Lb × Nat))) (s t : Nat) : Prop := ∃ row, rows[s]? = some row ∧ ∃ y ∈ row, p y.1 = true ∧ y.2 = t
structure Bfs (p : Lb → Bool) (rows : List (List (Lb × Nat))) (S M : List Nat) (k : Nat) : Prop where
  pre : S <+: M
  nd : M.Nodup
  lt : ∀ s ∈ M, s < rows.length
  snd : ∀ s ∈ M, Rch (UR p rows) S s
  clo : ∀ j < k, ∀ s, M[j]? = some s → ∀ t, UR p rows s t → t ∈ M
/-- all targets are states -/
def Tos (rows : List (List (Lb × Nat))) : Prop := ∀ r ∈ rows, ∀ y ∈ r, y.2 < rows.length
theorem UR.lt {p : Lb → Bool} {rows : List (List (Lb × Nat))} (h : Tos rows) (s t : Nat) (u : UR p rows s t) : t < rows.length := by
  obtain ⟨row, h1, y, h2, _, rfl⟩ := u
  exact h row (List.mem_of_getElem? h1) y h2
theorem Bfs.next {p : Lb → Bool} {rows : List (List (Lb × Nat))} {S M : List Nat} {k s : Nat} {row : List (Lb × Nat)} (hT : Tos rows) (b : Bfs p rows S M k) (hk : M[k]? = some s) (hr : rows[s]? = some row) : Bfs p rows S (row.foldl (addP p) M) (k + 1) := by
  obtain ⟨h1, h2, h3, h4⟩ := addP_fold p row M b.nd
  have sM : s ∈ M := List.mem_of_getElem? hk
  refine ⟨b.pre.trans h1, h2, fun x hx => ?_, fun x hx => ?_, fun j hj x hx t ht => ?_⟩
  · rcases h3 x hx with h | ⟨y, hy, _, rfl⟩
    · exact b.lt x h
    · exact hT row (List.mem_of_getElem? hr) y hy
  · rcases h3 x hx with h | ⟨y, hy, hp, rfl⟩
    · exact b.snd x h
    · exact .step (b.snd s sM) ⟨row, hr, y, hy, hp, rfl⟩
  · obtain ⟨tl, htl⟩ := h1
    have hjM : j < M.length := by
      have := (List.getElem?_eq_some_iff.mp hk).1
      omega
    have hx' : M[j]? = some x := by
      rw [← htl, List.getElem?_append_left hjM] at hx
      exact hx
    by_cases e : j = k
    · subst e
      rw [hk] at hx'
      cases hx'
      obtain ⟨row', h5, y, hy, hp, rfl⟩ := ht
      rw [hr] at h5
      cases h5
      exact h4 y hy hp
    · have := b.clo j (by omega) x hx' t ht
      rw [← htl]
      exact List.mem_append_left _ this
theorem Bfs.all {p : Lb → Bool} {rows : List (List (Lb × Nat))} {S M : List Nat} {k : Nat} (b : Bfs p rows S M k) (hk : M.length ≤ k) : ∀ s ∈ M, ∀ t, UR p rows s t → t ∈ M := fun s hs t ht => by
  obtain ⟨j, hj, e⟩ := List.getElem_of_mem hs
  exact b.clo j (by omega) s (by rw [List.getElem?_eq_getElem hj, e]) t ht
theorem Bfs.cl {p : Lb → Bool} {rows : List (List (Lb × Nat))} {S M : List Nat} {k : Nat} (hT : Tos rows) (b : Bfs p rows S M k) (hk : M.length ≤ k) : sortE dN M = Z.cl (UR p rows) rows.length S :=
  cl_of b.nd (fun s m => b.lt s (b.pre.subset m)) (UR.lt hT) fun s => ⟨b.snd s, fun h => h.in (fun s m => b.pre.subset m) (b.all hk)⟩
theorem Bfs.len {p : Lb → Bool} {rows : List (List (Lb × Nat))} {S M : List Nat} {k : Nat} (b : Bfs p rows S M k) : M.length ≤ rows.length := nodup_lt b.nd b.lt
theorem Bfs.start {p : Lb → Bool} {rows : List (List (Lb × Nat))} {S : List Nat} (nd : S.Nodup) (h : ∀ s ∈ S, s < rows.length) : Bfs p rows S S 0 := ⟨List.prefix_refl _, nd, h, fun s m => .base m, fun j hj => absurd hj (Nat.not_lt_zero _)⟩
theorem fold_bnd {p : Lb → Bool} {n : Nat} {row : List (Lb × Nat)} (hr : ∀ y ∈ row, y.2 < n) {M : List Nat} (nd : M.Nodup) (h : ∀ s ∈ M, s < n) {y : Lb × Nat} (hy : y ∈ row) : (addP p M y).Nodup ∧ ∀ s ∈ addP p M y, s < n := by
  obtain ⟨_, h2, h3, _⟩ := addP_fold p [y] M nd
  refine ⟨h2, fun s hs => ?_⟩
  rcases h3 s hs with h' | ⟨z, hz, _, rfl⟩
  · exact h s h'
  · rw [List.mem_singleton.mp hz]; exact hr y hy
theorem met_ok {rows : List (List (Lb × Nat))} (hT : Tos rows) (h0 : 0 < rows.length) (hn : rows.length ≤ 1000) :
    ∃ M b1, Bfs (fun _ => true) rows [0] M M.length ∧ f__law_met [.dat (dA (dA dS) rows)] = some (oL dN M, [b1]) := by
  have main : wp b__law_met (enter [true] [.dat (dA (dA dS) rows)] ++ List.replicate 3 .un) fun o e => ∃ M s tl, Bfs (fun _ => true) rows [0] M M.length ∧ o = .rt (oL dN M) ∧ e = .par s :: tl := by
    show wp b__law_met [.par (.dat (dA (dA dS) rows)), .un, .un, .un] _
    unfold b__law_met
    refine wp_seq (wp_of (a := .nx) (e := [.par (.dat (dA (dA dS) rows)), .var (oL dN [0]), .un, .un]) rfl ?_)
    refine wp_seq ((wp_forR (Q := fun o e => ∃ M, Bfs (fun _ => true) rows [0] M M.length ∧ o = .nx ∧ e = [.par (.dat (dA (dA dS) rows)), .var (oL dN M), .un, .un]) (n := rows.length) (ev1 := [.par (.dat (dA (dA dS) rows)), .var (oL dN [0]), .un, .un]) (rng_eq (by simp) (by omega)) (fun k e => ∃ M, Bfs (fun _ => true) rows [0] M k ∧ e = [.par (.dat (dA (dA dS) rows)), .var (oL dN M), .un, .un])
      ⟨[0], Bfs.start (by simp) (by simpa using h0), rfl⟩ ?_ ?_).mono ?_)
    · rintro e ⟨M, b, rfl⟩
      have := b.len
      exact ⟨M, ⟨b.pre, b.nd, b.lt, b.snd, fun j hj => b.clo j (by omega)⟩, rfl, rfl⟩
    · rintro k e hk ⟨M, b, rfl⟩
      refine ⟨[.par (.dat (dA (dA dS) rows)), .var (oL dN M), .var (.dat (.int k)), .un], rfl, ?_⟩
      have st : (mTru oBool (mOp geD (mNm 2) (mC1 lenO (mPk 1)))) [.par (.dat (dA (dA dS) rows)), .var (oL dN M), .var (.dat (.int k)), .un] = some (decide ((M.length : Int) ≤ k), [.par (.dat (dA (dA dS) rows)), .var (oL dN M), .var (.dat (.int k)), .un]) := by simp
      by_cases hb : M.length ≤ k
      · refine wp_seq (wp_of (a := .bk) (e := [.par (.dat (dA (dA dS) rows)), .var (oL dN M), .var (.dat (.int k)), .un]) (by rw [e_ifs, st, e_bind, if_pos (by simp; omega)]; rfl) ?_)
        exact ⟨M, ⟨b.pre, b.nd, b.lt, b.snd, fun j hj => b.clo j (by omega)⟩, rfl, rfl⟩
      · refine wp_seq (wp_of (a := .nx) (e := [.par (.dat (dA (dA dS) rows)), .var (oL dN M), .var (.dat (.int k)), .un]) (by rw [e_ifs, st, e_bind, if_neg (by simp; omega)]; rfl) ?_)
        obtain ⟨s, hs, hMk⟩ := pick (l := M) (r := k) (by omega)
        obtain ⟨row, hrow, hr⟩ := pick (b.lt s hs)
        have it : mItA (mQ (qIx (qN 0) (qIx (qN 1) (qN 2)))) [.par (.dat (dA (dA dS) rows)), .var (oL dN M), .var (.dat (.int k)), .un] = some (row.map dS, [.par (.dat (dA (dA dS) rows)), .var (oL dN M), .var (.dat (.int k)), .un]) := by
          simp [hMk, dN, hr, dA]
        have lp := forL_fold (f := dS) (St := fun M => [.par (.dat (dA (dA dS) rows)), .var (oL dN M), .var (.dat (.int k)), .un]) (t := tgN 3) (b := mIfS (mTru oBool (mOpP ninA (mQ (qIx (qN 3) (qC (.int 1)))) (mPk 1))) (mEx (mMet "list" (lN 1) (mCons (mQ (qIx (qN 3) (qC (.int 1)))) mNil) fAppend)) mNx)
          (addP fun _ => true) (fun M => M.Nodup ∧ ∀ s ∈ M, s < rows.length) row (fun M ⟨nd, lt⟩ y hy => by
            refine ⟨fold_bnd (hT row hrow) nd lt hy, [.par (.dat (dA (dA dS) rows)), .var (oL dN M), .var (.dat (.int k)), .var (.dat (dS y))], [.par (.dat (dA (dA dS) rows)), .var (oL dN (addP (fun _ => true) M y)), .var (.dat (.int k)), .var (.dat (dS y))], rfl, ?_, rfl⟩
            have hl := nodup_lt nd lt
            have ni := ninA_of gN (by omega) (ad_oL M) (i_oL M) y.2
            have tt : (mTru oBool (mOpP ninA (mQ (qIx (qN 3) (qC (.int 1)))) (mPk 1))) [.par (.dat (dA (dA dS) rows)), .var (oL dN M), .var (.dat (.int k)), .var (.dat (dS y))] = some (!decide (y.2 ∈ M), [.par (.dat (dA (dA dS) rows)), .var (oL dN M), .var (.dat (.int k)), .var (.dat (dS y))]) := by simp [ni]
            rw [e_ifs, tt, e_bind]
            by_cases hy2 : y.2 ∈ M
            · rw [if_neg (by simp [hy2])]
              simp [addP, hy2]
            · rw [if_pos (by simp [hy2])]
              have ha : addP (fun _ => true) M y = M ++ [y.2] := by simp [addP, hy2]
              rw [ha]
              exact ap_own (i := 1) rfl rfl (by omega)) M ⟨b.nd, b.lt⟩
        refine wp_of (a := .nx) (e := [.par (.dat (dA (dA dS) rows)), .var (oL dN (row.foldl (addP fun _ => true) M)), .var (.dat (.int k)), .un]) (by rw [e_for, it, e_bind]; exact lp.1) ?_
        exact ⟨_, b.next hT hMk hr, rfl⟩
    · rintro o e ⟨M, b, rfl, rfl⟩
      exact wp_ret (wp_of (a := oL dN M) (e := [.par (.dat (dA (dA dS) rows)), .un, .un, .un]) rfl ⟨M, _, _, b, rfl, rfl⟩)
  obtain ⟨r, bs, h4, M, b1, h5, rfl, rfl⟩ := run_wp (ks := [true]) (l := 3) (R := fun r bs => ∃ M b1, Bfs (fun _ => true) rows [0] M M.length ∧ r = oL dN M ∧ bs = [b1]) rfl
    (main.mono (by rintro o e ⟨M, s, tl, h1, rfl, rfl⟩; exact ⟨M, some s, h1, rfl, rfl⟩))
  exact ⟨M, b1, h5, h4⟩
end K78
set_option Elab.async false
set_option linter.all false
set_option maxRecDepth 100000
/-! K6: the graph. -/
namespace K78
open PySem PySem.Spec PyProof.Rows L2 Z SX
theorem lik_O {a b : Option Str} (h : a.isSome = b.isSome) : likAll [dO a] [dO b] = true := by
  have e := gO.eq a b
  rw [likAll]
  cases a with
  | none => cases b with
    | none => simp [dO, PyData.eqv, tagD, likAll]
    | some y => cases h
  | some x => cases b with
    | none => cases h
    | some y =>
      by_cases q : x = y
      · subst q
        simp [dO, PyData.eqv, tagD, likAll]
      · have : PyData.eqv (dO (some x)) (dO (some y)) = false := by rw [e]; simp [q]
        rw [this]
        simp [dO, lik, PySem.W.alike]
theorem lik_L {a b : Lb} (h : a.1 = b.1 → a.2.isSome = b.2.isSome) : lik (dL a) (dL b) = true := by
  unfold dL
  rw [lik, likAll]
  have e := gX.eq a.1 b.1
  have e : PyData.eqv (.str a.1) (.str b.1) = decide (a.1 = b.1) := e
  rw [e]
  by_cases q : a.1 = b.1
  · simp only [q, decide_true, if_true, tagD, beq_self_eq_true, Bool.true_and]
    exact lik_O (h q)
  · simp [q, lik, PySem.W.alike]
theorem lik_S {a b : Lb × Nat} (h : a.1.1 = b.1.1 → a.1.2.isSome = b.1.2.isSome) : lik (dS a) (dS b) = true := by
  unfold dS
  rw [lik, likAll]
  have e := gL.eq a.1 b.1
  rw [e]
  by_cases q : a.1 = b.1
  · simp only [q, decide_true, if_true]
    have t : (tagD (dL b.1) == tagD (dL b.1)) = true := by simp
    rw [t, Bool.true_and, likAll]
    have e2 := gN.eq a.2 b.2
    rw [e2]
    by_cases q2 : a.2 = b.2
    · simp [q2, likAll]
    · simp [q2, dN, lik, PySem.W.alike]
  · simp only [q, decide_false]
    exact lik_L h
theorem srt_L {l : List Lb} (h : Co l) : Srt dL l := by
  unfold Srt srt
  simp only [Bool.and_eq_true, Bool.or_eq_true, List.all_eq_true, List.mem_map]
  refine ⟨⟨?_, ?_⟩, .inl ?_⟩
  · rintro _ ⟨a, _, rfl⟩; exact gL.p (by omega) a
  · rintro _ ⟨a, ha, rfl⟩ _ ⟨b, hb, rfl⟩; exact lik_L (h a ha b hb)
  · rintro _ ⟨a, _, rfl⟩; rfl
theorem srt_S {l : List (Lb × Nat)} (h : Co (l.map (·.1))) : Srt dS l := by
  unfold Srt srt
  simp only [Bool.and_eq_true, Bool.or_eq_true, List.all_eq_true, List.mem_map]
  refine ⟨⟨?_, ?_⟩, .inl ?_⟩
  · rintro _ ⟨a, _, rfl⟩; exact gS.p (by omega) a
  · rintro _ ⟨a, ha, rfl⟩ _ ⟨b, hb, rfl⟩; exact lik_S (h _ (List.mem_map.mpr ⟨a, ha, rfl⟩) _ (List.mem_map.mpr ⟨b, hb, rfl⟩))
  · rintro _ ⟨a, _, rfl⟩; rfl
/-- labels that rows may bear -/
def Lab (evs : List Lb) (l : Lb) : Prop := l ∈ evs ∨ l = quiet ∨ l = fault
theorem co_nd {l : List Lb} (h : (l.map (·.1)).Nodup) : Co l := by
  induction l with
  | nil => intro a ha; cases ha
  | cons x l ih =>
    rw [List.map_cons, List.nodup_cons] at h
    intro a ha b hb e
    rcases List.mem_cons.mp ha with qa | ha <;> rcases List.mem_cons.mp hb with qb | hb
    · rw [qa, qb]
    · exact absurd (List.mem_map.mpr ⟨b, hb, by rw [← e, qa]⟩) h.1
    · exact absurd (List.mem_map.mpr ⟨a, ha, by rw [e, qb]⟩) h.1
    · exact ih h.2 a ha b hb e
theorem nm_ne {x : Str} (h : Nm x) : x ≠ Str.ofString "" := fun e => by
  have := h.ne
  rw [e] at this
  revert this
  decide +kernel
theorem co_lab {evs l : List Lb} (hc : Co evs) (ho : ∀ e ∈ evs, LbOk e) (h : ∀ a ∈ l, Lab evs a) : Co l := by
  intro a ha b hb e
  have q : ∀ c, Lab evs c → (c ∈ evs ∧ c.1 ≠ Str.ofString "") ∨ (c.1 = Str.ofString "" ∧ c.2.isSome = true) := fun c hc => by
    rcases hc with hc | rfl | rfl
    · exact .inl ⟨hc, nm_ne (ho c hc).1⟩
    · exact .inr ⟨rfl, rfl⟩
    · exact .inr ⟨rfl, rfl⟩
  rcases q a (h a ha) with ⟨h1, h2⟩ | ⟨h1, h2⟩ <;> rcases q b (h b hb) with ⟨h3, h4⟩ | ⟨h3, h4⟩
  · exact hc a h1 b h3 e
  · exact absurd (e.trans h3) h2
  · exact absurd (e.symm.trans h1) h4
  · rw [h2, h4]
/-- a graph's rows -/
structure Gr (evs : List Lb) (G : List (List (Lb × Nat))) : Prop where
  pos : 1 ≤ G.length
  few : (G.length ≤ 4 ∧ ∀ r ∈ G, r.length ≤ 7) ∨ (G.length ≤ 17 ∧ ∀ r ∈ G, r.length ≤ 1)
  to : Tos G
  lab : ∀ r ∈ G, ∀ y ∈ r, Lab evs y.1
def addS (M : List Nat) (R : List (Lb × Nat)) (y : Lb × Nat) : List (Lb × Nat) := if (y.1, M.idxOf y.2) ∉ R then R ++ [(y.1, M.idxOf y.2)] else R
def PS (M : List Nat) (row : List (Lb × Nat)) (R : List (Lb × Nat)) : Prop := R.Nodup ∧ ∀ z ∈ R, z ∈ row.map fun y => (y.1, M.idxOf y.2)
theorem PS.len {M : List Nat} {row R : List (Lb × Nat)} (h : PS M row R) : R.length ≤ row.length := by
  have := h.1.length_le_of_subset h.2
  rwa [List.length_map] at this
theorem PS.next {M : List Nat} {row R : List (Lb × Nat)} (h : PS M row R) {y : Lb × Nat} (hy : y ∈ row) : PS M row (addS M R y) := by
  unfold addS
  split
  · rename_i hn
    refine ⟨List.nodup_append.mpr ⟨h.1, by simp, fun x hx z hz e => hn (by rw [List.mem_singleton.mp hz] at e; rw [← e]; exact hx)⟩, fun z hz => ?_⟩
    rcases List.mem_append.mp hz with hz | hz
    · exact h.2 z hz
    · rw [List.mem_singleton.mp hz]; exact List.mem_map.mpr ⟨y, hy, rfl⟩
  · exact h
def dG (evs1 evs2 : List Lb) (G : List (List (Lb × Nat))) : PyData := .tuple [.str (Str.ofString "graph"), dT dL evs1, dT dL evs2, dT (dT dS) G]
theorem graph_ok {ins outs evs : List Lb} {rows : List (List (Lb × Nat))} (D : Drs ins outs evs) (W : (1 ≤ rows.length ∧ rows.length ≤ 4 ∧ ∀ r ∈ rows, RowOk evs rows.length 7 r) ∨ (5 ≤ rows.length ∧ rows.length ≤ 17 ∧ ∀ r ∈ rows, RowOk evs rows.length 1 r)) :
    ∃ G b1, Gr evs G ∧ f__law_graph [.dat (.tuple [dA dL ins, dA dL outs, dA (dA dS) rows])] = some (.dat (dG (sortE dL ins) (sortE dL outs) G), [b1]) := by
  have hT : Tos rows := fun r hr y hy => by
    rcases W with ⟨_, _, h⟩ | ⟨_, _, h⟩
    · exact (h r hr).to y hy
    · exact (h r hr).to y hy
  have hL : ∀ r ∈ rows, ∀ y ∈ r, Lab evs y.1 := fun r hr y hy => by
    rcases W with ⟨_, _, h⟩ | ⟨_, _, h⟩
    · exact (h r hr).lb y hy
    · exact (h r hr).lb y hy
  have h7 : ∀ r ∈ rows, r.length ≤ 7 := fun r hr => by
    rcases W with ⟨_, _, h⟩ | ⟨_, _, h⟩
    · exact (h r hr).le
    · have := (h r hr).le; omega
  have hn : 1 ≤ rows.length ∧ rows.length ≤ 17 := by rcases W with ⟨h1, h2, _⟩ | ⟨h1, h2, _⟩ <;> omega
  obtain ⟨M, b0, B, eM⟩ := met_ok hT (by omega) (by omega)
  have MB := B.all (Nat.le_refl _)
  have Ml := B.len
  have M1 : 1 ≤ M.length := by
    obtain ⟨t, e⟩ := B.pre
    rw [← e]; simp
  let sv : PyData := .tuple [dA dL ins, dA dL outs, dA (dA dS) rows]
  let E (rs : List (List (Lb × Nat))) (s r y m : Sl) : Ev := [.par (.dat sv), .var (.dat (dA dN M)), .var (oL (dT dS) rs), s, r, y, m]
  have main : wp b__law_graph (enter [true] [.dat sv] ++ List.replicate 6 .un) fun o e => ∃ G s tl, Gr evs G ∧ o = .rt (.dat (dG (sortE dL ins) (sortE dL outs) G)) ∧ e = .par s :: tl := by
    show wp b__law_graph [.par (.dat sv), .un, .un, .un, .un, .un, .un] _
    unfold b__law_graph
    refine wp_seq (wp_of (a := .nx) (e := [.par (.dat sv), .var (oL dN M), .un, .un, .un, .un, .un]) (by
      have q : mQ (qIx (qN 0) (qC (.int 2))) [.par (.dat sv), .un, .un, .un, .un, .un, .un] = some (.dat (dA (dA dS) rows), [.par (.dat sv), .un, .un, .un, .un, .un, .un]) := by simp [sv]
      rw [e_asg, e_call, e_aval, q]
      simp [eM]) ?_)
    refine wp_seq (wp_of (a := .nx) (e := [.par (.dat sv), .var (oL dN M), .var (oL (dT dS) []), .un, .un, .un, .un]) rfl ?_)
    have hi : mItA (mNm 1) [.par (.dat sv), .var (oL dN M), .var (oL (dT dS) []), .un, .un, .un, .un] = some (M.map dN, E [] .un .un .un .un) := by
      have e1 : mNm 1 [.par (.dat sv), .var (oL dN M), .var (oL (dT dS) []), .un, .un, .un, .un] = some (.dat (oL dN M).data, [.par (.dat sv), .var (.dat (oL dN M).data), .var (oL (dT dS) []), .un, .un, .un, .un]) := rfl
      rw [e_ita, e1, data_oL]
      rfl
    refine wp_seq ((wp_forT (l := M) (ev1 := E [] .un .un .un .un) (Q := fun o e => ∃ G, G.length = M.length ∧ (∀ r ∈ G, ∃ r0 ∈ rows, r.length ≤ r0.length ∧ ∀ z ∈ r, ∃ y ∈ r0, z.1 = y.1 ∧ z.2 < M.length) ∧ o = .nx ∧ e = E G .un .un .un .un) hi
      (fun rest e => ∃ G, G.length + rest.length = M.length ∧ (∀ s ∈ rest, s ∈ M) ∧ (∀ r ∈ G, ∃ r0 ∈ rows, r.length ≤ r0.length ∧ ∀ z ∈ r, ∃ y ∈ r0, z.1 = y.1 ∧ z.2 < M.length) ∧ e = E G .un .un .un .un) ⟨[], by simp, fun s m => m, by simp, rfl⟩ ?_ ?_).mono ?_)
    · rintro e ⟨G, h1, h2, h3, rfl⟩
      exact ⟨G, by simpa using h1, h3, rfl, rfl⟩
    · rintro s rest e ⟨G, h1, h2, h3, rfl⟩
      refine ⟨E G (.var (.dat (.int s))) .un .un .un, rfl, ?_⟩
      refine wp_seq (wp_of (a := .nx) (e := E G (.var (.dat (.int s))) (.var (oL dS [])) .un .un) rfl ?_)
      have sM := h2 s List.mem_cons_self
      obtain ⟨row, hrow, hr⟩ := pick (B.lt s sM)
      have hrl := h7 row hrow
      have it : mItA (mQ (qIx (qIx (qN 0) (qC (.int 2))) (qN 3))) (E G (.var (.dat (.int s))) (.var (oL dS [])) .un .un) = some (row.map dS, E G (.var (.dat (.int s))) (.var (oL dS [])) .un .un) := by
        simp [E, sv, hr, dA]
      have lp := forL_fold (f := dS) (St := fun R => E G (.var (.dat (.int s))) (.var (oL dS R)) .un .un) (t := tgN 5) (b := (mSeq (mAsg 6 (mTup (mDCons (mQ (qIx (qN 5) (qC (.int 0)))) (mDCons (mMetD "list" (mNm 1) (mCons (mQ (qIx (qN 5) (qC (.int 1)))) mNil) gIndex) mDNil))))
  (mIfS (mTru oBool (mOpP ninA (mNm 6) (mPk 4))) (mEx (mMet "list" (lN 4) (mCons (mNm 6) mNil) fAppend)) mNx)))
        (addS M) (PS M row) row (fun R hR y hy => by
          have hRl := hR.len
          have yM : y.2 ∈ M := MB s sM y.2 ⟨row, hr, y, hy, rfl, rfl⟩
          have ix : gIndex (dA dN M) [.dat (.int y.2)] = some (.dat (.int (M.idxOf y.2))) := by
            have := idx_of gN (by omega) M y.2
            rw [if_pos yM] at this
            exact this
          have s6 : (mAsg 6 (mTup (mDCons (mQ (qIx (qN 5) (qC (.int 0)))) (mDCons (mMetD "list" (mNm 1) (mCons (mQ (qIx (qN 5) (qC (.int 1)))) mNil) gIndex) mDNil)))) (E G (.var (.dat (.int s))) (.var (oL dS R)) (.var (.dat (dS y))) .un) = some (.nx, E G (.var (.dat (.int s))) (.var (oL dS R)) (.var (.dat (dS y))) (.var (.dat (dS (y.1, M.idxOf y.2))))) := by
            have : dS (y.1, M.idxOf y.2) = .tuple [dL y.1, .int (M.idxOf y.2)] := rfl
            rw [this]
            simp [E, dN, ix]
          have ni := ninA_of gS (by omega) (ad_oL R) (i_oL R) (y.1, M.idxOf y.2)
          have tt : (mTru oBool (mOpP ninA (mNm 6) (mPk 4))) (E G (.var (.dat (.int s))) (.var (oL dS R)) (.var (.dat (dS y))) (.var (.dat (dS (y.1, M.idxOf y.2))))) = some (!decide ((y.1, M.idxOf y.2) ∈ R), E G (.var (.dat (.int s))) (.var (oL dS R)) (.var (.dat (dS y))) (.var (.dat (dS (y.1, M.idxOf y.2))))) := by simp [E, ni]
          refine ⟨hR.next hy, E G (.var (.dat (.int s))) (.var (oL dS R)) (.var (.dat (dS y))) .un, E G (.var (.dat (.int s))) (.var (oL dS (addS M R y))) (.var (.dat (dS y))) (.var (.dat (dS (y.1, M.idxOf y.2)))), rfl, ?_, rfl⟩
          rw [e_seq, s6, seqK_nx, e_ifs, tt, e_bind]
          by_cases hz : (y.1, M.idxOf y.2) ∈ R
          · rw [if_neg (by simp [hz])]
            have : addS M R y = R := by unfold addS; rw [if_neg (by simp [hz])]
            rw [this]
            rfl
          · rw [if_pos (by simp [hz])]
            have : addS M R y = R ++ [(y.1, M.idxOf y.2)] := by unfold addS; rw [if_pos hz]
            rw [this]
            have hrl7 := h7 row hrow
            exact ap_own (i := 4) (f := dS) rfl rfl (by omega)) [] ⟨List.nodup_nil, fun z hz => by cases hz⟩
      obtain ⟨lp1, lp2⟩ := lp
      generalize hR : row.foldl (addS M) [] = R at lp1 lp2
      refine wp_seq (wp_of (a := .nx) (e := E G (.var (.dat (.int s))) (.var (oL dS R)) .un .un) (by rw [e_for, it, e_bind]; exact lp1) ?_)
      have hRrow : ∀ z ∈ R, ∃ y ∈ row, z.1 = y.1 ∧ z.2 < M.length := fun z hz => by
        obtain ⟨y, hy, rfl⟩ := List.mem_map.mp (lp2.2 z hz)
        exact ⟨y, hy, rfl, List.idxOf_lt_length_of_mem (MB s sM y.2 ⟨row, hr, y, hy, rfl, rfl⟩)⟩
      have hS : Srt dS R := srt_S (co_lab D.co D.oke fun a ha => by
        obtain ⟨z, hz, rfl⟩ := List.mem_map.mp ha
        obtain ⟨y, hy, e, _⟩ := hRrow z hz
        rw [e]
        exact hL row hrow y hy)
      have so := sorted_oL hS
      have m1 : (mC1 tupO (mC1 sortedO (mPk 4))) ((E G (.var (.dat (.int s))) (.var (oL dS R)) .un .un).set 2 (.ro (oL (dT dS) G))) = some (.dat (dT dS (sortE dS R)), (E G (.var (.dat (.int s))) (.var (oL dS R)) .un .un).set 2 (.ro (oL (dT dS) G))) := by
        simp [E, so]
      have hGl : G.length + 1 ≤ 1000000 := by have := h1; rw [List.length_cons] at this; omega
      refine wp_of (ap_own2 (i := 2) (f := dT dS) (l := G) (a := sortE dS R) rfl m1 rfl hGl) ?_
      refine ⟨G ++ [sortE dS R], by rw [List.length_append]; rw [List.length_cons] at h1; simp; omega, fun x m => h2 x (List.mem_cons_of_mem _ m), ?_, rfl⟩
      intro r hr'
      rcases List.mem_append.mp hr' with hr' | hr'
      · exact h3 r hr'
      · rw [List.mem_singleton.mp hr']
        have pm := sortE_perm dS R
        exact ⟨row, hrow, by rw [pm.length_eq]; exact lp2.len, fun z hz => hRrow z (pm.mem_iff.mp hz)⟩
    · rintro o e ⟨G, h1, h2, rfl, rfl⟩
      have oi : sortedO (.dat (dA dL ins)) = some (oL dL (sortE dL ins)) := sorted_dA (srt_L (co_nd D.ni))
      have oo : sortedO (.dat (dA dL outs)) = some (oL dL (sortE dL outs)) := sorted_dA (srt_L (co_nd D.no))
      refine wp_ret (wp_of (a := .dat (dG (sortE dL ins) (sortE dL outs) G)) (e := E G .un .un .un .un) (by simp [E, sv, oi, oo, dG]) ⟨G, _, _, ⟨by omega, ?_, ?_, ?_⟩, rfl, rfl⟩)
      · rcases W with ⟨a1, a2, a3⟩ | ⟨a1, a2, a3⟩
        · refine .inl ⟨by omega, fun r hr => ?_⟩
          obtain ⟨r0, m0, l0, _⟩ := h2 r hr
          have := (a3 r0 m0).le
          omega
        · refine .inr ⟨by omega, fun r hr => ?_⟩
          obtain ⟨r0, m0, l0, _⟩ := h2 r hr
          have := (a3 r0 m0).le
          omega
      · intro r hr z hz
        obtain ⟨r0, m0, l0, h⟩ := h2 r hr
        obtain ⟨y, _, _, e⟩ := h z hz
        omega
      · intro r hr z hz
        obtain ⟨r0, m0, l0, h⟩ := h2 r hr
        obtain ⟨y, hy, e, _⟩ := h z hz
        rw [e]
        exact hL r0 m0 y hy
  obtain ⟨r, bs, h4, G, b1, h5, rfl, rfl⟩ := run_wp (ks := [true]) (l := 6) (R := fun r bs => ∃ G b1, Gr evs G ∧ r = .dat (dG (sortE dL ins) (sortE dL outs) G) ∧ bs = [b1]) rfl
    (main.mono (by rintro o e ⟨G, s, tl, h1, rfl, rfl⟩; exact ⟨G, some s, h1, rfl, rfl⟩))
  exact ⟨G, b1, h5, h4⟩
end K78
set_option Elab.async false
set_option linter.all false
set_option maxRecDepth 100000
/-! K7: the law's closures and events. -/
namespace K78
open PySem PySem.Spec PyProof.Rows L2 Z SX
def addX {α β : Type} [DecidableEq α] (q : β → Bool) (g : β → α) (F : List α) (y : β) : List α := if q y = true ∧ g y ∉ F then F ++ [g y] else F
theorem addX_fold {α β : Type} [DecidableEq α] (q : β → Bool) (g : β → α) : ∀ (ys : List β) (F : List α), F.Nodup → (ys.foldl (addX q g) F).Nodup ∧ ∀ x, x ∈ ys.foldl (addX q g) F ↔ x ∈ F ∨ ∃ y ∈ ys, q y = true ∧ g y = x
  | [], F, nd => ⟨nd, fun x => by simp⟩
  | a :: ys, F, nd => by
    have h : (addX q g F a).Nodup ∧ ∀ x, x ∈ addX q g F a ↔ x ∈ F ∨ (q a = true ∧ g a = x) := by
      unfold addX
      split
      · rename_i h
        refine ⟨List.nodup_append.mpr ⟨nd, by simp, fun x hx y hy e => h.2 (by rw [List.mem_singleton.mp hy] at e; rw [← e]; exact hx)⟩, fun x => ?_⟩
        rw [List.mem_append, List.mem_singleton]
        exact or_congr Iff.rfl ⟨fun e => ⟨h.1, e.symm⟩, fun e => e.2.symm⟩
      · rename_i h
        refine ⟨nd, fun x => ⟨.inl, fun z => z.elim id fun ⟨z1, z2⟩ => ?_⟩⟩
        exact Decidable.byContradiction fun w => h ⟨z1, by rw [z2]; exact w⟩
    obtain ⟨h1, h2⟩ := addX_fold q g ys (addX q g F a) h.1
    rw [List.foldl_cons]
    refine ⟨h1, fun x => ?_⟩
    rw [h2, h.2]
    simp only [List.mem_cons, exists_eq_or_imp]
    rw [or_assoc]
/-- unseen labels -/
def uns (seen : List Str) (l : Lb) : Bool := !decide (l.1 ∈ seen)
theorem unseen_ok {G : List (List (Lb × Nat))} {seen : List Str} {S : List Nat} {o : O} (hT : Tos G) (hn : G.length ≤ 1000) (ho : items o = some (S.map dN)) (nd : S.Nodup) (hS : ∀ s ∈ S, s < G.length) :
    ∃ b0 b2, f__law_unseen [.dat (dT (dT dS) G), o, .dat (dA dX seen)] = some (.dat (dT dN (cl (UR (uns seen) G) G.length S)), [b0, some o, b2]) := by
  have hi : ∀ a b c d, mC1 listO (mPk 1) [a, .par o, b, .un, c, d] = some (oL dN S, [a, .par o, b, .un, c, d]) := fun a b c d => by
    rw [e_c1, e_pk]
    simp [listO, ho, oL_eq]
  have main : wp b__law_unseen (enter [true, true, true] [.dat (dT (dT dS) G), o, .dat (dA dX seen)] ++ List.replicate 3 .un) fun out e => ∃ s t tl, out = .rt (.dat (dT dN (cl (UR (uns seen) G) G.length S))) ∧ e = .par s :: .par o :: .par t :: tl := by
    show wp b__law_unseen [.par (.dat (dT (dT dS) G)), .par o, .par (.dat (dA dX seen)), .un, .un, .un] _
    unfold b__law_unseen
    let E (M : List Nat) (k y : Sl) : Ev := [.par (.dat (dT (dT dS) G)), .par o, .par (.dat (dA dX seen)), .var (oL dN M), k, y]
    refine wp_seq (wp_of (a := .nx) (e := E S .un .un) (by rw [e_asg, hi]; rfl) ?_)
    refine wp_seq ((wp_forR (Q := fun out e => ∃ M k, Bfs (uns seen) G S M k ∧ M.length ≤ k ∧ out = .nx ∧ e = E M .un .un) (n := G.length) (ev1 := E S .un .un) (rng_eq (by simp [E]) (by omega)) (fun k e => ∃ M, Bfs (uns seen) G S M k ∧ e = E M .un .un)
      ⟨S, Bfs.start nd hS, rfl⟩ ?_ ?_).mono ?_)
    · rintro e ⟨M, b, rfl⟩
      exact ⟨M, _, b, b.len, rfl, rfl⟩
    · rintro k e hk ⟨M, b, rfl⟩
      refine ⟨E M (.var (.dat (.int k))) .un, rfl, ?_⟩
      have st : (mTru oBool (mOp geD (mNm 4) (mC1 lenO (mPk 3)))) (E M (.var (.dat (.int k))) .un) = some (decide ((M.length : Int) ≤ k), E M (.var (.dat (.int k))) .un) := by simp [E]
      by_cases hb : M.length ≤ k
      · refine wp_seq (wp_of (a := .bk) (e := E M (.var (.dat (.int k))) .un) (by rw [e_ifs, st, e_bind, if_pos (by simp; omega)]; rfl) ?_)
        exact ⟨M, _, b, hb, rfl, rfl⟩
      · refine wp_seq (wp_of (a := .nx) (e := E M (.var (.dat (.int k))) .un) (by rw [e_ifs, st, e_bind, if_neg (by simp; omega)]; rfl) ?_)
        obtain ⟨s, hs, hMk⟩ := pick (l := M) (r := k) (by omega)
        obtain ⟨row, hrow, hr⟩ := pick (b.lt s hs)
        have it : mItA (mQ (qIx (qN 0) (qIx (qN 3) (qN 4)))) (E M (.var (.dat (.int k))) .un) = some (row.map dS, E M (.var (.dat (.int k))) .un) := by
          simp [E, hMk, dN, hr, dT]
        have lp := forL_fold (f := dS) (St := fun M => E M (.var (.dat (.int k))) .un) (t := tgN 5) (b := (mIfS (mAnd (mTru oBool (mOpP ninA (mQ (qIx (qIx (qN 5) (qC (.int 0))) (qC (.int 0)))) (mPk 2))) (mTru oBool (mOpP ninA (mQ (qIx (qN 5) (qC (.int 1)))) (mPk 3)))) (mEx (mMet "list" (lN 3) (mCons (mQ (qIx (qN 5) (qC (.int 1)))) mNil) fAppend)) mNx))
          (addP (uns seen)) (fun M => M.Nodup ∧ ∀ s ∈ M, s < G.length) row (fun M ⟨nd, lt⟩ y hy => by
            refine ⟨fold_bnd (hT row hrow) nd lt hy, E M (.var (.dat (.int k))) (.var (.dat (dS y))), E (addP (uns seen) M y) (.var (.dat (.int k))) (.var (.dat (dS y))), rfl, ?_, rfl⟩
            have hl := nodup_lt nd lt
            have ni := ninA_of gN (by omega) (ad_oL M) (i_oL M) y.2
            have nu := ninA_of gX (by omega) (ad_dA seen) (i_dA seen) y.1.1
            have tt : (mAnd (mTru oBool (mOpP ninA (mQ (qIx (qIx (qN 5) (qC (.int 0))) (qC (.int 0)))) (mPk 2))) (mTru oBool (mOpP ninA (mQ (qIx (qN 5) (qC (.int 1)))) (mPk 3)))) (E M (.var (.dat (.int k))) (.var (.dat (dS y)))) = some (uns seen y.1 && !decide (y.2 ∈ M), E M (.var (.dat (.int k))) (.var (.dat (dS y)))) := by
              have t1 : (mTru oBool (mOpP ninA (mQ (qIx (qIx (qN 5) (qC (.int 0))) (qC (.int 0)))) (mPk 2))) (E M (.var (.dat (.int k))) (.var (.dat (dS y)))) = some (uns seen y.1, E M (.var (.dat (.int k))) (.var (.dat (dS y)))) := by simp [E, nu, uns]
              have t2 : (mTru oBool (mOpP ninA (mQ (qIx (qN 5) (qC (.int 1)))) (mPk 3))) (E M (.var (.dat (.int k))) (.var (.dat (dS y)))) = some (!decide (y.2 ∈ M), E M (.var (.dat (.int k))) (.var (.dat (dS y)))) := by simp [E, ni]
              rw [e_and, t1, e_bind, t2]
              cases uns seen y.1 <;> rfl
            rw [e_ifs, tt, e_bind]
            by_cases hy2 : uns seen y.1 = true ∧ y.2 ∉ M
            · have ha : addP (uns seen) M y = M ++ [y.2] := by unfold addP; rw [if_pos hy2]
              rw [if_pos (by simp [hy2]), ha]
              exact ap_own (i := 3) rfl rfl (by omega)
            · have ha : addP (uns seen) M y = M := by unfold addP; rw [if_neg hy2]
              rw [if_neg (by simpa using hy2), ha]
              rfl) M ⟨b.nd, b.lt⟩
        refine wp_of (a := .nx) (e := E (row.foldl (addP (uns seen)) M) (.var (.dat (.int k))) .un) (by rw [e_for, it, e_bind]; exact lp.1) ?_
        exact ⟨_, b.next hT hMk hr, rfl⟩
    · rintro out e ⟨M, k, b, hk, rfl, rfl⟩
      have so := sorted_oL (srt_N M)
      have hc := b.cl hT hk
      exact wp_ret (wp_of (a := .dat (dT dN (cl (UR (uns seen) G) G.length S))) (e := E M .un .un) (by simp [E, so, hc]) ⟨_, _, _, rfl, rfl⟩)
  obtain ⟨r, bs, h4, b0, b2, rfl, rfl⟩ := run_wp (ks := [true, true, true]) (l := 3) (R := fun r bs => ∃ b0 b2, r = .dat (dT dN (cl (UR (uns seen) G) G.length S)) ∧ bs = [b0, some o, b2]) rfl
    (main.mono (by rintro out e ⟨s, t, tl, rfl, rfl⟩; exact ⟨some s, some t, rfl, rfl⟩))
  exact ⟨b0, b2, h4⟩
/-- the targets of a set's steps by an event -/
def Tg (G : List (List (Lb × Nat))) (S : List Nat) (ev : Lb) : List Nat := S.flatMap fun s => ((G.getD s []).filter fun y => decide (y.1 = ev)).map (·.2)
theorem mem_Tg {G : List (List (Lb × Nat))} {S : List Nat} {ev : Lb} {t : Nat} (hS : ∀ s ∈ S, s < G.length) : t ∈ Tg G S ev ↔ ∃ s ∈ S, ∃ row, G[s]? = some row ∧ ∃ y ∈ row, y.1 = ev ∧ y.2 = t := by
  unfold Tg
  simp only [List.mem_flatMap, List.mem_map, List.mem_filter, decide_eq_true_eq]
  constructor
  · rintro ⟨s, hs, y, ⟨hy, e1⟩, e2⟩
    obtain ⟨row, _, hr⟩ := pick (hS s hs)
    rw [List.getD_eq_getElem?_getD, hr] at hy
    exact ⟨s, hs, row, hr, y, hy, e1, e2⟩
  · rintro ⟨s, hs, row, hr, y, hy, e1, e2⟩
    refine ⟨s, hs, y, ⟨?_, e1⟩, e2⟩
    rw [List.getD_eq_getElem?_getD, hr]
    exact hy
theorem Tg_lt {G : List (List (Lb × Nat))} {S : List Nat} {ev : Lb} (hT : Tos G) (hS : ∀ s ∈ S, s < G.length) : ∀ t ∈ Tg G S ev, t < G.length := fun t ht => by
  obtain ⟨s, _, row, hr, y, hy, _, rfl⟩ := (mem_Tg hS).mp ht
  exact hT row (List.mem_of_getElem? hr) y hy
theorem seen_by_ok {G : List (List (Lb × Nat))} {seen : List Str} {S : List Nat} {ev : Lb} (hT : Tos G) (hn : G.length ≤ 1000) (hS : ∀ s ∈ S, s < G.length) :
    ∃ b0 b1 b2 b3, f__law_seen_by [.dat (dT (dT dS) G), .dat (dT dN S), .dat (dL ev), .dat (dA dX seen)] = some (.dat (dT dN (cl (UR (uns seen) G) G.length (Tg G S ev))), [b0, b1, b2, b3]) := by
  have main : wp b__law_seen_by (enter [true, true, true, true] [.dat (dT (dT dS) G), .dat (dT dN S), .dat (dL ev), .dat (dA dX seen)] ++ List.replicate 3 .un) fun out e => ∃ a b c d tl, out = .rt (.dat (dT dN (cl (UR (uns seen) G) G.length (Tg G S ev)))) ∧ e = .par a :: .par b :: .par c :: .par d :: tl := by
    show wp b__law_seen_by [.par (.dat (dT (dT dS) G)), .par (.dat (dT dN S)), .par (.dat (dL ev)), .par (.dat (dA dX seen)), .un, .un, .un] _
    unfold b__law_seen_by
    let E (F : List Nat) (s y : Sl) : Ev := [.par (.dat (dT (dT dS) G)), .par (.dat (dT dN S)), .par (.dat (dL ev)), .par (.dat (dA dX seen)), .var (oL dN F), s, y]
    let q (y : Lb × Nat) : Bool := decide (y.1 = ev)
    refine wp_seq (wp_of (a := .nx) (e := E [] .un .un) rfl ?_)
    have lp := forL_fold (f := dN) (St := fun F => E F .un .un) (t := tgN 5) (b := (mFor (mItA (mQ (qIx (qN 0) (qN 5)))) (tgN 6) (mIfS (mAnd (mTru oBool (mOp eqD (mQ (qIx (qN 6) (qC (.int 0)))) (mNm 2))) (mTru oBool (mOpP ninA (mQ (qIx (qN 6) (qC (.int 1)))) (mPk 4)))) (mEx (mMet "list" (lN 4) (mCons (mQ (qIx (qN 6) (qC (.int 1)))) mNil) fAppend)) mNx)))
      (fun F s => (G.getD s []).foldl (addX q (·.2)) F) (fun F => F.Nodup ∧ ∀ x ∈ F, x < G.length) S (fun F ⟨nd, lt⟩ s hs => by
        obtain ⟨row, hrow, hr⟩ := pick (hS s hs)
        have hg : G.getD s [] = row := by rw [List.getD_eq_getElem?_getD, hr]; rfl
        rw [hg]
        have it : mItA (mQ (qIx (qN 0) (qN 5))) (E F (.var (.dat (dN s))) .un) = some (row.map dS, E F (.var (.dat (dN s))) .un) := by
          have q : mQ (qIx (qN 0) (qN 5)) (E F (.var (.dat (dN s))) .un) = some (.dat (dT dS row), E F (.var (.dat (dN s))) .un) := by simp [E, hr]
          rw [e_ita, q]
          rfl
        have in1 : ∀ (F : List Nat), F.Nodup → (∀ x ∈ F, x < G.length) → ∀ ys : List (Lb × Nat), (∀ y ∈ ys, y ∈ row) → (ys.foldl (addX q (·.2)) F).Nodup ∧ ∀ x ∈ ys.foldl (addX q (·.2)) F, x < G.length := fun F nd lt ys hys => by
          obtain ⟨h1, h2⟩ := addX_fold q (·.2) ys F nd
          refine ⟨h1, fun x hx => ?_⟩
          rcases (h2 x).mp hx with h | ⟨y, hy, _, rfl⟩
          · exact lt x h
          · exact hT row hrow y (hys y hy)
        have lp2 := forL_fold (f := dS) (St := fun F => E F (.var (.dat (dN s))) .un) (t := tgN 6) (b := (mIfS (mAnd (mTru oBool (mOp eqD (mQ (qIx (qN 6) (qC (.int 0)))) (mNm 2))) (mTru oBool (mOpP ninA (mQ (qIx (qN 6) (qC (.int 1)))) (mPk 4)))) (mEx (mMet "list" (lN 4) (mCons (mQ (qIx (qN 6) (qC (.int 1)))) mNil) fAppend)) mNx))
          (addX q (·.2)) (fun F => F.Nodup ∧ ∀ x ∈ F, x < G.length) row (fun F ⟨nd, lt⟩ y hy => by
            refine ⟨in1 F nd lt [y] (fun z hz => by rw [List.mem_singleton.mp hz]; exact hy), E F (.var (.dat (dN s))) (.var (.dat (dS y))), E (addX q (·.2) F y) (.var (.dat (dN s))) (.var (.dat (dS y))), rfl, ?_, rfl⟩
            have hl := nodup_lt nd lt
            have ni := ninA_of gN (by omega) (ad_oL F) (i_oL F) y.2
            have nu := eqD_of gL (by omega) y.1 ev
            have tt : (mAnd (mTru oBool (mOp eqD (mQ (qIx (qN 6) (qC (.int 0)))) (mNm 2))) (mTru oBool (mOpP ninA (mQ (qIx (qN 6) (qC (.int 1)))) (mPk 4)))) (E F (.var (.dat (dN s))) (.var (.dat (dS y)))) = some (q y && !decide (y.2 ∈ F), E F (.var (.dat (dN s))) (.var (.dat (dS y)))) := by
              have t1 : (mTru oBool (mOp eqD (mQ (qIx (qN 6) (qC (.int 0)))) (mNm 2))) (E F (.var (.dat (dN s))) (.var (.dat (dS y)))) = some (q y, E F (.var (.dat (dN s))) (.var (.dat (dS y)))) := by simp [E, nu, q]
              have t2 : (mTru oBool (mOpP ninA (mQ (qIx (qN 6) (qC (.int 1)))) (mPk 4))) (E F (.var (.dat (dN s))) (.var (.dat (dS y)))) = some (!decide (y.2 ∈ F), E F (.var (.dat (dN s))) (.var (.dat (dS y)))) := by simp [E, ni]
              rw [e_and, t1, e_bind, t2]
              cases q y <;> rfl
            rw [e_ifs, tt, e_bind]
            by_cases hy2 : q y = true ∧ y.2 ∉ F
            · have ha : addX q (·.2) F y = F ++ [y.2] := by unfold addX; rw [if_pos hy2]
              rw [if_pos (by simp [hy2]), ha]
              exact ap_own (i := 4) rfl rfl (by omega)
            · have ha : addX q (·.2) F y = F := by unfold addX; rw [if_neg hy2]
              rw [if_neg (by simpa using hy2), ha]
              rfl) F ⟨nd, lt⟩
        exact ⟨in1 F nd lt row fun y m => m, E F (.var (.dat (dN s))) .un, E (row.foldl (addX q (·.2)) F) (.var (.dat (dN s))) .un, rfl, by rw [e_for, it, e_bind]; exact lp2.1, rfl⟩) [] ⟨List.nodup_nil, fun x hx => by cases hx⟩
    obtain ⟨lp1, nd, lt⟩ := lp
    have hmem : ∀ x, x ∈ S.foldl (fun F s => (G.getD s []).foldl (addX q (·.2)) F) [] ↔ x ∈ Tg G S ev := by
      have gen : ∀ (S : List Nat) (F : List Nat), F.Nodup → ∀ x, x ∈ S.foldl (fun F s => (G.getD s []).foldl (addX q (·.2)) F) F ↔ x ∈ F ∨ x ∈ Tg G S ev := by
        intro S
        induction S with
        | nil => intro F _ x; simp [Tg]
        | cons s S ih =>
          intro F nd x
          obtain ⟨h1, h2⟩ := addX_fold q (·.2) (G.getD s []) F nd
          rw [List.foldl_cons, ih _ h1, h2]
          unfold Tg
          rw [List.flatMap_cons, List.mem_append]
          simp only [List.mem_map, List.mem_filter, decide_eq_true_eq, q]
          rw [or_assoc]
          simp only [and_assoc]
      intro x
      rw [gen S [] List.nodup_nil]
      simp
    generalize hF : S.foldl (fun F s => (G.getD s []).foldl (addX q (·.2)) F) [] = F at lp1 nd lt hmem
    have it0 : mItA (mNm 1) (E [] .un .un) = some (S.map dN, E [] .un .un) := rfl
    refine wp_seq (wp_of (a := .nx) (e := E F .un .un) (by rw [e_for, it0, e_bind]; exact lp1) ?_)
    obtain ⟨b0, b2, hu⟩ := unseen_ok (seen := seen) (o := oL dN F) hT hn (i_oL F) nd lt
    have hc : cl (UR (uns seen) G) G.length F = cl (UR (uns seen) G) G.length (Tg G S ev) := cl_congr hmem
    rw [hc] at hu
    refine wp_ret (wp_of (a := .dat (dT dN (cl (UR (uns seen) G) G.length (Tg G S ev)))) (e := E F .un .un) ?_ ⟨_, _, _, _, _, rfl, rfl⟩)
    have hoL : oL dN F = .lst (F.map fun a => .dat (dN a)) := rfl
    rw [hoL] at hu
    simp [E, hoL, hu]
  obtain ⟨r, bs, h4, b0, b1, b2, b3, rfl, rfl⟩ := run_wp (ks := [true, true, true, true]) (l := 3) (R := fun r bs => ∃ b0 b1 b2 b3, r = .dat (dT dN (cl (UR (uns seen) G) G.length (Tg G S ev))) ∧ bs = [b0, b1, b2, b3]) rfl
    (main.mono (by rintro out e ⟨a, b, c, d, tl, rfl, rfl⟩; exact ⟨some a, some b, some c, some d, rfl, rfl⟩))
  exact ⟨b0, b1, b2, b3, h4⟩
end K78
set_option Elab.async false
set_option linter.all false
set_option maxRecDepth 100000
/-! K8: events, within, spread. -/
namespace K78
open PySem PySem.Spec PyProof.Rows L2 Z SX
/-! spread -/
def vt : Unit → O := fun _ => .dat (.bool true)
def oM (M : List Nat) : O := oD kN vt (M.map fun n => (n, ()))
theorem keysM (M : List Nat) : (M.map fun n => (n, ())).map (·.1) = M := by rw [List.map_map]; exact List.map_id _
def addV (s : List Nat × List Nat) (x : Nat) : List Nat × List Nat := if x ∈ s.1 then s else (s.1 ++ [x], s.2 ++ [x])
theorem addV_fold : ∀ (ts : List Nat) (M K : List Nat), M.Nodup → ∃ new, ts.foldl addV (M, K) = (M ++ new, K ++ new) ∧ (M ++ new).Nodup ∧ (∀ x ∈ new, x ∈ ts) ∧ ∀ x ∈ ts, x ∈ M ++ new
  | [], M, K, nd => ⟨[], by simp, by simpa using nd, fun x h => h, fun x h => by cases h⟩
  | a :: ts, M, K, nd => by
    rw [List.foldl_cons]
    by_cases h : a ∈ M
    · have e : addV (M, K) a = (M, K) := by unfold addV; rw [if_pos h]
      rw [e]
      obtain ⟨new, h1, h2, h3, h4⟩ := addV_fold ts M K nd
      refine ⟨new, h1, h2, fun x hx => List.mem_cons_of_mem _ (h3 x hx), fun x hx => ?_⟩
      rcases List.mem_cons.mp hx with rfl | hx
      · exact List.mem_append_left _ h
      · exact h4 x hx
    · have e : addV (M, K) a = (M ++ [a], K ++ [a]) := by unfold addV; rw [if_neg h]
      rw [e]
      have nd1 : (M ++ [a]).Nodup := List.nodup_append.mpr ⟨nd, by simp, fun x hx y hy e => h (by rw [List.mem_singleton.mp hy] at e; rw [← e]; exact hx)⟩
      obtain ⟨new, h1, h2, h3, h4⟩ := addV_fold ts (M ++ [a]) (K ++ [a]) nd1
      refine ⟨a :: new, by rw [h1]; simp, by simpa using h2, fun x hx => ?_, fun x hx => ?_⟩
      · rcases List.mem_cons.mp hx with rfl | hx
        · exact List.mem_cons_self
        · exact List.mem_cons_of_mem _ (h3 x hx)
      · rcases List.mem_cons.mp hx with rfl | hx
        · simp
        · have := h4 x hx
          simpa using this
def QR (Q : List (List Nat)) (s t : Nat) : Prop := ∃ r, Q[s]? = some r ∧ t ∈ r
def ToQ (Q : List (List Nat)) : Prop := ∀ r ∈ Q, ∀ t ∈ r, t < Q.length
theorem QR.lt {Q : List (List Nat)} (h : ToQ Q) (s t : Nat) (u : QR Q s t) : t < Q.length := by
  obtain ⟨r, h1, h2⟩ := u
  exact h r (List.mem_of_getElem? h1) t h2
structure Vis (Q : List (List Nat)) (S M K : List Nat) : Prop where
  nd : M.Nodup
  lt : ∀ x ∈ M, x < Q.length
  sub : ∀ x ∈ K, x ∈ M
  snd : ∀ x ∈ M, Rch (QR Q) S x
  clo : ∀ x ∈ M, x ∈ K ∨ ∀ t, QR Q x t → t ∈ M
def dSp (Q : List (List Nat)) (so : O) (M K : List Nat) (s t : Sl) : Ev := [.par (.dat (dA (dA dN) Q)), .par so, .var (oM M), .var (oL dN K), s, t]
theorem visit {Q : List (List Nat)} {so : O} {M K : List Nat} {x : Nat} {i : Nat} {s t : Sl} (hi : (i = 4 ∧ s = .var (.dat (dN x))) ∨ (i = 5 ∧ t = .var (.dat (dN x)))) (lM : M.length ≤ 5000) (lK : K.length ≤ 5000) :
    (mIfS (mTru oBool (mOpP ninA (mNm i) (mPk 2))) (mSeq (mSto sAny (mC (.bool true)) (lN 2) (mNm i)) (mEx (mMet "list" (lN 3) (mCons (mNm i) mNil) fAppend))) mNx) (dSp Q so M K s t) = some (.nx, dSp Q so (addV (M, K) x).1 (addV (M, K) x).2 s t) := by
  have hn : ∀ a b, mNm i [.par (.dat (dA (dA dN) Q)), .par so, a, b, s, t] = some (.dat (dN x), [.par (.dat (dA (dA dN) Q)), .par so, a, b, s, t]) := by
    intro a b
    rcases hi with ⟨rfl, rfl⟩ | ⟨rfl, rfl⟩ <;> rfl
  have ni : ninA (dN x) (oM M) = oB (!decide (x ∈ M)) := by
    have := d_nin (vf := vt) gkN (M.map fun n => (n, ())) x
    rwa [keysM] at this
  have tt : (mTru oBool (mOpP ninA (mNm i) (mPk 2))) (dSp Q so M K s t) = some (!decide (x ∈ M), dSp Q so M K s t) := by
    unfold dSp
    rw [e_tru, e_opP, hn, e_bind]
    simp [ni]
  rw [e_ifs, tt, e_bind]
  by_cases h : x ∈ M
  · rw [if_neg (by simp [h])]
    have e : addV (M, K) x = (M, K) := by unfold addV; rw [if_pos h]
    rw [e]
    rfl
  · rw [if_pos (by simp [h])]
    have e : addV (M, K) x = (M ++ [x], K ++ [x]) := by unfold addV; rw [if_neg h]
    rw [e]
    have pu : sAny (oM M) (dN x) (.dat (.bool true)) = some (oM (M ++ [x])) := by
      have := d_put (vf := vt) gkN (l := M.map fun n => (n, ())) (a := x) (by rw [keysM]; exact h) () (by rw [List.length_map]; omega)
      rw [oM, oM, List.map_append]
      exact this
    have s1 : (mSto sAny (mC (.bool true)) (lN 2) (mNm i)) (dSp Q so M K s t) = some (.nx, dSp Q so (M ++ [x]) K s t) := by
      have l1 : lN 2 (dSp Q so M K s t) = some ((2, []), dSp Q so M K s t) := rfl
      have l2 : vw1 2 (dSp Q so M K s t) = some (oM M, Sl.var, [.par (.dat (dA (dA dN) Q)), .par so, .ro (oM M), .var (oL dN K), s, t]) := rfl
      have := sto_at (f := sAny) (m := mC (.bool true)) (mb := mNm i) (e_c (ev := dSp Q so M K s t)) l1 l2 e_atP0 (hn _ _) rfl (show sAny (oM M) (O.data (.dat (dN x))) (.dat (.bool true)) = some (oM (M ++ [x])) from pu)
      rw [this, e_putP0]
      rfl
    rw [e_seq, s1, seqK_nx]
    exact ap_own (i := 3) rfl (by unfold dSp; exact hn _ _) (by omega)
theorem spread_ok {Q : List (List Nat)} {S : List Nat} (hT : ToQ Q) (hn : Q.length ≤ 1000) (hS : ∀ s ∈ S, s < Q.length) :
    ∃ b0 b1, f_spread [.dat (dA (dA dN) Q), .dat (dA dN S)] = some (.dat (dT dN (cl (QR Q) Q.length S)), [b0, b1]) := by
  have main : wp b_spread (enter [true, true] [.dat (dA (dA dN) Q), .dat (dA dN S)] ++ List.replicate 4 .un) fun out e => ∃ a b tl, out = .rt (.dat (dT dN (cl (QR Q) Q.length S))) ∧ e = .par a :: .par b :: tl := by
    show wp b_spread [.par (.dat (dA (dA dN) Q)), .par (.dat (dA dN S)), .un, .un, .un, .un] _
    unfold b_spread
    let E := dSp Q (.dat (dA dN S))
    refine wp_seq (wp_of (a := .nx) (e := E [] [] .un .un) rfl ?_)
    have bnd : ∀ M : List Nat, M.Nodup → (∀ x ∈ M, x < Q.length) → M.length ≤ Q.length := fun M nd lt => nodup_lt nd lt
    have lp0 := forL_fold (f := dN) (St := fun s : List Nat × List Nat => E s.1 s.2 .un .un) (t := tgN 4) (b := (mIfS (mTru oBool (mOpP ninA (mNm 4) (mPk 2))) (mSeq (mSto sAny (mC (.bool true)) (lN 2) (mNm 4)) (mEx (mMet "list" (lN 3) (mCons (mNm 4) mNil) fAppend))) mNx))
      addV (fun s => s.1.Nodup ∧ (∀ x ∈ s.1, x < Q.length) ∧ s.2 = s.1) S (fun s ⟨nd, lt, he⟩ x hx => by
        obtain ⟨M, K⟩ := s
        simp only at nd lt he
        subst he
        have hl := bnd K nd lt
        obtain ⟨new, h1, h2, h3, h4⟩ := addV_fold [x] K K nd
        have h1 : addV (K, K) x = (K ++ new, K ++ new) := h1
        refine ⟨⟨by rw [h1]; exact h2, ?_, by rw [h1]⟩, E K K (.var (.dat (dN x))) .un, E (addV (K, K) x).1 (addV (K, K) x).2 (.var (.dat (dN x))) .un, rfl, visit (.inl ⟨rfl, rfl⟩) (by omega) (by omega), rfl⟩
        rw [h1]
        intro y hy
        rcases List.mem_append.mp hy with hy | hy
        · exact lt y hy
        · rw [List.mem_singleton.mp (h3 y hy)]; exact hS x hx) ([], []) ⟨List.nodup_nil, fun x hx => (by cases hx), rfl⟩
    obtain ⟨lp1, nd, lt, he⟩ := lp0
    obtain ⟨new, h1, h2, h3, h4⟩ := addV_fold S [] [] List.nodup_nil
    rw [h1] at lp1 nd lt he
    rw [List.nil_append] at lp1 nd lt he h4
    have it0 : mItA (mNm 1) (E [] [] .un .un) = some (S.map dN, E [] [] .un .un) := rfl
    refine wp_seq (wp_of (a := .nx) (e := E new new .un .un) (by rw [e_for, it0, e_bind]; exact lp1) ?_)
    refine wp_seq ((wp_while (Q := fun out e => ∃ M, Vis Q S M [] ∧ (∀ s ∈ S, s ∈ M) ∧ out = .nx ∧ e = E M [] .un .un) (I := fun m e => ∃ M K, Vis Q S M K ∧ K.Nodup ∧ (∀ s ∈ S, s ∈ M) ∧ m = 2 * (Q.length - M.length) + K.length ∧ e = E M K .un .un) _
      ⟨new, new, ⟨nd, lt, fun x h => h, fun x hx => .base (h3 x hx), fun x hx => .inl hx⟩, nd, h4, rfl, rfl⟩ ?_).mono ?_)
    · rintro m e ⟨M, K, V, ndK, hSM, rfl, rfl⟩
      have hMl := bnd M V.nd V.lt
      have hKl := bnd K ndK fun x hx => V.lt x (V.sub x hx)
      have tt : (mTru oTru (mPk 3)) (E M K .un .un) = some (!K.isEmpty, E M K .un .un) := by
        have : oTru (oL dN K) = some (!K.isEmpty) := by cases K <;> rfl
        simp [E, dSp, this]
      refine wp_of tt ?_
      cases hK : K.isEmpty with
      | true =>
        have : K = [] := List.isEmpty_iff.mp hK
        subst this
        exact ⟨M, V, hSM, rfl, rfl⟩
      | false =>
        simp only [Bool.not_false, if_true]
        obtain ⟨K0, x, rfl⟩ : ∃ K0 x, K = K0 ++ [x] := ⟨K.dropLast, K.getLast (by intro z; rw [z] at hK; cases hK), (List.dropLast_concat_getLast _).symm⟩
        have xM := V.sub x (by simp)
        obtain ⟨r, hr, hx⟩ := pick (V.lt x xM)
        have nd0 : K0.Nodup ∧ x ∉ K0 := by
          rw [List.nodup_append] at ndK
          exact ⟨ndK.1, fun z => ndK.2.2 x z x (by simp) rfl⟩
        have pop : fPop (oL dN (K0 ++ [x])) [] = some (.dat (dN x), oL dN K0) := by
          show ((((K0 ++ [x]).map fun a => O.dat (dN a))[((K0 ++ [x]).map fun a => O.dat (dN a)).length - 1]?).map fun o => (o, O.lst ((K0 ++ [x]).map fun a => O.dat (dN a)).dropLast)) = _
          simp [oL]
        have it : mItA (mGetN 0 (mMet "list" (lN 3) mNil fPop)) (E M (K0 ++ [x]) .un .un) = some (r.map dN, E M K0 .un .un) := by
          have mp := met_at (T := "list") (l := lN 3) (ms := mNil) (f := fPop) (ev := E M (K0 ++ [x]) .un .un) (i := 3) (p := []) rfl rfl rfl (ty_oL dN _) rfl rfl pop
          rw [e_putP0] at mp
          have mp : mMet "list" (lN 3) mNil fPop (E M (K0 ++ [x]) .un .un) = some (.dat (dN x), E M K0 .un .un) := mp
          have g : mGetN 0 (mMet "list" (lN 3) mNil fPop) (E M (K0 ++ [x]) .un .un) = some (.dat (dA dN r), E M K0 .un .un) := by
            rw [e_getN, mp]
            simp [E, dSp, hx]
          rw [e_ita, g]
          rfl
        have lp := forL_fold (f := dN) (St := fun s : List Nat × List Nat => E s.1 s.2 .un .un) (t := tgN 5) (b := (mIfS (mTru oBool (mOpP ninA (mNm 5) (mPk 2))) (mSeq (mSto sAny (mC (.bool true)) (lN 2) (mNm 5)) (mEx (mMet "list" (lN 3) (mCons (mNm 5) mNil) fAppend))) mNx))
          addV (fun s => s.1.Nodup ∧ (∀ x ∈ s.1, x < Q.length) ∧ s.2.length + M.length ≤ s.1.length + K0.length) r (fun s ⟨nd, lt, he⟩ y hy => by
            obtain ⟨M1, K1⟩ := s
            simp only at nd lt
            have he : K1.length + M.length ≤ M1.length + K0.length := he
            have hl := bnd M1 nd lt
            rw [List.length_append] at hKl
            obtain ⟨new, h1, h2, h3, h4⟩ := addV_fold [y] M1 K1 nd
            have h1 : addV (M1, K1) y = (M1 ++ new, K1 ++ new) := h1
            refine ⟨⟨by rw [h1]; exact h2, ?_, by rw [h1]; simp only [List.length_append]; omega⟩, E M1 K1 .un (.var (.dat (dN y))), E (addV (M1, K1) y).1 (addV (M1, K1) y).2 .un (.var (.dat (dN y))), rfl, visit (.inr ⟨rfl, rfl⟩) (by omega) (by omega), rfl⟩
            rw [h1]
            intro z hz
            rcases List.mem_append.mp hz with hz | hz
            · exact lt z hz
            · rw [List.mem_singleton.mp (h3 z hz)]; exact hT r hr y hy) (M, K0) ⟨V.nd, V.lt, by show K0.length + M.length ≤ M.length + K0.length; omega⟩
        obtain ⟨lp1, _, lt2, _⟩ := lp
        obtain ⟨new, h1, h2, h3, h4⟩ := addV_fold r M K0 V.nd
        rw [h1] at lp1 lt2
        refine wp_of (a := .nx) (e := E (M ++ new) (K0 ++ new) .un .un) (by rw [e_for, it, e_bind]; exact lp1) ?_
        have hl2 := bnd (M ++ new) h2 lt2
        refine ⟨2 * (Q.length - (M ++ new).length) + (K0 ++ new).length, by simp only [List.length_append, List.length_singleton] at hl2 ⊢; omega, M ++ new, K0 ++ new, ⟨h2, lt2, fun z hz => ?_, fun z hz => ?_, fun z hz => ?_⟩, ?_, fun s hs => List.mem_append_left _ (hSM s hs), rfl, rfl⟩
        · rcases List.mem_append.mp hz with hz | hz
          · exact List.mem_append_left _ (V.sub z (List.mem_append_left _ hz))
          · exact List.mem_append_right _ hz
        · rcases List.mem_append.mp hz with hz | hz
          · exact V.snd z hz
          · exact .step (V.snd x xM) ⟨r, hx, h3 z hz⟩
        · rcases List.mem_append.mp hz with hz | hz
          · by_cases e : z = x
            · subst e
              refine .inr fun t ⟨r', hr', ht⟩ => ?_
              rw [hx] at hr'
              cases hr'
              exact h4 t ht
            · rcases V.clo z hz with h | h
              · rcases List.mem_append.mp h with h | h
                · exact .inl (List.mem_append_left _ h)
                · exact absurd (List.mem_singleton.mp h) e
              · exact .inr fun t ht => List.mem_append_left _ (h t ht)
          · exact .inl (List.mem_append_right _ hz)
        · have dis := (List.nodup_append.mp h2).2.2
          exact List.nodup_append.mpr ⟨nd0.1, (List.nodup_append.mp h2).2.1, fun a ha b hb e => dis a (V.sub a (List.mem_append_left _ ha)) b hb e⟩
    · rintro out e ⟨M, V, hSM, rfl, rfl⟩
      have so : sortedO (oM M) = some (oL dN (sortE dN M)) := by
        have := d_sorted (vf := vt) gkN (l := M.map fun n => (n, ())) (by rw [keysM]; exact srt_N M)
        rwa [keysM] at this
      have hc : sortE dN M = cl (QR Q) Q.length S := cl_of V.nd hS (QR.lt hT) fun s => ⟨V.snd s, fun h => h.in hSM fun s hs t ht => (V.clo s hs).elim (fun z => by cases z) fun z => z t ht⟩
      exact wp_ret (wp_of (a := .dat (dT dN (cl (QR Q) Q.length S))) (e := E M [] .un .un) (by simp [E, dSp, so, hc]) ⟨_, _, _, rfl, rfl⟩)
  obtain ⟨r, bs, h4, b0, b1, rfl, rfl⟩ := run_wp (ks := [true, true]) (l := 4) (R := fun r bs => ∃ b0 b1, r = .dat (dT dN (cl (QR Q) Q.length S)) ∧ bs = [b0, b1]) rfl
    (main.mono (by rintro out e ⟨a, b, tl, rfl, rfl⟩; exact ⟨some a, some b, rfl, rfl⟩))
  exact ⟨b0, b1, h4⟩
end K78
set_option Elab.async false
set_option linter.all false
set_option maxRecDepth 100000
/-! K9: events, within, the split rows. -/
namespace K78
open PySem PySem.Spec PyProof.Rows L2 Z SX
/-! events -/
theorem neX (x y : Str) : neD (.str x) (.str y) = oB (!decide (x = y)) := neD_of gX (by omega) x y
def evq (y : Lb × Nat) : Bool := !decide (y.1.1 = Str.ofString "")
theorem events_ok {G : List (List (Lb × Nat))} (hc : ∀ l : List Lb, (∀ a ∈ l, ∃ r ∈ G, ∃ y ∈ r, y.1 = a) → Co l) (hb : (G.flatMap fun r => r.map (·.1)).length ≤ 10000) :
    ∃ F b0 b1, F.Nodup ∧ (∀ x, x ∈ F ↔ ∃ r ∈ G, ∃ y ∈ r, evq y = true ∧ y.1 = x) ∧ f__law_events [.dat (dT (dT dS) G), .dat (.list [])] = some (oL dL (sortE dL F), [b0, b1]) := by
  let q := evq
  have main : wp b__law_events (enter [true, true] [.dat (dT (dT dS) G), .dat (.list [])] ++ List.replicate 4 .un) fun out e => ∃ F a b tl, F.Nodup ∧ (∀ x, x ∈ F ↔ ∃ r ∈ G, ∃ y ∈ r, evq y = true ∧ y.1 = x) ∧ out = .rt (oL dL (sortE dL F)) ∧ e = .par a :: .par b :: tl := by
    show wp b__law_events [.par (.dat (dT (dT dS) G)), .par (.dat (.list [])), .un, .un, .un, .un] _
    unfold b__law_events
    let E (F : List Lb) (r w y : Sl) : Ev := [.par (.dat (dT (dT dS) G)), .par (.dat (.list [])), .var (oL dL F), r, w, y]
    refine wp_seq (wp_of (a := .nx) (e := E [] .un .un .un) rfl ?_)
    let P (F : List Lb) : Prop := F.Nodup ∧ ∀ x ∈ F, x ∈ G.flatMap fun r => r.map (·.1)
    have inP : ∀ row ∈ G, ∀ (F : List Lb), P F → ∀ ys : List (Lb × Nat), (∀ y ∈ ys, y ∈ row) → P (ys.foldl (addX q (·.1)) F) := fun row hrow F ⟨nd, lt⟩ ys hys => by
      obtain ⟨h1, h2⟩ := addX_fold q (·.1) ys F nd
      refine ⟨h1, fun x hx => ?_⟩
      rcases (h2 x).mp hx with h | ⟨y, hy, _, rfl⟩
      · exact lt x h
      · exact List.mem_flatMap.mpr ⟨row, hrow, List.mem_map.mpr ⟨y, hys y hy, rfl⟩⟩
    have lp := forL_fold (f := dT dS) (St := fun F => E F (.var (.dat (dT (dT dS) G))) .un .un) (t := tgN 4) (b := (mFor (mItA (mNm 4)) (tgN 5) (mIfS (mAnd (mTru oBool (mOp neD (mQ (qIx (qIx (qN 5) (qC (.int 0))) (qC (.int 0)))) (mC (.str "")))) (mTru oBool (mOpP ninA (mQ (qIx (qN 5) (qC (.int 0)))) (mPk 2)))) (mEx (mMet "list" (lN 2) (mCons (mQ (qIx (qN 5) (qC (.int 0)))) mNil) fAppend)) mNx)))
      (fun F row => row.foldl (addX q (·.1)) F) P G (fun F hP row hrow => by
        have it : mItA (mNm 4) (E F (.var (.dat (dT (dT dS) G))) (.var (.dat (dT dS row))) .un) = some (row.map dS, E F (.var (.dat (dT (dT dS) G))) (.var (.dat (dT dS row))) .un) := rfl
        have lp2 := forL_fold (f := dS) (St := fun F => E F (.var (.dat (dT (dT dS) G))) (.var (.dat (dT dS row))) .un) (t := tgN 5) (b := (mIfS (mAnd (mTru oBool (mOp neD (mQ (qIx (qIx (qN 5) (qC (.int 0))) (qC (.int 0)))) (mC (.str "")))) (mTru oBool (mOpP ninA (mQ (qIx (qN 5) (qC (.int 0)))) (mPk 2)))) (mEx (mMet "list" (lN 2) (mCons (mQ (qIx (qN 5) (qC (.int 0)))) mNil) fAppend)) mNx))
          (addX q (·.1)) P row (fun F hP y hy => by
            refine ⟨inP row hrow F hP [y] (fun z hz => by rw [List.mem_singleton.mp hz]; exact hy), E F (.var (.dat (dT (dT dS) G))) (.var (.dat (dT dS row))) (.var (.dat (dS y))), E (addX q (·.1) F y) (.var (.dat (dT (dT dS) G))) (.var (.dat (dT dS row))) (.var (.dat (dS y))), rfl, ?_, rfl⟩
            have hl := hP.1.length_le_of_subset hP.2
            have ni := ninA_of gL (by omega) (ad_oL F) (i_oL F) y.1
            have nu := neX y.1.1 (Str.ofString "")
            have tt : (mAnd (mTru oBool (mOp neD (mQ (qIx (qIx (qN 5) (qC (.int 0))) (qC (.int 0)))) (mC (.str "")))) (mTru oBool (mOpP ninA (mQ (qIx (qN 5) (qC (.int 0)))) (mPk 2)))) (E F (.var (.dat (dT (dT dS) G))) (.var (.dat (dT dS row))) (.var (.dat (dS y)))) = some (q y && !decide (y.1 ∈ F), E F (.var (.dat (dT (dT dS) G))) (.var (.dat (dT dS row))) (.var (.dat (dS y)))) := by
              have t1 : (mTru oBool (mOp neD (mQ (qIx (qIx (qN 5) (qC (.int 0))) (qC (.int 0)))) (mC (.str "")))) (E F (.var (.dat (dT (dT dS) G))) (.var (.dat (dT dS row))) (.var (.dat (dS y)))) = some (q y, E F (.var (.dat (dT (dT dS) G))) (.var (.dat (dT dS row))) (.var (.dat (dS y)))) := by simp [E, dX, nu, q, evq]
              have t2 : (mTru oBool (mOpP ninA (mQ (qIx (qN 5) (qC (.int 0)))) (mPk 2))) (E F (.var (.dat (dT (dT dS) G))) (.var (.dat (dT dS row))) (.var (.dat (dS y)))) = some (!decide (y.1 ∈ F), E F (.var (.dat (dT (dT dS) G))) (.var (.dat (dT dS row))) (.var (.dat (dS y)))) := by simp [E, ni]
              rw [e_and, t1, e_bind, t2]
              cases q y <;> rfl
            rw [e_ifs, tt, e_bind]
            by_cases hy2 : q y = true ∧ y.1 ∉ F
            · have ha : addX q (·.1) F y = F ++ [y.1] := by unfold addX; rw [if_pos hy2]
              rw [if_pos (by simp [hy2]), ha]
              exact ap_own (i := 2) rfl rfl (by omega)
            · have ha : addX q (·.1) F y = F := by unfold addX; rw [if_neg hy2]
              rw [if_neg (by simpa using hy2), ha]
              rfl) F hP
        exact ⟨inP row hrow F hP row fun y m => m, E F (.var (.dat (dT (dT dS) G))) (.var (.dat (dT dS row))) .un, E (row.foldl (addX q (·.1)) F) (.var (.dat (dT (dT dS) G))) (.var (.dat (dT dS row))) .un, rfl, by rw [e_for, it, e_bind]; exact lp2.1, rfl⟩) [] ⟨List.nodup_nil, fun x hx => by cases hx⟩
    obtain ⟨lp1, nd, _⟩ := lp
    have hmem : ∀ x, x ∈ G.foldl (fun F row => row.foldl (addX q (·.1)) F) [] ↔ ∃ r ∈ G, ∃ y ∈ r, q y = true ∧ y.1 = x := by
      have gen : ∀ (G : List (List (Lb × Nat))) (F : List Lb), F.Nodup → ∀ x, x ∈ G.foldl (fun F row => row.foldl (addX q (·.1)) F) F ↔ x ∈ F ∨ ∃ r ∈ G, ∃ y ∈ r, q y = true ∧ y.1 = x := by
        intro G
        induction G with
        | nil => intro F _ x; simp
        | cons r G ih =>
          intro F nd x
          obtain ⟨h1, h2⟩ := addX_fold q (·.1) r F nd
          rw [List.foldl_cons, ih _ h1, h2]
          simp only [List.mem_cons, exists_eq_or_imp]
          rw [or_assoc]
      intro x
      rw [gen G [] List.nodup_nil]
      simp
    generalize hF : G.foldl (fun F row => row.foldl (addX q (·.1)) F) [] = F at lp1 nd hmem
    have f1 : (mFor (mItA (mNm 3)) (tgN 4) (mFor (mItA (mNm 4)) (tgN 5) (mIfS (mAnd (mTru oBool (mOp neD (mQ (qIx (qIx (qN 5) (qC (.int 0))) (qC (.int 0)))) (mC (.str "")))) (mTru oBool (mOpP ninA (mQ (qIx (qN 5) (qC (.int 0)))) (mPk 2)))) (mEx (mMet "list" (lN 2) (mCons (mQ (qIx (qN 5) (qC (.int 0)))) mNil) fAppend)) mNx))) (E [] (.var (.dat (dT (dT dS) G))) .un .un) = some (.nx, E F (.var (.dat (dT (dT dS) G))) .un .un) := by
      have it : mItA (mNm 3) (E [] (.var (.dat (dT (dT dS) G))) .un .un) = some (G.map (dT dS), E [] (.var (.dat (dT (dT dS) G))) .un .un) := rfl
      rw [e_for, it, e_bind]
      exact lp1
    have it0 : mItA (mTup (mDCons (mNm 0) (mDCons (mNm 1) mDNil))) (E [] .un .un .un) = some ([dT (dT dS) G, .list []], E [] .un .un .un) := rfl
    refine wp_seq (wp_of (a := .nx) (e := E F .un .un .un) (by
      rw [e_for, it0, e_bind]
      refine (forL_cons_nx (e1 := E [] (.var (.dat (dT (dT dS) G))) .un .un) rfl f1).trans ?_
      exact forL_cons_nx (e1 := E F (.var (.dat (.list []))) .un .un) (e2 := E F (.var (.dat (.list []))) .un .un) rfl rfl) ?_)
    have hS : Srt dL F := srt_L (hc F fun a ha => by
      obtain ⟨r, hr, y, hy, _, e⟩ := (hmem a).mp ha
      exact ⟨r, hr, y, hy, e⟩)
    have so := sorted_oL hS
    exact wp_ret (wp_of (a := oL dL (sortE dL F)) (e := E F .un .un .un) (by simp [E, so]) ⟨F, _, _, _, nd, hmem, rfl, rfl⟩)
  obtain ⟨r, bs, h4, F, b0, b1, h1, h2, rfl, rfl⟩ := run_wp (ks := [true, true]) (l := 4) (R := fun r bs => ∃ F b0 b1, F.Nodup ∧ (∀ x, x ∈ F ↔ ∃ r ∈ G, ∃ y ∈ r, evq y = true ∧ y.1 = x) ∧ r = oL dL (sortE dL F) ∧ bs = [b0, b1]) rfl
    (main.mono (by rintro out e ⟨F, a, b, tl, h1, h2, rfl, rfl⟩; exact ⟨F, some a, some b, h1, h2, rfl, rfl⟩))
  exact ⟨F, b0, b1, h1, h2, h4⟩
/-! within -/
theorem els_in {so : O} {sec : List Nat} (hs : items so = some (sec.map dN)) {ev : Ev} {i : Nat} (hi : ev[i]?.bind Sl.see = some so) : ∀ S : List Nat, elsM (eIn i) ev (S.map dN) = some (S.map fun s => decide (s ∈ sec))
  | [] => rfl
  | s :: S => by
    rw [List.map_cons, elsM, els_in hs hi S]
    have : eIn i (dN s) ev = some (decide (s ∈ sec)) := by
      unfold eIn
      rw [hi, Option.bind_some, hs, Option.bind_some, gN.p (by omega), plainAll_map gN, any_map gN]
      rfl
    rw [this]
    rfl
theorem within_ok {S : List Nat} {so : O} {sec : List Nat} (hs : items so = some (sec.map dN)) : f_within [.dat (dT dN S), so] = some (.dat (.bool (S.all fun s => decide (s ∈ sec))), [some (.dat (dT dN S)), some so]) := by
  have e := els_in hs (ev := [.par (.dat (dT dN S)), .par so]) (i := 1) rfl S
  have hb : b_within [.par (.dat (dT dN S)), .par so] = some (.rt (.dat (.bool (S.all fun s => decide (s ∈ sec)))), [.par (.dat (dT dN S)), .par so]) := by
    unfold b_within mRet mGen
    show ((some (O.dat (dT dN S), [Sl.par (.dat (dT dN S)), .par so])).bind fun p => (itD p.1.data).bind fun ds => (elsM (eIn 1) p.2 ds).map fun bs => (O.dat (.bool (bs.all id)), p.2)).map _ = _
    show (((elsM (eIn 1) [Sl.par (.dat (dT dN S)), .par so] (S.map dN)).map fun bs => (O.dat (.bool (bs.all id)), [Sl.par (.dat (dT dN S)), .par so]))).map _ = _
    rw [e]
    simp [List.all_map, Function.comp_def]
  unfold f_within runF
  show (match b_within [.par (.dat (dT dN S)), .par so] with
    | some (.rt r, e) => some (r, leave [true, true] e)
    | some (.nx, e) => some (O.dat .none, leave [true, true] e)
    | _ => none) = _
  rw [hb]
  rfl
end K78
set_option Elab.async false
set_option linter.all false
set_option maxRecDepth 100000
/-! K10: the split rows. -/
namespace K78
open PySem PySem.Spec PyProof.Rows L2 Z SX
abbrev Tld := List (Lb × List Nat)
def lqL (seen : List Str) (l : Lb) : Bool := !decide (l.1 = Str.ofString "") && decide (l.1 ∈ seen)
def rowT (row : List (Lb × Nat)) (a : Lb) : List Nat := (row.filter fun y => decide (y.1 = a)).map (·.2)
/-- a row, split -/
structure Spl (seen : List Str) (done : List (Lb × Nat)) (still : List Nat) (told : Tld) : Prop where
  st : still = (done.filter fun y => !lqL seen y.1).map (·.2)
  kn : (told.map (·.1)).Nodup
  km : ∀ a, a ∈ told.map (·.1) ↔ lqL seen a = true ∧ rowT done a ≠ []
  tl : ∀ a ts, lk told a = some ts → ts = rowT done a
theorem rowT_app (done : List (Lb × Nat)) (y : Lb × Nat) (a : Lb) : rowT (done ++ [y]) a = rowT done a ++ if y.1 = a then [y.2] else [] := by
  unfold rowT
  rw [List.filter_append, List.map_append]
  congr 1
  by_cases h : y.1 = a <;> simp [h]
theorem Spl.start (seen : List Str) : Spl seen [] [] [] := ⟨rfl, List.nodup_nil, fun a => by simp [rowT], fun a ts h => by cases h⟩
theorem Spl.loud {seen : List Str} {done : List (Lb × Nat)} {still : List Nat} {told : Tld} (h : Spl seen done still told) {y : Lb × Nat} (hy : lqL seen y.1 = true) : Spl seen (done ++ [y]) still (updA told y.1 [] (· ++ [y.2])) := by
  have hg : (lk told y.1).getD [] = rowT done y.1 := by
    cases q : lk told y.1 with
    | some ts => exact h.tl _ _ q
    | none =>
      have := lookup_none.mp q
      rw [h.km] at this
      exact (Decidable.byContradiction fun z => this ⟨hy, fun w => z w.symm⟩)
  refine ⟨?_, updA_nodup _ _ _ _ h.kn, fun a => ?_, fun a ts q => ?_⟩
  · rw [List.filter_append, List.map_append, ← h.st]
    simp [hy]
  · rw [updA_mem, h.km, rowT_app]
    by_cases e : y.1 = a
    · subst e
      simp [hy]
    · have e' : ¬ a = y.1 := fun z => e z.symm
      simp [e, e']
  · rw [updA_lookup] at q
    rw [rowT_app]
    by_cases e : a = y.1
    · subst e
      rw [if_pos rfl] at q
      cases q
      rw [hg]
      simp
    · rw [if_neg e] at q
      rw [h.tl a ts q, if_neg fun z => e z.symm, List.append_nil]
theorem Spl.quiet {seen : List Str} {done : List (Lb × Nat)} {still : List Nat} {told : Tld} (h : Spl seen done still told) {y : Lb × Nat} (hy : lqL seen y.1 = false) : Spl seen (done ++ [y]) (still ++ [y.2]) told := by
  refine ⟨?_, h.kn, fun a => ?_, fun a ts q => ?_⟩
  · rw [List.filter_append, List.map_append, ← h.st]
    simp [hy]
  · rw [h.km, rowT_app]
    by_cases e : y.1 = a
    · subst e
      simp [hy]
    · simp [e]
  · rw [rowT_app, h.tl a ts q]
    have : lqL seen a = true := ((h.km a).mp (List.mem_map.mpr ⟨_, lookup_mem q, rfl⟩)).1
    have hne : ¬ y.1 = a := fun z => by
      rw [z, this] at hy
      cases hy
    rw [if_neg hne, List.append_nil]
theorem Spl.len {seen : List Str} {done : List (Lb × Nat)} {still : List Nat} {told : Tld} (h : Spl seen done still told) : still.length ≤ done.length ∧ told.length ≤ done.length := by
  refine ⟨by rw [h.st, List.length_map]; exact List.length_filter_le _ _, ?_⟩
  have := h.kn.length_le_of_subset (l₂ := done.map (·.1)) fun a ha => by
    have := ((h.km a).mp ha).2
    unfold rowT at this
    cases q : done.filter fun y => decide (y.1 = a) with
    | nil => rw [q] at this; exact absurd rfl this
    | cons z r =>
      have hz : z ∈ done.filter fun y => decide (y.1 = a) := by rw [q]; exact List.mem_cons_self
      rw [List.mem_filter, decide_eq_true_eq] at hz
      exact List.mem_map.mpr ⟨z, hz.1, hz.2⟩
  simpa using this
/-- the channels seen, as a list or a tuple -/
def SeenO (seen : List Str) (d : PyData) : Prop := d = dA dX seen ∨ d = dT dX seen
theorem SeenO.it {seen : List Str} {d : PyData} (h : SeenO seen d) : items (.dat d) = some (seen.map dX) ∧ asD (.dat d) = none ∧ isD d .none = some (.dat (.bool false)) := by
  rcases h with rfl | rfl <;> exact ⟨rfl, rfl, rfl⟩
def vL : List Nat → O := oL dN
def dSr (G : List (List (Lb × Nat))) (sd : PyData) (q l r s t a b : Sl) : Ev := [.par (.dat (dT (dT dS) G)), .par (.dat sd), q, l, r, s, t, a, b]
theorem split_turn {G : List (List (Lb × Nat))} {seen : List Str} {sd : PyData} (hs : SeenO seen sd) {q l r : Sl} {done : List (Lb × Nat)} {still : List Nat} {told : Tld} (h : Spl seen done still told) (hl : done.length ≤ 1000) {y : Lb × Nat} {e : Ev} (he : e = dSr G sd q l r (.var (oL dN still)) (.var (oD kL vL told)) (.var (.dat (dL y.1))) (.var (.dat (dN y.2)))) :
    ∃ still' told', Spl seen (done ++ [y]) still' told' ∧ (mIfS (mAnd (mTru oBool (mOp neD (mQ (qIx (qN 7) (qC (.int 0)))) (mC (.str "")))) (mOr (mTru oBool (mOp isD (mNm 1) (mC .none))) (mTru oBool (mOpP inA (mQ (qIx (qN 7) (qC (.int 0)))) (mPk 1))))) (mEx (mMet "list" (lSetd (lN 6) (mCons (mNm 7) (mCons (mLst mNil) mNil))) (mCons (mNm 8) mNil) fAppend)) (mEx (mMet "list" (lN 5) (mCons (mNm 8) mNil) fAppend))) e =
      some (.nx, dSr G sd q l r (.var (oL dN still')) (.var (oD kL vL told')) (.var (.dat (dL y.1))) (.var (.dat (dN y.2)))) := by
  subst he
  obtain ⟨i1, i2, i3⟩ := hs.it
  have iq := inA_of gX (by omega) i2 i1 y.1.1
  have nu := neX y.1.1 (Str.ofString "")
  obtain ⟨l1, l2⟩ := h.len
  have tt : (mAnd (mTru oBool (mOp neD (mQ (qIx (qN 7) (qC (.int 0)))) (mC (.str "")))) (mOr (mTru oBool (mOp isD (mNm 1) (mC .none))) (mTru oBool (mOpP inA (mQ (qIx (qN 7) (qC (.int 0)))) (mPk 1))))) (dSr G sd q l r (.var (oL dN still)) (.var (oD kL vL told)) (.var (.dat (dL y.1))) (.var (.dat (dN y.2)))) = some (lqL seen y.1, dSr G sd q l r (.var (oL dN still)) (.var (oD kL vL told)) (.var (.dat (dL y.1))) (.var (.dat (dN y.2)))) := by
    have t1 : (mTru oBool (mOp neD (mQ (qIx (qN 7) (qC (.int 0)))) (mC (.str "")))) (dSr G sd q l r (.var (oL dN still)) (.var (oD kL vL told)) (.var (.dat (dL y.1))) (.var (.dat (dN y.2)))) = some (!decide (y.1.1 = Str.ofString ""), dSr G sd q l r (.var (oL dN still)) (.var (oD kL vL told)) (.var (.dat (dL y.1))) (.var (.dat (dN y.2)))) := by
      simp [dSr, dX, nu]
    have t2 : (mTru oBool (mOp isD (mNm 1) (mC .none))) (dSr G sd q l r (.var (oL dN still)) (.var (oD kL vL told)) (.var (.dat (dL y.1))) (.var (.dat (dN y.2)))) = some (false, dSr G sd q l r (.var (oL dN still)) (.var (oD kL vL told)) (.var (.dat (dL y.1))) (.var (.dat (dN y.2)))) := by
      simp [dSr, i3]
    have t3 : (mTru oBool (mOpP inA (mQ (qIx (qN 7) (qC (.int 0)))) (mPk 1))) (dSr G sd q l r (.var (oL dN still)) (.var (oD kL vL told)) (.var (.dat (dL y.1))) (.var (.dat (dN y.2)))) = some (decide (y.1.1 ∈ seen), dSr G sd q l r (.var (oL dN still)) (.var (oD kL vL told)) (.var (.dat (dL y.1))) (.var (.dat (dN y.2)))) := by
      simp [dSr, iq]
    rw [e_and, t1, e_bind, e_or, t2, e_bind]
    simp only [Bool.false_eq_true, if_false]
    rw [t3]
    unfold lqL
    cases decide (y.1.1 = Str.ofString "") <;> rfl
  rw [e_ifs, tt, e_bind]
  cases hq : lqL seen y.1 with
  | true =>
    refine ⟨still, _, h.loud hq, ?_⟩
    have hT : ∀ b, tyO "list" (vL b) = true := fun b => rfl
    have hF : fAppend (vL ((lk told y.1).getD [])) [.dat (dN y.2)] = some (.dat .none, vL ((lk told y.1).getD [] ++ [y.2])) := by
      have : ((lk told y.1).getD []).length + 1 ≤ 1000000 := by
        cases q : lk told y.1 with
        | none => simp
        | some ts =>
          rw [Option.getD_some, h.tl _ _ q]
          unfold rowT
          rw [List.length_map]
          have := List.length_filter_le (fun z : Lb × Nat => decide (z.1 = y.1)) done
          omega
      have a := app_oL dN ((lk told y.1).getD []) y.2
      rwa [fitS_ok this] at a
    have := setd_met (T := "list") (F := fAppend) (u := (· ++ [y.2])) gkL (i := 6) (ev := dSr G sd q l r (.var (oL dN still)) (.var (oD kL vL told)) (.var (.dat (dL y.1))) (.var (.dat (dN y.2)))) (l := told) (a := y.1) (b0 := []) (ms := mCons (mNm 7) (mCons (mLst mNil) mNil)) (ms2 := mCons (mNm 8) mNil) (os := [.dat (dN y.2)]) rfl rfl (by omega) (fun l' => rfl) hT hF
    rw [if_pos rfl, e_ex, this]
    rfl
  | false =>
    refine ⟨still ++ [y.2], told, h.quiet hq, ?_⟩
    rw [if_neg (by simp)]
    exact ap_own (i := 5) rfl rfl (by omega)
abbrev Tr := List (Lb × Nat) × List Nat × Tld
theorem split_ok {G : List (List (Lb × Nat))} {seen : List Str} {sd : PyData} (hs : SeenO seen sd) (hG : G.length ≤ 1000) (hr : ∀ r ∈ G, r.length ≤ 1000) :
    ∃ (tr : List Tr) (b0 b1 : Option O), tr.map (·.1) = G ∧ (∀ x ∈ tr, Spl seen x.1 x.2.1 x.2.2) ∧ f_split_rows [.dat (dT (dT dS) G), .dat sd] = some (.dat (.tuple [dA (dA dN) (tr.map (·.2.1)), dA (dD dL (dA dN)) (tr.map (·.2.2))]), [b0, b1]) := by
  let oq (tr : List Tr) : O := oLL dN (tr.map (·.2.1))
  let ol (tr : List Tr) : O := .lst ((tr.map (·.2.2)).map (oD kL vL))
  have main : wp b_split_rows (enter [true, true] [.dat (dT (dT dS) G), .dat sd] ++ List.replicate 7 .un) fun out e => ∃ (tr : List Tr) (a b : O) (tl : Ev), tr.map (·.1) = G ∧ (∀ x ∈ tr, Spl seen x.1 x.2.1 x.2.2) ∧ out = .rt (.dat (.tuple [dA (dA dN) (tr.map (·.2.1)), dA (dD dL (dA dN)) (tr.map (·.2.2))])) ∧ e = .par a :: .par b :: tl := by
    show wp b_split_rows [.par (.dat (dT (dT dS) G)), .par (.dat sd), .un, .un, .un, .un, .un, .un, .un] _
    unfold b_split_rows
    refine wp_seq (wp_of (a := .nx) (e := dSr G sd (.var (oq [])) (.var (ol [])) .un .un .un .un .un) rfl ?_)
    have it0 : mItA (mNm 0) (dSr G sd (.var (oq [])) (.var (ol [])) .un .un .un .un .un) = some (G.map (dT dS), dSr G sd (.var (oq [])) (.var (ol [])) .un .un .un .un .un) := rfl
    refine wp_seq (wp_forT it0 (fun rest e => ∃ tr : List Tr, tr.map (·.1) ++ rest = G ∧ (∀ x ∈ tr, Spl seen x.1 x.2.1 x.2.2) ∧ e = dSr G sd (.var (oq tr)) (.var (ol tr)) .un .un .un .un .un) ⟨[], rfl, (fun x hx => by cases hx), rfl⟩ ?_ ?_)
    · rintro e ⟨tr, h1, h2, rfl⟩
      rw [List.append_nil] at h1
      refine wp_ret (wp_of (a := .dat (.tuple [dA (dA dN) (tr.map (·.2.1)), dA (dD dL (dA dN)) (tr.map (·.2.2))])) (e := dSr G sd .un .un .un .un .un .un .un) ?_ ⟨tr, _, _, _, h1, h2, rfl, rfl⟩)
      have m2 : mMv 2 (dSr G sd (.var (oq tr)) (.var (ol tr)) .un .un .un .un .un) = some (oq tr, dSr G sd .un (.var (ol tr)) .un .un .un .un .un) := rfl
      have m3 : mMv 3 (dSr G sd .un (.var (ol tr)) .un .un .un .un .un) = some (ol tr, dSr G sd .un .un .un .un .un .un .un) := rfl
      have dl : (ol tr).data = dA (dD dL (dA dN)) (tr.map (·.2.2)) := by
        show PyData.list (O.datas _) = _
        rw [O.datas_eq, List.map_map]
        refine congrArg PyData.list (List.map_congr_left fun x _ => ?_)
        show (oD kL vL x).data = _
        rw [d_data gkL]
        unfold dD
        refine congrArg PyData.dict (List.map_congr_left fun p _ => ?_)
        show (dL p.1, (oL dN p.2).data) = _
        rw [data_oL]
      rw [e_tup, e_dcons, m2, e_bind, e_dcons, m3, e_bind, e_dnil, dl, data_oLL]
      simp
    · rintro row rest e ⟨tr, h1, h2, rfl⟩
      have hrow : row ∈ G := by rw [← h1]; simp
      have htl : tr.length ≤ 1000 := by
        have := congrArg List.length h1
        rw [List.length_append, List.length_map] at this
        omega
      refine ⟨dSr G sd (.var (oq tr)) (.var (ol tr)) (.var (.dat (dT dS row))) .un .un .un .un, rfl, ?_⟩
      refine wp_seq (wp_of (a := .nx) (e := dSr G sd (.var (oq tr)) (.var (ol tr)) (.var (.dat (dT dS row))) (.var (oL dN [])) (.var (oD kL vL [])) .un .un) rfl ?_)
      have it1 : mItA (mNm 4) (dSr G sd (.var (oq tr)) (.var (ol tr)) (.var (.dat (dT dS row))) (.var (oL dN [])) (.var (oD kL vL [])) .un .un) = some (row.map dS, dSr G sd (.var (oq tr)) (.var (ol tr)) (.var (.dat (dT dS row))) (.var (oL dN [])) (.var (oD kL vL [])) .un .un) := rfl
      refine wp_seq (wp_forT it1 (fun rest e => ∃ done still told, done ++ rest = row ∧ Spl seen done still told ∧ e = dSr G sd (.var (oq tr)) (.var (ol tr)) (.var (.dat (dT dS row))) (.var (oL dN still)) (.var (oD kL vL told)) .un .un) ⟨[], [], [], rfl, Spl.start seen, rfl⟩ ?_ ?_)
      · rintro e ⟨done, still, told, h3, h4, rfl⟩
        rw [List.append_nil] at h3
        subst h3
        refine wp_seq (wp_of (ap_any (i := 2) (os := (tr.map (·.2.1)).map (oL dN)) (o := oL dN still) (me := mMv 5) (e2 := dSr G sd (.ro (oq tr)) (.var (ol tr)) (.var (.dat (dT dS done))) .un (.var (oD kL vL told)) .un .un) rfl rfl rfl (by rw [List.length_map, List.length_map]; omega)) ?_)
        refine wp_of (ap_any (i := 3) (os := (tr.map (·.2.2)).map (oD kL vL)) (o := oD kL vL told) (me := mMv 6) (e2 := dSr G sd (.var (.lst ((tr.map (·.2.1)).map (oL dN) ++ [oL dN still]))) (.ro (ol tr)) (.var (.dat (dT dS done))) .un .un .un .un) rfl rfl rfl (by rw [List.length_map, List.length_map]; omega)) ?_
        refine ⟨tr ++ [(done, still, told)], by rw [← h1]; simp, fun x hx => ?_, ?_⟩
        · rcases List.mem_append.mp hx with hx | hx
          · exact h2 x hx
          · rw [List.mem_singleton.mp hx]; exact h4
        · have e1 : oq (tr ++ [(done, still, told)]) = .lst ((tr.map (·.2.1)).map (oL dN) ++ [oL dN still]) := by simp [oq, oLL]
          have e2 : ol (tr ++ [(done, still, told)]) = .lst ((tr.map (·.2.2)).map (oD kL vL) ++ [oD kL vL told]) := by simp [ol]
          rw [e1, e2]
          rfl
      · rintro y rest e ⟨done, still, told, h3, h4, rfl⟩
        have hdl : done.length ≤ 1000 := by
          have := congrArg List.length h3
          rw [List.length_append] at this
          have := hr row hrow
          omega
        refine ⟨dSr G sd (.var (oq tr)) (.var (ol tr)) (.var (.dat (dT dS row))) (.var (oL dN still)) (.var (oD kL vL told)) (.var (.dat (dL y.1))) (.var (.dat (dN y.2))), rfl, ?_⟩
        obtain ⟨still', told', h5, h6⟩ := split_turn (G := G) (q := .var (oq tr)) (l := .var (ol tr)) (r := .var (.dat (dT dS row))) hs h4 hdl (y := y) rfl
        exact wp_of h6 ⟨done ++ [y], still', told', by rw [← h3]; simp, h5, rfl⟩
  obtain ⟨r, bs, h4, tr, b0, b1, h1, h2, rfl, rfl⟩ := run_wp (ks := [true, true]) (l := 7) (R := fun r bs => ∃ (tr : List Tr) (b0 b1 : Option O), tr.map (·.1) = G ∧ (∀ x ∈ tr, Spl seen x.1 x.2.1 x.2.2) ∧ r = .dat (.tuple [dA (dA dN) (tr.map (·.2.1)), dA (dD dL (dA dN)) (tr.map (·.2.2))]) ∧ bs = [b0, b1]) rfl
    (main.mono (by rintro out e ⟨tr, a, b, tl, h1, h2, rfl, rfl⟩; exact ⟨tr, some a, some b, h1, h2, rfl, rfl⟩))
  exact ⟨tr, b0, b1, h1, h2, h4⟩
end K78
set_option Elab.async false
set_option linter.all false
set_option maxRecDepth 100000
/-! K11: the steps of a set. -/
namespace K78
open PySem PySem.Spec PyProof.Rows L2 Z SX
def dP (p : Lb × List Nat) : PyData := .tuple [dL p.1, dT dN p.2]
def dQ (p : Lb × List Nat) : PyData := .tuple [dL p.1, dA dN p.2]
theorem Tg_len {G : List (List (Lb × Nat))} (hr : ∀ r ∈ G, r.length ≤ 100) (a : Lb) : ∀ S : List Nat, (Tg G S a).length ≤ 100 * S.length
  | [] => by simp [Tg]
  | s :: S => by
    have ih := Tg_len hr a S
    unfold Tg at ih ⊢
    rw [List.flatMap_cons, List.length_append, List.length_cons, List.length_map]
    have h1 := List.length_filter_le (fun y : Lb × Nat => decide (y.1 = a)) (G.getD s [])
    have h2 : (G.getD s []).length ≤ 100 := by
      rw [List.getD_eq_getElem?_getD]
      cases q : G[s]? with
      | none => simp
      | some r => exact hr r (List.mem_of_getElem? q)
    omega
theorem Tg_app {G : List (List (Lb × Nat))} {S : List Nat} {s : Nat} {row : List (Lb × Nat)} (h : G[s]? = some row) (a : Lb) : Tg G (S ++ [s]) a = Tg G S a ++ rowT row a := by
  unfold Tg rowT
  rw [List.flatMap_append]
  congr 1
  rw [List.flatMap_cons, List.flatMap_nil, List.append_nil, List.getD_eq_getElem?_getD, h]
  rfl
structure TI (G : List (List (Lb × Nat))) (seen : List Str) (done : List Nat) (tg : Tld) : Prop where
  kn : (tg.map (·.1)).Nodup
  km : ∀ a, a ∈ tg.map (·.1) ↔ lqL seen a = true ∧ Tg G done a ≠ []
  tl : ∀ a ts, lk tg a = some ts → ts = Tg G done a
structure TJ (G : List (List (Lb × Nat))) (seen : List Str) (done : List Nat) (row : List (Lb × Nat)) (pd tg : Tld) : Prop where
  kn : (tg.map (·.1)).Nodup
  km : ∀ a, a ∈ tg.map (·.1) ↔ (lqL seen a = true ∧ Tg G done a ≠ []) ∨ a ∈ pd.map (·.1)
  tl : ∀ a ts, lk tg a = some ts → ts = Tg G done a ++ if a ∈ pd.map (·.1) then rowT row a else []
section
variable {G : List (List (Lb × Nat))} {seen : List Str} {done : List Nat} {row : List (Lb × Nat)} {still : List Nat} {told pd tg : Tld}
theorem TI.j (h : TI G seen done tg) : TJ G seen done row [] tg := ⟨h.kn, fun a => by rw [h.km]; simp, fun a ts q => by rw [h.tl a ts q]; simp⟩
theorem TJ.get (h : TJ G seen done row pd tg) (sp : Spl seen row still told) {p : Lb × List Nat} (hp : p ∈ told) (hn : p.1 ∉ pd.map (·.1)) : (lk tg p.1).getD [] = Tg G done p.1 ∧ p.2 = rowT row p.1 := by
  have hk : lqL seen p.1 = true := ((sp.km p.1).mp (List.mem_map.mpr ⟨p, hp, rfl⟩)).1
  refine ⟨?_, sp.tl _ _ (lookup_of_mem sp.kn hp)⟩
  cases q : lk tg p.1 with
  | some ts =>
    have := h.tl _ _ q
    rw [if_neg hn, List.append_nil] at this
    exact this
  | none =>
    have := lookup_none.mp q
    rw [h.km] at this
    exact (Decidable.byContradiction fun z => this (.inl ⟨hk, fun w => z w.symm⟩))
theorem TJ.next (h : TJ G seen done row pd tg) (sp : Spl seen row still told) {p : Lb × List Nat} (hp : p ∈ told) (hn : p.1 ∉ pd.map (·.1)) : TJ G seen done row (pd ++ [p]) (updA tg p.1 [] (· ++ p.2)) := by
  obtain ⟨g1, g2⟩ := h.get sp hp hn
  refine ⟨updA_nodup _ _ _ _ h.kn, fun a => ?_, fun a ts q => ?_⟩
  · rw [updA_mem, h.km, List.map_append, List.mem_append, or_assoc]
    simp
  · rw [updA_lookup] at q
    by_cases e : a = p.1
    · subst e
      rw [if_pos rfl] at q
      cases q
      rw [g1, g2, if_pos (by simp)]
    · rw [if_neg e] at q
      have := h.tl a ts q
      have hm : a ∈ (pd ++ [p]).map (·.1) ↔ a ∈ pd.map (·.1) := by
        rw [List.map_append, List.mem_append]
        simp [e]
      rw [this]
      by_cases hd : a ∈ pd.map (·.1)
      · rw [if_pos hd, if_pos (hm.mpr hd)]
      · rw [if_neg hd, if_neg fun z => hd (hm.mp z)]
theorem TJ.fin {s : Nat} (h : TJ G seen done row told tg) (sp : Spl seen row still told) (hr : G[s]? = some row) : TI G seen (done ++ [s]) tg := by
  refine ⟨h.kn, fun a => ?_, fun a ts q => ?_⟩
  · rw [h.km, sp.km, Tg_app hr]
    by_cases hk : lqL seen a = true
    · simp [hk]
      by_cases h1 : Tg G done a = []
      · simp [h1]
      · simp [h1]
    · simp [hk]
  · have := h.tl a ts q
    rw [this, Tg_app hr]
    by_cases hd : a ∈ told.map (·.1)
    · rw [if_pos hd]
    · rw [if_neg hd]
      have hk : lqL seen a = true := by
        rcases (h.km a).mp (List.mem_map.mpr ⟨_, lookup_mem q, rfl⟩) with z | z
        · exact z.1
        · exact absurd z hd
      rw [sp.km] at hd
      have : rowT row a = [] := Decidable.byContradiction fun z => hd ⟨hk, z⟩
      rw [this]
end
theorem tr_at {G : List (List (Lb × Nat))} {tr : List Tr} (h : tr.map (·.1) = G) {s : Nat} {row : List (Lb × Nat)} (hr : G[s]? = some row) : ∃ x ∈ tr, tr[s]? = some x ∧ x.1 = row := by
  rw [← h, List.getElem?_map] at hr
  cases q : tr[s]? with
  | none => rw [q] at hr; cases hr
  | some x =>
    rw [q] at hr
    cases hr
    exact ⟨x, List.mem_of_getElem? q, rfl, rfl⟩
theorem QR_iff {G : List (List (Lb × Nat))} {seen : List Str} {tr : List Tr} (h : tr.map (·.1) = G) (hs : ∀ x ∈ tr, Spl seen x.1 x.2.1 x.2.2) (hq : Str.ofString "" ∉ seen) (s t : Nat) : QR (tr.map (·.2.1)) s t ↔ UR (uns seen) G s t := by
  have un : ∀ l : Lb, (!lqL seen l) = uns seen l := fun l => by
    unfold lqL uns
    by_cases e : l.1 ∈ seen
    · have : ¬ l.1 = Str.ofString "" := fun z => hq (z ▸ e)
      simp [e, this]
    · simp [e]
  have mem : ∀ x ∈ tr, ∀ t, t ∈ x.2.1 ↔ ∃ y ∈ x.1, uns seen y.1 = true ∧ y.2 = t := fun x hx t => by
    rw [(hs x hx).st]
    simp only [List.mem_map, List.mem_filter, un, and_assoc]
  constructor
  · rintro ⟨r, hr, ht⟩
    rw [List.getElem?_map] at hr
    cases q : tr[s]? with
    | none => rw [q] at hr; cases hr
    | some x =>
      rw [q] at hr
      cases hr
      have hx := List.mem_of_getElem? q
      obtain ⟨y, hy, h1, h2⟩ := (mem x hx t).mp ht
      exact ⟨x.1, by rw [← h, List.getElem?_map, q]; rfl, y, hy, h1, h2⟩
  · rintro ⟨row, hr, y, hy, h1, h2⟩
    obtain ⟨x, hx, q, e⟩ := tr_at h hr
    subst e
    exact ⟨x.2.1, by rw [List.getElem?_map, q]; rfl, (mem x hx t).mpr ⟨y, hy, h1, h2⟩⟩
theorem cl_QR {G : List (List (Lb × Nat))} {seen : List Str} {tr : List Tr} (h : tr.map (·.1) = G) (hs : ∀ x ∈ tr, Spl seen x.1 x.2.1 x.2.2) (hq : Str.ofString "" ∉ seen) (S : List Nat) : cl (QR (tr.map (·.2.1))) (tr.map (·.2.1)).length S = cl (UR (uns seen) G) G.length S := by
  have hl : (tr.map (·.2.1)).length = G.length := by rw [List.length_map, ← h, List.length_map]
  rw [hl]
  exact cl_eq fun _ => ⟨fun z => z.mono (fun _ m => m) fun s t => (QR_iff h hs hq s t).mp, fun z => z.mono (fun _ m => m) fun s t => (QR_iff h hs hq s t).mpr⟩
theorem ToQ_of {G : List (List (Lb × Nat))} {seen : List Str} {tr : List Tr} (hT : Tos G) (h : tr.map (·.1) = G) (hs : ∀ x ∈ tr, Spl seen x.1 x.2.1 x.2.2) : ToQ (tr.map (·.2.1)) := by
  intro r hr t ht
  obtain ⟨x, hx, rfl⟩ := List.mem_map.mp hr
  rw [List.length_map]
  have hl : tr.length = G.length := by rw [← h, List.length_map]
  rw [(hs x hx).st] at ht
  obtain ⟨y, hy, rfl⟩ := List.mem_map.mp ht
  rw [hl]
  exact hT x.1 (by rw [← h]; exact List.mem_map.mpr ⟨x, hx, rfl⟩) y (List.mem_filter.mp hy).1
noncomputable def nx (G : List (List (Lb × Nat))) (seen : List Str) (S : List Nat) (ev : Lb) : List Nat := cl (UR (uns seen) G) G.length (Tg G S ev)
theorem set_steps_ok {G : List (List (Lb × Nat))} {seen : List Str} {tr : List Tr} {S : List Nat} (hT : Tos G) (hn : G.length ≤ 1000) (hr : ∀ r ∈ G, r.length ≤ 100) (h : tr.map (·.1) = G) (hs : ∀ x ∈ tr, Spl seen x.1 x.2.1 x.2.2) (hq : Str.ofString "" ∉ seen)
    (hc : ∀ l : List Lb, (∀ a ∈ l, ∃ r ∈ G, ∃ y ∈ r, y.1 = a) → Co l) (hS : ∀ s ∈ S, s < G.length) (hSl : S.length ≤ 1000) (hb : (G.flatMap fun r => r.map (·.1)).length ≤ 10000) :
    ∃ (Ks : List Lb) (b0 b1 b2 : Option O), Ks.Nodup ∧ (Ks.Pairwise fun a b => leE dL a b = true) ∧ (∀ a, a ∈ Ks ↔ lqL seen a = true ∧ Tg G S a ≠ []) ∧
      f_set_steps [.dat (dA (dA dN) (tr.map (·.2.1))), .dat (dA (dD dL (dA dN)) (tr.map (·.2.2))), .dat (dT dN S)] = some (oL dP (Ks.map fun ev => (ev, nx G seen S ev)), [b0, b1, b2]) := by
  let E (tg : Tld) (s a b : Sl) : Ev := [.par (.dat (dA (dA dN) (tr.map (·.2.1)))), .par (.dat (dA (dD dL (dA dN)) (tr.map (·.2.2)))), .par (.dat (dT dN S)), .var (oD kL vL tg), s, a, b]
  have keyG : ∀ a, Tg G S a ≠ [] → ∃ r ∈ G, ∃ y ∈ r, y.1 = a := fun a ha => by
    obtain ⟨t, ht⟩ := List.exists_mem_of_ne_nil _ ha
    obtain ⟨s, _, row, hrow, y, hy, e, _⟩ := (mem_Tg hS).mp ht
    exact ⟨row, List.mem_of_getElem? hrow, y, hy, e⟩
  have main : wp b_set_steps (enter [true, true, true] [.dat (dA (dA dN) (tr.map (·.2.1))), .dat (dA (dD dL (dA dN)) (tr.map (·.2.2))), .dat (dT dN S)] ++ List.replicate 4 .un) fun out e => ∃ (Ks : List Lb) (a b c : O) (tl : Ev), Ks.Nodup ∧ (Ks.Pairwise fun a b => leE dL a b = true) ∧ (∀ a, a ∈ Ks ↔ lqL seen a = true ∧ Tg G S a ≠ []) ∧ out = .rt (oL dP (Ks.map fun ev => (ev, nx G seen S ev))) ∧ e = .par a :: .par b :: .par c :: tl := by
    show wp b_set_steps [.par (.dat (dA (dA dN) (tr.map (·.2.1)))), .par (.dat (dA (dD dL (dA dN)) (tr.map (·.2.2)))), .par (.dat (dT dN S)), .un, .un, .un, .un] _
    unfold b_set_steps
    refine wp_seq (wp_of (a := .nx) (e := E [] .un .un .un) rfl ?_)
    have it0 : mItA (mNm 2) (E [] .un .un .un) = some (S.map dN, E [] .un .un .un) := rfl
    refine wp_seq (wp_forT it0 (fun rest e => ∃ done tg, done ++ rest = S ∧ TI G seen done tg ∧ e = E tg .un .un .un) ⟨[], [], rfl, ⟨List.nodup_nil, fun a => by simp [Tg], fun a ts q => by cases q⟩, rfl⟩ ?_ ?_)
    · rintro e ⟨done, tg, hd, I, rfl⟩
      rw [List.append_nil] at hd
      subst hd
      let E2 (a : Sl) : Ev := [.par (.dat (dA (dA dN) (tr.map (·.2.1)))), .par (.dat (dA (dD dL (dA dN)) (tr.map (·.2.2)))), .par (.dat (dT dN done)), .var (.dat (dD dL (dA dN) tg)), .un, a, .un]
      have fr : frzE 3 (E tg .un .un .un) = some (E2 .un) := by
        have hd : (oD kL vL tg).data = dD dL (dA dN) tg := by
          rw [d_data gkL]
          unfold dD
          refine congrArg PyData.dict (List.map_congr_left fun p _ => ?_)
          show (dL p.1, (oL dN p.2).data) = _
          rw [data_oL]
        show some _ = _
        rw [hd]
        rfl
      have hSr : Srt dL (tg.map (·.1)) := srt_L (hc _ fun a ha => keyG a ((I.km a).mp ha).2)
      have so := dd_sorted (vd := dA dN) gkL hSr
      have it : mItA (mC1 sortedO (mPk 3)) (E2 .un) = some ((sortE dL (tg.map (·.1))).map dL, E2 .un) := by
        have : mC1 sortedO (mPk 3) (E2 .un) = some (oL dL (sortE dL (tg.map (·.1))), E2 .un) := by simp [E2, so]
        rw [e_ita, this, e_bind, data_oL]
        rfl
      have pm := sortE_perm dL (tg.map (·.1))
      have hQT := ToQ_of hT h hs
      have hQl : (tr.map (·.2.1)).length = G.length := by rw [List.length_map, ← h, List.length_map]
      have lc : lcL [5] (tgN 5) mYes (mTup (mDCons (mNm 5) (mDCons (mCall f_spread (mALend 0 (mAVal (mQ (qIx (qN 3) (qN 5))) mANil))) mDNil))) ((sortE dL (tg.map (·.1))).map dL) (E2 .un) = some (((sortE dL (tg.map (·.1))).filter fun _ => true).map fun ev => .dat (dP (ev, nx G seen done ev)), E2 .un) := by
        refine lcL_map _ _ _ fun ev hev => ?_
        obtain ⟨ts, hts⟩ : ∃ ts, lk tg ev = some ts := by
          cases q : lk tg ev with
          | some ts => exact ⟨ts, rfl⟩
          | none => exact absurd (pm.mem_iff.mp hev) (lookup_none.mp q)
        have ets := I.tl ev ts hts
        subst ets
        obtain ⟨b0, b1, sp⟩ := spread_ok (S := Tg G done ev) hQT (by omega) (fun t ht => by rw [hQl]; exact Tg_lt hT hS t ht)
        rw [cl_QR h hs hq] at sp
        have gq : mQ (qIx (qN 3) (qN 5)) (E2 (.var (.dat (dL ev)))) = some (.dat (dA dN (Tg G done ev)), E2 (.var (.dat (dL ev)))) := by
          have := dd_get (vd := dA dN) gkL tg ev
          rw [hts] at this
          simp [E2, this]
        have cs : (mCall f_spread (mALend 0 (mAVal (mQ (qIx (qN 3) (qN 5))) mANil))) (E2 (.var (.dat (dL ev)))) = some (.dat (dT dN (nx G seen done ev)), E2 (.var (.dat (dL ev)))) := by
          rw [e_call, e_alend, e_aval, gq]
          simp [E2, sp, nx]
        refine ⟨E2 (.var (.dat (dL ev))), _, rfl, rfl, fun z => (by cases z), fun _ => ⟨E2 (.var (.dat (dL ev))), ?_, rfl⟩⟩
        have n5 : mNm 5 (E2 (.var (.dat (dL ev)))) = some (.dat (dL ev), E2 (.var (.dat (dL ev)))) := rfl
        rw [e_tup, e_dcons, n5, e_bind, e_dcons, cs, e_bind, e_dnil]
        simp [dP]
      rw [filter_tt] at lc
      have hl : (sortE dL (tg.map (·.1))).length ≤ 10000 := by
        rw [pm.length_eq]
        refine Nat.le_trans (I.kn.length_le_of_subset fun a ha => ?_) hb
        obtain ⟨r, hr1, y, hy, e⟩ := keyG a ((I.km a).mp ha).2
        exact List.mem_flatMap.mpr ⟨r, hr1, List.mem_map.mpr ⟨y, hy, e⟩⟩
      have lcr : mLc [5] (mItA (mC1 sortedO (mPk 3))) (tgN 5) mYes (mTup (mDCons (mNm 5) (mDCons (mCall f_spread (mALend 0 (mAVal (mQ (qIx (qN 3) (qN 5))) mANil))) mDNil))) (E2 .un) = some (.lst ((sortE dL (tg.map (·.1))).map fun ev => .dat (dP (ev, nx G seen done ev))), E2 .un) := lc_eq it lc (by rw [List.length_map]; omega)
      refine wp_of (a := .rt (oL dP ((sortE dL (tg.map (·.1))).map fun ev => (ev, nx G seen done ev)))) (e := E2 .un) ?_ ⟨sortE dL (tg.map (·.1)), _, _, _, _, pm.nodup_iff.mpr I.kn, sortE_sorted _ _, fun a => by rw [pm.mem_iff, I.km], rfl, rfl⟩
      rw [e_frS, fr, e_bind, e_ret, lcr, e_map]
      simp [oL, Function.comp_def]
    · rintro s rest e ⟨done, tg, hd, I, rfl⟩
      have hsG : s < G.length := hS s (by rw [← hd]; simp)
      obtain ⟨row, hrow, hgr⟩ := pick hsG
      obtain ⟨x, hx, q, ex⟩ := tr_at h hgr
      have sp := hs x hx
      rw [ex] at sp
      have hdl : done.length ≤ 1000 := by
        have := congrArg List.length hd
        rw [List.length_append] at this
        omega
      refine ⟨E tg (.var (.dat (dN s))) .un .un, rfl, ?_⟩
      have it : mItP (mQ (qIx (qN 1) (qN 4))) (E tg (.var (.dat (dN s))) .un .un) = some (x.2.2.map dQ, E tg (.var (.dat (dN s))) .un .un) := by
        have : mQ (qIx (qN 1) (qN 4)) (E tg (.var (.dat (dN s))) .un .un) = some (.dat (dD dL (dA dN) x.2.2), E tg (.var (.dat (dN s))) .un .un) := by simp [E, q]
        rw [e_itp, this, e_bind]
        show some (((x.2.2).map fun p => (dL p.1, dA dN p.2)).map (fun q => PyData.tuple [q.1, q.2]), _) = _
        rw [List.map_map]
        rfl
      refine wp_forT it (fun rest2 e => ∃ pd tg2, pd ++ rest2 = x.2.2 ∧ TJ G seen done row pd tg2 ∧ e = E tg2 (.var (.dat (dN s))) .un .un) ⟨[], tg, rfl, I.j, rfl⟩ ?_ ?_
      · rintro e ⟨pd, tg2, h1, J, rfl⟩
        rw [List.append_nil] at h1
        subst h1
        exact ⟨done ++ [s], tg2, by rw [← hd]; simp, J.fin sp hgr, rfl⟩
      · rintro p rest2 e ⟨pd, tg2, h1, J, rfl⟩
        have hp : p ∈ x.2.2 := by rw [← h1]; simp
        have hnp : p.1 ∉ pd.map (·.1) := fun m => by
          have := sp.kn
          rw [← h1, List.map_append] at this
          exact (List.nodup_append.mp this).2.2 p.1 m p.1 (by simp) rfl
        obtain ⟨g1, g2⟩ := J.get sp hp hnp
        have bl1 := Tg_len hr p.1 done
        have bl2 : (rowT row p.1).length ≤ 100 := by
          unfold rowT
          rw [List.length_map]
          exact Nat.le_trans (List.length_filter_le _ _) (hr row hrow)
        have htg : tg2.length ≤ 10100 := by
          have hsub : ∀ a ∈ tg2.map (·.1), a ∈ (G.flatMap fun r => r.map (·.1)) := fun a ha => by
            rcases (J.km a).mp ha with ⟨_, hne⟩ | hpd
            · obtain ⟨t, ht⟩ := List.exists_mem_of_ne_nil _ hne
              obtain ⟨s', _, row', hrow', y, hy, e, _⟩ := (mem_Tg (fun s' hs' => hS s' (by rw [← hd]; exact List.mem_append_left _ hs'))).mp ht
              exact List.mem_flatMap.mpr ⟨row', List.mem_of_getElem? hrow', List.mem_map.mpr ⟨y, hy, e⟩⟩
            · obtain ⟨p', hp', rfl⟩ := List.mem_map.mp hpd
              have hne := ((sp.km p'.1).mp (List.mem_map.mpr ⟨p', by rw [← h1]; exact List.mem_append_left _ hp', rfl⟩)).2
              unfold rowT at hne
              obtain ⟨t, ht⟩ := List.exists_mem_of_ne_nil _ hne
              obtain ⟨y, hy, _⟩ := List.mem_map.mp ht
              rw [List.mem_filter, decide_eq_true_eq] at hy
              exact List.mem_flatMap.mpr ⟨row, hrow, List.mem_map.mpr ⟨y, hy.1, hy.2⟩⟩
          have := J.kn.length_le_of_subset hsub
          rw [List.length_map] at this
          omega
        refine ⟨E tg2 (.var (.dat (dN s))) (.var (.dat (dL p.1))) (.var (.dat (dA dN p.2))), rfl, ?_⟩
        have hF : fExtend (vL ((lk tg2 p.1).getD [])) [.dat (dA dN p.2)] = some (.dat .none, vL ((lk tg2 p.1).getD [] ++ p.2)) := by
          have := PySem.sizeLine_eq
          show (if (((lk tg2 p.1).getD []).map fun a => O.dat (dN a)).length + (p.2.map dN).length ≤ sizeLine then some (O.dat .none, O.lst ((((lk tg2 p.1).getD []).map fun a => O.dat (dN a)) ++ (p.2.map dN).map .dat)) else none) = _
          rw [if_pos (by rw [List.length_map, List.length_map, g1, g2]; omega)]
          simp [vL, oL, Function.comp_def]
        have sm := setd_met (T := "list") (F := fExtend) (u := (· ++ p.2)) gkL (i := 3) (ev := E tg2 (.var (.dat (dN s))) (.var (.dat (dL p.1))) (.var (.dat (dA dN p.2)))) (l := tg2) (a := p.1) (b0 := []) (ms := mCons (mNm 5) (mCons (mLst mNil) mNil)) (ms2 := mCons (mNm 6) mNil) (os := [.dat (dA dN p.2)]) rfl rfl (by omega) (fun l' => rfl) (fun b => rfl) hF
        refine wp_of (a := .nx) (e := E (updA tg2 p.1 [] (· ++ p.2)) (.var (.dat (dN s))) (.var (.dat (dL p.1))) (.var (.dat (dA dN p.2)))) (by rw [e_ex, sm]; rfl) ?_
        exact ⟨pd ++ [p], _, by rw [← h1]; simp, J.next sp hp hnp, rfl⟩
  obtain ⟨r, bs, h4, Ks, b0, b1, b2, h1, h2, h3, rfl, rfl⟩ := run_wp (ks := [true, true, true]) (l := 4) (R := fun r bs => ∃ (Ks : List Lb) (b0 b1 b2 : Option O), Ks.Nodup ∧ (Ks.Pairwise fun a b => leE dL a b = true) ∧ (∀ a, a ∈ Ks ↔ lqL seen a = true ∧ Tg G S a ≠ []) ∧ r = oL dP (Ks.map fun ev => (ev, nx G seen S ev)) ∧ bs = [b0, b1, b2]) rfl
    (main.mono (by rintro out e ⟨Ks, a, b, c, tl, h1, h2, h3, rfl, rfl⟩; exact ⟨Ks, some a, some b, some c, h1, h2, h3, rfl, rfl⟩))
  exact ⟨Ks, b0, b1, b2, h1, h2, h3, h4⟩
end K78
set_option Elab.async false
set_option linter.all false
set_option maxRecDepth 100000
/-! K12: the row of sets that both walks make. -/
namespace K78
open PySem PySem.Spec PyProof.Rows L2 Z SX
abbrev Qu := List (List Nat × List Lb)
section
variable (E : List Lb) (nf : List Nat → Lb → List Nat) (first : List Nat) (W : List Nat → Bool)
def addQ (S : List Nat) (w : List Lb) (Q : Qu) (ev : Lb) : Qu := if nf S ev ≠ [] ∧ nf S ev ∉ Q.map (·.1) then Q ++ [(nf S ev, w ++ [ev])] else Q
def expQ (Q : Qu) (k : Nat) : Qu := match Q[k]? with
  | some x => E.foldl (addQ nf x.1 x.2) Q
  | none => Q
def Qs : Nat → Qu
  | 0 => [(first, [])]
  | k + 1 => expQ E nf (Qs k) k
def IsTold (w : List Lb) : Prop := ∃ (K j : Nat) (S : List Nat), (Qs E nf first K)[j]? = some (S, w) ∧ W S = true ∧ ∀ i, i < j → ∀ x : List Nat × List Lb, (Qs E nf first K)[i]? = some x → W x.1 = false
def IsKept (K : Nat) : Prop := (Qs E nf first K).length ≤ K ∧ ∀ x ∈ Qs E nf first K, W x.1 = false
def toldD (w : List Lb) : PyData := .tuple [.str (Str.ofString "told"), dT dL w]
def keptD (Q : Qu) : PyData := .tuple [.str (Str.ofString "kept"), dT (dT dN) (sortE (dT dN) (Q.map (·.1)))]
inductive Ans : PyData → Prop
  | told (w : List Lb) : IsTold E nf first W w → Ans (toldD w)
  | kept (K : Nat) : IsKept E nf first W K → Ans (keptD (Qs E nf first K))
variable {E nf first W}
theorem addQ_pre (S : List Nat) (w : List Lb) (Q : Qu) (ev : Lb) : Q <+: addQ nf S w Q ev := by
  unfold addQ
  split
  · exact List.prefix_append _ _
  · exact List.prefix_refl _
theorem foldQ_pre (S : List Nat) (w : List Lb) : ∀ (l : List Lb) (Q : Qu), Q <+: l.foldl (addQ nf S w) Q
  | [], Q => List.prefix_refl _
  | ev :: l, Q => (addQ_pre S w Q ev).trans (foldQ_pre S w l _)
theorem Qs_next (k : Nat) : Qs E nf first k <+: Qs E nf first (k + 1) := by
  show _ <+: expQ E nf (Qs E nf first k) k
  unfold expQ
  split
  · exact foldQ_pre _ _ _ _
  · exact List.prefix_refl _
theorem Qs_mono {k j : Nat} (h : k ≤ j) : Qs E nf first k <+: Qs E nf first j := by
  induction j with
  | zero => have : k = 0 := by omega
            subst this; exact List.prefix_refl _
  | succ j ih =>
    by_cases e : k = j + 1
    · subst e; exact List.prefix_refl _
    · exact (ih (by omega)).trans (Qs_next j)
theorem Qs_stop {k j : Nat} (h : (Qs E nf first k).length ≤ k) (hj : k ≤ j) : Qs E nf first j = Qs E nf first k := by
  induction j with
  | zero => have : k = 0 := by omega
            subst this; rfl
  | succ j ih =>
    by_cases e : k = j + 1
    · rw [e]
    · have h1 := ih (by omega)
      show expQ E nf (Qs E nf first j) j = _
      rw [h1]
      unfold expQ
      rw [List.getElem?_eq_none (by omega)]
theorem pre_at {Q Q' : Qu} (h : Q <+: Q') {i : Nat} {x : List Nat × List Lb} (hx : Q[i]? = some x) : Q'[i]? = some x := by
  obtain ⟨t, rfl⟩ := h
  have := (List.getElem?_eq_some_iff.mp hx).1
  rw [List.getElem?_append_left this]
  exact hx
theorem pre_back {Q Q' : Qu} (h : Q <+: Q') {i : Nat} (hi : i < Q.length) {x : List Nat × List Lb} (hx : Q'[i]? = some x) : Q[i]? = some x := by
  obtain ⟨t, rfl⟩ := h
  rwa [List.getElem?_append_left hi] at hx
theorem told_le {K1 K2 j1 j2 : Nat} {S1 S2 : List Nat} {w1 w2 : List Lb} (a1 : (Qs E nf first K1)[j1]? = some (S1, w1)) (a2 : W S1 = true) (b1 : (Qs E nf first K2)[j2]? = some (S2, w2)) (b3 : ∀ i, i < j2 → ∀ x : List Nat × List Lb, (Qs E nf first K2)[i]? = some x → W x.1 = false) : ¬ j1 < j2 := fun lt => by
  have hj2 := (List.getElem?_eq_some_iff.mp b1).1
  have c1 := pre_at (Qs_mono (Nat.le_max_left K1 K2)) a1
  have c2 := pre_back (Qs_mono (Nat.le_max_right K1 K2)) (by omega) c1
  have := b3 j1 lt _ c2
  rw [a2] at this
  cases this
theorem Ans.unique {a b : PyData} (ha : Ans E nf first W a) (hb : Ans E nf first W b) : a = b := by
  have tk : ∀ w K, IsTold E nf first W w → IsKept E nf first W K → False := fun w K ⟨K1, j, S, h1, h2, _⟩ ⟨h3, h4⟩ => by
    have : (S, w) ∈ Qs E nf first K := by
      rcases Nat.le_total K1 K with h | h
      · exact List.mem_of_getElem? (pre_at (Qs_mono h) h1)
      · rw [Qs_stop h3 h] at h1
        exact List.mem_of_getElem? h1
    have := h4 _ this
    rw [h2] at this
    cases this
  cases ha with
  | told w1 t1 =>
    cases hb with
    | told w2 t2 =>
      obtain ⟨K1, j1, S1, a1, a2, a3⟩ := t1
      obtain ⟨K2, j2, S2, b1, b2, b3⟩ := t2
      have n1 := told_le a1 a2 b1 b3
      have n2 := told_le b1 b2 a1 a3
      have : j1 = j2 := by omega
      subst this
      have c1 := pre_at (Qs_mono (Nat.le_max_left K1 K2)) a1
      have c2 := pre_at (Qs_mono (Nat.le_max_right K1 K2)) b1
      rw [c1] at c2
      cases c2
      rfl
    | kept K k => exact (tk _ _ t1 k).elim
  | kept K1 k1 =>
    cases hb with
    | told w2 t2 => exact (tk _ _ t2 k1).elim
    | kept K2 k2 =>
      rcases Nat.le_total K1 K2 with h | h
      · rw [Qs_stop k1.1 h]
      · rw [Qs_stop k2.1 h]
/-- what holds of the first set and of all next ones holds of all -/
theorem foldQ_all {P : List Nat → Prop} {S : List Nat} (w : List Lb) : ∀ (l : List Lb) (hS : ∀ ev ∈ l, nf S ev ≠ [] → P (nf S ev)) (Q : Qu), (∀ x ∈ Q, P x.1) → ∀ x ∈ l.foldl (addQ nf S w) Q, P x.1
  | [], _, Q, h => h
  | ev :: l, hS, Q, h => foldQ_all w l (fun ev m => hS ev (List.mem_cons_of_mem _ m)) _ fun x hx => by
    unfold addQ at hx
    split at hx
    · rename_i hc
      rcases List.mem_append.mp hx with hx | hx
      · exact h x hx
      · rw [List.mem_singleton.mp hx]; exact hS ev List.mem_cons_self hc.1
    · exact h x hx
theorem Qs_all {P : List Nat → Prop} (h0 : P first) (h : ∀ S, P S → ∀ ev ∈ E, nf S ev ≠ [] → P (nf S ev)) : ∀ k, ∀ x ∈ Qs E nf first k, P x.1
  | 0, x, hx => by rw [List.mem_singleton.mp hx]; exact h0
  | k + 1, x, hx => by
    have ih := Qs_all h0 h k
    have hx : x ∈ expQ E nf (Qs E nf first k) k := hx
    unfold expQ at hx
    split at hx
    · rename_i y hy
      exact foldQ_all _ _ (h y.1 (ih y (List.mem_of_getElem? hy))) _ ih x hx
    · exact ih x hx
theorem foldQ_nd (S : List Nat) (w : List Lb) : ∀ (l : List Lb) (Q : Qu), (Q.map (·.1)).Nodup → ((l.foldl (addQ nf S w) Q).map (·.1)).Nodup
  | [], Q, h => h
  | ev :: l, Q, h => foldQ_nd S w l _ (by
    unfold addQ
    split
    · rename_i hc
      rw [List.map_append]
      exact List.nodup_append.mpr ⟨h, by simp, fun x hx y hy e => hc.2 (by
        simp only [List.map_cons, List.map_nil, List.mem_singleton] at hy
        rw [hy] at e
        rw [← e]; exact hx)⟩
    · exact h)
theorem Qs_nd : ∀ k, ((Qs E nf first k).map (·.1)).Nodup
  | 0 => by simp [Qs]
  | k + 1 => by
    show ((expQ E nf (Qs E nf first k) k).map (·.1)).Nodup
    unfold expQ
    split
    · exact foldQ_nd _ _ _ _ (Qs_nd k)
    · exact Qs_nd k
theorem Qs_len {Fm : List (List Nat)} (h0 : first ∈ Fm) (h : ∀ S, S ∈ Fm → ∀ ev ∈ E, nf S ev ≠ [] → nf S ev ∈ Fm) (k : Nat) : (Qs E nf first k).length ≤ Fm.length := by
  have := (Qs_nd (E := E) (nf := nf) (first := first) k).length_le_of_subset (l₂ := Fm) fun S hS => by
    obtain ⟨x, hx, rfl⟩ := List.mem_map.mp hS
    exact Qs_all h0 h k x hx
  rwa [List.length_map] at this
theorem foldQ_filter (S : List Nat) (w : List Lb) (Q : Qu) : (E.filter fun ev => decide (nf S ev ≠ [])).foldl (addQ nf S w) Q = E.foldl (addQ nf S w) Q := by
  induction E generalizing Q with
  | nil => rfl
  | cons ev l ih =>
    by_cases h : nf S ev ≠ []
    · rw [List.filter_cons_of_pos (by simpa using h), List.foldl_cons, List.foldl_cons, ih]
    · rw [List.filter_cons_of_neg (by simpa using h), List.foldl_cons, ih]
      have : addQ nf S w Q ev = Q := by unfold addQ; rw [if_neg fun z => h z.1]
      rw [this]
end
/-! ### how many sets -/
def subs : Nat → List (List Nat)
  | 0 => [[]]
  | n + 1 => subs n ++ (subs n).map (· ++ [n])
theorem subs_len : ∀ n, (subs n).length = 2 ^ n
  | 0 => rfl
  | n + 1 => by rw [subs, List.length_append, List.length_map, subs_len n, Nat.pow_succ]; omega
theorem mem_subs (p : Nat → Bool) : ∀ n, (List.range n).filter p ∈ subs n
  | 0 => by simp [subs]
  | n + 1 => by
    rw [List.range_succ, List.filter_append, subs, List.mem_append]
    cases h : p n with
    | false => left; simp [h]; exact mem_subs p n
    | true => right; simp [h]; exact mem_subs p n
theorem cl_subs (R : Nat → Nat → Prop) (n : Nat) (S : List Nat) : cl R n S ∈ subs n := by
  unfold cl
  exact mem_subs _ n
theorem rch_head {R : Nat → Nat → Prop} {s t : Nat} (h : Rch R [s] t) : t = s ∨ ∃ u, R s u ∧ Rch R [u] t := by
  induction h with
  | base m => exact .inl (List.mem_singleton.mp m)
  | @step a b _ r ih =>
    rcases ih with rfl | ⟨u, h1, h2⟩
    · exact .inr ⟨b, r, .base (by simp)⟩
    · exact .inr ⟨u, h1, .step h2 r⟩
theorem rch_line {R : Nat → Nat → Prop} (det : ∀ a b c, R a b → R a c → b = c) {x s t : Nat} (hs : Rch R [x] s) (ht : Rch R [x] t) : Rch R [s] t ∨ Rch R [t] s := by
  induction hs with
  | base m => rw [List.mem_singleton.mp m]; exact .inl ht
  | @step a b _ r ih =>
    rcases ih with h | h
    · rcases rch_head h with rfl | ⟨u, h1, h2⟩
      · exact .inr (.step (.base (by simp)) r)
      · rw [det a b u r h1]; exact .inl h2
    · exact .inr (.step h r)
/-- few sets: few states, or one step each -/
theorem few_sets {G : List (List (Lb × Nat))} {evs : List Lb} (g : Gr evs G) (seen : List Str) : ∃ Fm : List (List Nat), Fm.length ≤ 18 ∧ cl (UR (uns seen) G) G.length [0] ∈ Fm ∧ ∀ S, S ∈ Fm → ∀ ev : Lb, lqL seen ev = true → nx G seen S ev ≠ [] → nx G seen S ev ∈ Fm := by
  rcases g.few with ⟨h4, _⟩ | ⟨h17, h1⟩
  · refine ⟨subs G.length, ?_, cl_subs _ _ _, fun S _ ev _ _ => cl_subs _ _ _⟩
    rw [subs_len]
    have : 2 ^ G.length ≤ 2 ^ 4 := Nat.pow_le_pow_right (by omega) h4
    omega
  · refine ⟨(List.range G.length).map fun x => cl (UR (uns seen) G) G.length [x], by rw [List.length_map, List.length_range]; omega, List.mem_map.mpr ⟨0, List.mem_range.mpr (by have := g.pos; omega), rfl⟩, ?_⟩
    intro S hS ev hev hne
    obtain ⟨x, hx, rfl⟩ := List.mem_map.mp hS
    have hx := List.mem_range.mp hx
    have det : ∀ a b c, UR (uns seen) G a b → UR (uns seen) G a c → b = c := by
      rintro a b c ⟨r, hr, y, hy, _, rfl⟩ ⟨r', hr', z, hz, _, rfl⟩
      rw [hr] at hr'
      cases hr'
      have := h1 r (List.mem_of_getElem? hr)
      match r, this, hy, hz with
      | [w], _, hy, hz => rw [List.mem_singleton.mp hy, List.mem_singleton.mp hz]
    have hSl : ∀ s ∈ cl (UR (uns seen) G) G.length [x], s < G.length := fun s hs => cl_lt hs
    have one : ∀ s ∈ cl (UR (uns seen) G) G.length [x], ∀ row, G[s]? = some row → ∀ y ∈ row, y.1 = ev → row = [y] := fun s _ row hr y hy _ => by
      have := h1 row (List.mem_of_getElem? hr)
      match row, this, hy with
      | [w], _, hy => rw [List.mem_singleton.mp hy]
    have hun : uns seen ev = false := by
      unfold lqL at hev
      unfold uns
      rw [Bool.and_eq_true] at hev
      rw [hev.2]
      rfl
    have mc : ∀ s, s ∈ cl (UR (uns seen) G) G.length [x] ↔ Rch (UR (uns seen) G) [x] s := fun s => mem_cl (fun s hs => by rw [List.mem_singleton.mp hs]; exact hx) (UR.lt g.to)
    have stuck : ∀ s ∈ cl (UR (uns seen) G) G.length [x], ∀ row, G[s]? = some row → ∀ y ∈ row, y.1 = ev → ∀ u, ¬ UR (uns seen) G s u := fun s hs row hr y hy e u ⟨r', hr', z, hz, hu, _⟩ => by
      rw [hr] at hr'
      cases hr'
      rw [one s hs row hr y hy e, List.mem_singleton] at hz
      rw [hz, e, hun] at hu
      cases hu
    have same : ∀ t ∈ Tg G (cl (UR (uns seen) G) G.length [x]) ev, ∀ t' ∈ Tg G (cl (UR (uns seen) G) G.length [x]) ev, t = t' := fun t ht t' ht' => by
      obtain ⟨s, hs, row, hr, y, hy, e, e2⟩ := (mem_Tg hSl).mp ht
      obtain ⟨s', hs', row', hr', y', hy', e', e2'⟩ := (mem_Tg hSl).mp ht'
      have : s = s' := by
        rcases rch_line det ((mc s).mp hs) ((mc s').mp hs') with h | h
        · rcases rch_head h with h | ⟨u, h, _⟩
          · exact h.symm
          · exact absurd h (stuck s hs row hr y hy e u)
        · rcases rch_head h with h | ⟨u, h, _⟩
          · exact h
          · exact absurd h (stuck s' hs' row' hr' y' hy' e' u)
      subst this
      rw [hr] at hr'
      cases hr'
      rw [one s hs row hr y hy e, List.mem_singleton] at hy'
      rw [← e2, ← e2', hy']
    have hT : Tg G (cl (UR (uns seen) G) G.length [x]) ev ≠ [] := fun z => hne (by unfold nx; rw [z, cl_nil])
    obtain ⟨t, ht⟩ := List.exists_mem_of_ne_nil _ hT
    refine List.mem_map.mpr ⟨t, List.mem_range.mpr (Tg_lt g.to hSl t ht), ?_⟩
    unfold nx
    exact cl_congr fun s => ⟨fun h => by rw [List.mem_singleton.mp h]; exact ht, fun h => by rw [same s h t ht]; simp⟩
end K78
set_option Elab.async false
set_option linter.all false
set_option maxRecDepth 100000
/-! K13: the law's own walk over sets. -/
namespace K78
open PySem PySem.Spec PyProof.Rows L2 Z SX
/-- a graph with what is seen of it, and its seen events in ascending order -/
structure Cx2 (evs : List Lb) (G : List (List (Lb × Nat))) (seen : List Str) (E : List Lb) (Fm : List (List Nat)) : Prop where
  g : Gr evs G
  co : Co evs
  ok : ∀ e ∈ evs, LbOk e
  hq : Str.ofString "" ∉ seen
  nd : E.Nodup
  so : E.Pairwise fun a b => leE dL a b = true
  mem : ∀ a, a ∈ E ↔ lqL seen a = true ∧ ∃ r ∈ G, ∃ y ∈ r, y.1 = a
  f18 : Fm.length ≤ 18
  f0 : cl (UR (uns seen) G) G.length [0] ∈ Fm
  fn : ∀ S, S ∈ Fm → ∀ ev : Lb, lqL seen ev = true → nx G seen S ev ≠ [] → nx G seen S ev ∈ Fm
section
variable {evs : List Lb} {G : List (List (Lb × Nat))} {seen : List Str} {E : List Lb} {Fm : List (List Nat)} {sec : List Nat}
theorem Gr.le (g : Gr evs G) : G.length ≤ 17 ∧ ∀ r ∈ G, r.length ≤ 7 := by
  rcases g.few with ⟨a, b⟩ | ⟨a, b⟩
  · exact ⟨by omega, b⟩
  · exact ⟨a, fun r m => by have := b r m; omega⟩
theorem flat_len (f : List (Lb × Nat) → List Lb) (b : Nat) : ∀ G : List (List (Lb × Nat)), (∀ r ∈ G, (f r).length ≤ b) → (G.flatMap f).length ≤ b * G.length
  | [], _ => by simp
  | r :: G, h => by
    rw [List.flatMap_cons, List.length_append, List.length_cons]
    have h1 := h r List.mem_cons_self
    have h2 := flat_len f b G fun x m => h x (List.mem_cons_of_mem _ m)
    rw [Nat.mul_add]
    omega
theorem Gr.hb (g : Gr evs G) : (G.flatMap fun r => r.map (·.1)).length ≤ 10000 := by
  have h := flat_len (fun r => r.map (·.1)) 7 G fun r m => by rw [List.length_map]; exact g.le.2 r m
  have := g.le.1
  omega
theorem Gr.hc (g : Gr evs G) (co : Co evs) (ok : ∀ e ∈ evs, LbOk e) : ∀ l : List Lb, (∀ a ∈ l, ∃ r ∈ G, ∃ y ∈ r, y.1 = a) → Co l := fun l h => co_lab co ok fun a ha => by
  obtain ⟨r, hr, y, hy, e⟩ := h a ha
  rw [← e]
  exact g.lab r hr y hy
/-- what holds of each set met -/
def Ok1 (G : List (List (Lb × Nat))) (Fm : List (List Nat)) (S : List Nat) : Prop := S ∈ Fm ∧ S.Nodup ∧ ∀ s ∈ S, s < G.length
theorem Cx2.ok0 (c : Cx2 evs G seen E Fm) : Ok1 G Fm (cl (UR (uns seen) G) G.length [0]) := ⟨c.f0, cl_nodup, fun s h => cl_lt h⟩
theorem Cx2.okn (c : Cx2 evs G seen E Fm) (S : List Nat) (h : Ok1 G Fm S) (ev : Lb) (he : ev ∈ E) (hne : nx G seen S ev ≠ []) : Ok1 G Fm (nx G seen S ev) := ⟨c.fn S h.1 ev ((c.mem ev).mp he).1 hne, cl_nodup, fun s h => cl_lt h⟩
noncomputable abbrev QsC (G : List (List (Lb × Nat))) (seen : List Str) (E : List Lb) (k : Nat) : Qu := Qs E (nx G seen) (cl (UR (uns seen) G) G.length [0]) k
abbrev AnsC (G : List (List (Lb × Nat))) (seen : List Str) (E : List Lb) (sec : List Nat) (d : PyData) : Prop := Ans E (nx G seen) (cl (UR (uns seen) G) G.length [0]) (fun S => S.all fun s => decide (s ∈ sec)) d
theorem Cx2.all (c : Cx2 evs G seen E Fm) (k : Nat) : ∀ x ∈ QsC G seen E k, Ok1 G Fm x.1 := Qs_all c.ok0 (fun S h ev he hne => c.okn S h ev he hne) k
theorem Cx2.len (c : Cx2 evs G seen E Fm) (k : Nat) : (QsC G seen E k).length ≤ 18 := Nat.le_trans (Qs_len c.f0 (fun S h ev he hne => c.fn S h ev ((c.mem ev).mp he).1 hne) k) c.f18
theorem foldQ_word {nf : List Nat → Lb → List Nat} {S : List Nat} {w : List Lb} {m : Nat} (hw : w.length + 1 ≤ m) : ∀ (l : List Lb) (hl : ∀ ev ∈ l, ev ∈ E) (Q : Qu), (∀ ev ∈ w, ev ∈ E) → (∀ x ∈ Q, x.2.length ≤ m ∧ ∀ ev ∈ x.2, ev ∈ E) → ∀ x ∈ l.foldl (addQ nf S w) Q, x.2.length ≤ m ∧ ∀ ev ∈ x.2, ev ∈ E
  | [], _, Q, _, h => h
  | ev :: l, hl, Q, hwE, h => foldQ_word hw l (fun ev m => hl ev (List.mem_cons_of_mem _ m)) _ hwE fun x hx => by
    unfold addQ at hx
    split at hx
    · rcases List.mem_append.mp hx with hx | hx
      · exact h x hx
      · rw [List.mem_singleton.mp hx]
        refine ⟨by simp; omega, fun e he => ?_⟩
        rcases List.mem_append.mp he with he | he
        · exact hwE e he
        · rw [List.mem_singleton.mp he]; exact hl ev List.mem_cons_self
    · exact h x hx
theorem Qs_word {nf : List Nat → Lb → List Nat} {first : List Nat} : ∀ k, ∀ x ∈ Qs E nf first k, x.2.length ≤ k ∧ ∀ ev ∈ x.2, ev ∈ E
  | 0, x, hx => by rw [List.mem_singleton.mp hx]; exact ⟨Nat.le_refl _, fun e he => by cases he⟩
  | k + 1, x, hx => by
    have ih := Qs_word (nf := nf) (first := first) k
    have hx : x ∈ expQ E nf (Qs E nf first k) k := hx
    unfold expQ at hx
    split at hx
    · rename_i y hy
      have hy' := ih y (List.mem_of_getElem? hy)
      exact foldQ_word (by omega) E (fun _ m => m) _ hy'.2 (fun z hz => ⟨by have := (ih z hz).1; omega, (ih z hz).2⟩) x hx
    · exact ⟨by have := (ih x hx).1; omega, (ih x hx).2⟩
theorem Cx2.word (c : Cx2 evs G seen E Fm) (k : Nat) : ∀ x ∈ QsC G seen E k, x.2.length ≤ 18 ∧ ∀ ev ∈ x.2, ev ∈ E := fun x hx => by
  rcases Nat.le_total k 18 with h | h
  · have := Qs_word k x hx
    exact ⟨by omega, this.2⟩
  · have e := Qs_stop (E := E) (nf := nx G seen) (first := cl (UR (uns seen) G) G.length [0]) (k := 18) (j := k) (c.len 18) h
    have hx : x ∈ QsC G seen E 18 := by
      show x ∈ Qs E (nx G seen) (cl (UR (uns seen) G) G.length [0]) 18
      rw [← e]; exact hx
    exact Qs_word 18 x hx
end
end K78
set_option Elab.async false
set_option linter.all false
set_option maxRecDepth 100000
/-! K14: _law_secret. -/
namespace K78
open PySem PySem.Spec PyProof.Rows L2 Z SX
theorem tL : Tok1 dL := fun a b h => by
  obtain ⟨a1, a2⟩ := a
  obtain ⟨b1, b2⟩ := b
  have hk : ∀ (x : Str) (o : Option Str), PySem.W.keyToks (dL (x, o)) = Sum.inl 1 :: Sum.inr x.cps.toList :: Sum.inl 1 :: (PySem.W.keyToks (dO o) ++ [Sum.inl 0]) := fun x o => rfl
  rw [hk, hk] at h
  injection h with _ h
  injection h with h1 h
  injection h1 with h1
  injection h with _ h
  have e1 : a1 = b1 := str_ext h1
  subst e1
  congr 1
  cases a2 with
  | none => cases b2 with
    | none => rfl
    | some y => exact absurd h (by simp [dO, PySem.W.keyToks])
  | some x => cases b2 with
    | none => exact absurd h (by simp [dO, PySem.W.keyToks])
    | some y =>
      have h : [(Sum.inr x.cps.toList : Int ⊕ List Nat), Sum.inl 0] = [Sum.inr y.cps.toList, Sum.inl 0] := h
      injection h with h _
      injection h with h
      rw [str_ext h]
section
variable {evs : List Lb} {G : List (List (Lb × Nat))} {seen : List Str} {E : List Lb} {Fm : List (List Nat)} {sec : List Nat}
theorem srt_T {l : List (List Nat)} (h : ∀ S ∈ l, S ≠ []) : Srt (dT dN) l := by
  unfold Srt srt
  simp only [Bool.and_eq_true, Bool.or_eq_true, List.all_eq_true, List.mem_map]
  refine ⟨⟨?_, ?_⟩, .inl ?_⟩
  · rintro _ ⟨a, _, rfl⟩; exact (gT gN).p (by omega) a
  · rintro _ ⟨a, _, rfl⟩ _ ⟨b, _, rfl⟩
    have gen : ∀ l m : List Nat, likAll (l.map dN) (m.map dN) = true := by
      intro l
      induction l with
      | nil => intro m; cases m <;> simp [likAll]
      | cons a l ih =>
        intro m
        cases m with
        | nil => simp [likAll]
        | cons b m =>
          rw [List.map_cons, List.map_cons, likAll, gN.eq]
          by_cases e : a = b
          · rw [decide_eq_true e, if_pos rfl, ih m]
            rfl
          · rw [decide_eq_false e, if_neg (by simp)]
            rfl
    unfold dT
    rw [lik]
    exact gen a b
  · rintro _ ⟨a, ha, rfl⟩
    cases a with
    | nil => exact absurd rfl (h _ ha)
    | cons _ _ => rfl
theorem Cx2.ne (c : Cx2 evs G seen E Fm) (k : Nat) : ∀ x ∈ QsC G seen E k, x.1 ≠ [] := Qs_all (P := fun S => S ≠ []) (cl_pos (s := 0) (fun s hs => by rw [List.mem_singleton.mp hs]; exact c.g.pos) (by simp)) (fun S _ ev _ h => h) k
/-- the seen events -/
theorem ctx_of (g : Gr evs G) (co : Co evs) (ok : ∀ e ∈ evs, LbOk e) (hq : Str.ofString "" ∉ seen) {F : List Lb} (nd : F.Nodup) (hF : ∀ x, x ∈ F ↔ ∃ r ∈ G, ∃ y ∈ r, evq y = true ∧ y.1 = x) :
    ∃ Fm, Cx2 evs G seen ((sortE dL F).filter fun l => decide (l.1 ∈ seen)) Fm := by
  obtain ⟨Fm, h1, h2, h3⟩ := few_sets g seen
  have pm := sortE_perm dL F
  refine ⟨Fm, g, co, ok, hq, (pm.nodup_iff.mpr nd).filter _, (sortE_sorted dL F).filter _, fun a => ?_, h1, h2, h3⟩
  rw [List.mem_filter, pm.mem_iff, hF, decide_eq_true_eq]
  unfold lqL
  rw [Bool.and_eq_true, decide_eq_true_eq, Bool.not_eq_true', decide_eq_false_iff_not]
  constructor
  · rintro ⟨⟨r, hr, y, hy, he, rfl⟩, hs⟩
    unfold evq at he
    exact ⟨⟨by simpa using he, hs⟩, r, hr, y, hy, rfl⟩
  · rintro ⟨⟨he, hs⟩, r, hr, y, hy, rfl⟩
    exact ⟨⟨r, hr, y, hy, by unfold evq; simpa using he, rfl⟩, hs⟩
def dSe (G : List (List (Lb × Nat))) (so : O) (seen : List Str) (E : List Lb) (ev : Sl) (Q : Qu) (k s t : Sl) : Ev := [.par (.dat (dT (dT dS) G)), .par so, .par (.dat (dA dX seen)), .par (.dat (.int 3000)), .var (.dat (dA dL E)), ev, .var (oL (dT dN) (Q.map (·.1))), .var (oL (dT dL) (Q.map (·.2))), k, s, t]
theorem dset_eq (a b : List Nat) : PyData.eqv (dT dN a) (dT dN b) = decide (a = b) := (gT gN).eq a b
/-- one event -/
theorem secret_turn (c : Cx2 evs G seen E Fm) {so : O} {Q : Qu} {k : Nat} {S : List Nat} {w : List Lb} {ev : Lb} (hS : ∀ s ∈ S, s < G.length) (hk : Q[k]? = some (S, w)) (hl : Q.length ≤ 100) (hw : w.length ≤ 100) {e : Ev} (he : e = dSe G so seen E (.var (.dat (dL ev))) Q (.var (.dat (dN k))) .un .un) :
    ∃ t, (mSeq (mAsg 10 (mCall f__law_seen_by (mALend 0 (mAVal (mQ (qIx (qN 6) (qN 8))) (mALend 5 (mALend 2 mANil))))))
  (mIfS (mAnd (mTru oBool (mOp gtD (mC1 lenO (mPk 10)) (mC (.int 0)))) (mTru oBool (mOpP ninA (mNm 10) (mPk 6)))) (mSeq (mEx (mMet "list" (lN 6) (mCons (mNm 10) mNil) fAppend))
  (mEx (mMet "list" (lN 7) (mCons (mOp addD (mQ (qIx (qN 7) (qN 8))) (mTup (mDCons (mNm 5) mDNil))) mNil) fAppend))) mNx)) e = some (.nx, dSe G so seen E (.var (.dat (dL ev))) (addQ (nx G seen) S w Q ev) (.var (.dat (dN k))) .un t) := by
  subst he
  have hn := c.g.le.1
  obtain ⟨b0, b1, b2, b3, sb⟩ := seen_by_ok (G := G) (seen := seen) (S := S) (ev := ev) c.g.to (by omega) hS
  refine ⟨.var (.dat (dT dN (nx G seen S ev))), ?_⟩
  have q6 : mQ (qIx (qN 6) (qN 8)) (dSe G so seen E (.var (.dat (dL ev))) Q (.var (.dat (dN k))) .un .un) = some (.dat (dT dN S), dSe G so seen E (.var (.dat (dL ev))) Q (.var (.dat (dN k))) .un .un) := by
    simp [dSe, hk]
  have s1 : (mAsg 10 (mCall f__law_seen_by (mALend 0 (mAVal (mQ (qIx (qN 6) (qN 8))) (mALend 5 (mALend 2 mANil)))))) (dSe G so seen E (.var (.dat (dL ev))) Q (.var (.dat (dN k))) .un .un) = some (.nx, dSe G so seen E (.var (.dat (dL ev))) Q (.var (.dat (dN k))) .un (.var (.dat (dT dN (nx G seen S ev))))) := by
    rw [e_asg, e_call, e_alend, e_aval, q6]
    simp [dSe, sb, nx]
  rw [e_seq, s1, seqK_nx]
  have ni := ninA_of (gT gN) (by omega) (ad_oL (f := dT dN) (Q.map (·.1))) (i_oL (Q.map (·.1))) (nx G seen S ev)
  have tt : (mAnd (mTru oBool (mOp gtD (mC1 lenO (mPk 10)) (mC (.int 0)))) (mTru oBool (mOpP ninA (mNm 10) (mPk 6)))) (dSe G so seen E (.var (.dat (dL ev))) Q (.var (.dat (dN k))) .un (.var (.dat (dT dN (nx G seen S ev))))) = some (decide (0 < ((nx G seen S ev).length : Int)) && !decide (nx G seen S ev ∈ Q.map (·.1)), dSe G so seen E (.var (.dat (dL ev))) Q (.var (.dat (dN k))) .un (.var (.dat (dT dN (nx G seen S ev))))) := by
    have t1 : (mTru oBool (mOp gtD (mC1 lenO (mPk 10)) (mC (.int 0)))) (dSe G so seen E (.var (.dat (dL ev))) Q (.var (.dat (dN k))) .un (.var (.dat (dT dN (nx G seen S ev))))) = some (decide (0 < ((nx G seen S ev).length : Int)), dSe G so seen E (.var (.dat (dL ev))) Q (.var (.dat (dN k))) .un (.var (.dat (dT dN (nx G seen S ev))))) := by
      simp [dSe]
    have t2 : (mTru oBool (mOpP ninA (mNm 10) (mPk 6))) (dSe G so seen E (.var (.dat (dL ev))) Q (.var (.dat (dN k))) .un (.var (.dat (dT dN (nx G seen S ev))))) = some (!decide (nx G seen S ev ∈ Q.map (·.1)), dSe G so seen E (.var (.dat (dL ev))) Q (.var (.dat (dN k))) .un (.var (.dat (dT dN (nx G seen S ev))))) := by
      rw [e_tru, e_opP]
      have n10 : mNm 10 (dSe G so seen E (.var (.dat (dL ev))) Q (.var (.dat (dN k))) .un (.var (.dat (dT dN (nx G seen S ev))))) = some (.dat (dT dN (nx G seen S ev)), dSe G so seen E (.var (.dat (dL ev))) Q (.var (.dat (dN k))) .un (.var (.dat (dT dN (nx G seen S ev))))) := rfl
      have p6 : mPk 6 (dSe G so seen E (.var (.dat (dL ev))) Q (.var (.dat (dN k))) .un (.var (.dat (dT dN (nx G seen S ev))))) = some (oL (dT dN) (Q.map (·.1)), dSe G so seen E (.var (.dat (dL ev))) Q (.var (.dat (dN k))) .un (.var (.dat (dT dN (nx G seen S ev))))) := rfl
      rw [n10, e_bind, p6, e_bind, e_data, ni, e_oB, e_map, e_bind, e_obool, e_map]
      exact congrArg some (Prod.ext (congrArg (! ·) (decide_eq_decide.mpr Iff.rfl)) rfl)
    rw [e_and, t1, e_bind, t2]
    cases decide (0 < ((nx G seen S ev).length : Int)) <;> rfl
  rw [e_ifs, tt, e_bind]
  by_cases h : nx G seen S ev ≠ [] ∧ nx G seen S ev ∉ Q.map (·.1)
  · have hp : 0 < (nx G seen S ev).length := List.length_pos_iff.mpr h.1
    rw [if_pos (by rw [Bool.and_eq_true]; exact ⟨decide_eq_true (by omega), by simpa using h.2⟩)]
    have ea : addQ (nx G seen) S w Q ev = Q ++ [(nx G seen S ev, w ++ [ev])] := by unfold addQ; rw [if_pos h]
    have s2 : mEx (mMet "list" (lN 6) (mCons (mNm 10) mNil) fAppend) (dSe G so seen E (.var (.dat (dL ev))) Q (.var (.dat (dN k))) .un (.var (.dat (dT dN (nx G seen S ev))))) = some (.nx, [.par (.dat (dT (dT dS) G)), .par so, .par (.dat (dA dX seen)), .par (.dat (.int 3000)), .var (.dat (dA dL E)), .var (.dat (dL ev)), .var (oL (dT dN) (Q.map (·.1) ++ [nx G seen S ev])), .var (oL (dT dL) (Q.map (·.2))), .var (.dat (dN k)), .un, .var (.dat (dT dN (nx G seen S ev)))]) :=
      ap_own (i := 6) (f := dT dN) rfl rfl (by rw [List.length_map]; omega)
    rw [e_seq, s2, seqK_nx]
    have hadd : addD (dT dL w) (.tuple [dL ev]) = some (.dat (dT dL (w ++ [ev]))) := by
      have := PySem.sizeLine_eq
      show (if (w.map dL).length + [dL ev].length ≤ sizeLine then some (O.dat (.tuple (w.map dL ++ [dL ev]))) else none) = _
      rw [if_pos (by rw [List.length_map]; simp; omega)]
      simp [dT]
    have m7 : (mOp addD (mQ (qIx (qN 7) (qN 8))) (mTup (mDCons (mNm 5) mDNil))) [.par (.dat (dT (dT dS) G)), .par so, .par (.dat (dA dX seen)), .par (.dat (.int 3000)), .var (.dat (dA dL E)), .var (.dat (dL ev)), .var (oL (dT dN) (Q.map (·.1) ++ [nx G seen S ev])), .ro (oL (dT dL) (Q.map (·.2))), .var (.dat (dN k)), .un, .var (.dat (dT dN (nx G seen S ev)))] = some (.dat (dT dL (w ++ [ev])), [.par (.dat (dT (dT dS) G)), .par so, .par (.dat (dA dX seen)), .par (.dat (.int 3000)), .var (.dat (dA dL E)), .var (.dat (dL ev)), .var (oL (dT dN) (Q.map (·.1) ++ [nx G seen S ev])), .ro (oL (dT dL) (Q.map (·.2))), .var (.dat (dN k)), .un, .var (.dat (dT dN (nx G seen S ev)))]) := by
      simp [hk, hadd]
    have s3 := ap_own (i := 7) (f := dT dL) (l := Q.map (·.2)) (a := w ++ [ev]) (ev := [.par (.dat (dT (dT dS) G)), .par so, .par (.dat (dA dX seen)), .par (.dat (.int 3000)), .var (.dat (dA dL E)), .var (.dat (dL ev)), .var (oL (dT dN) (Q.map (·.1) ++ [nx G seen S ev])), .var (oL (dT dL) (Q.map (·.2))), .var (.dat (dN k)), .un, .var (.dat (dT dN (nx G seen S ev)))]) rfl m7 (by rw [List.length_map]; omega)
    rw [s3, ea]
    unfold dSe
    rw [List.map_append, List.map_append]
    rfl
  · have ea : addQ (nx G seen) S w Q ev = Q := by unfold addQ; rw [if_neg h]
    rw [if_neg, ea]
    · rfl
    · rw [Bool.and_eq_true]
      rintro ⟨h1, h2⟩
      have h1 := of_decide_eq_true h1
      exact h ⟨List.length_pos_iff.mp (by omega), by simpa using h2⟩
theorem secret_ok (c0 : ∀ F : List Lb, F.Nodup → (∀ x, x ∈ F ↔ ∃ r ∈ G, ∃ y ∈ r, evq y = true ∧ y.1 = x) → ∃ Fm, Cx2 evs G seen ((sortE dL F).filter fun l => decide (l.1 ∈ seen)) Fm) {so : O} (hso : items so = some (sec.map dN)) (hsa : asD so = none) (hsl : sec.length ≤ 1000) :
    ∃ (E : List Lb) (Fm : List (List Nat)) (d : PyData) (b0 b2 b3 : Option O), Cx2 evs G seen E Fm ∧ AnsC G seen E sec d ∧ f__law_secret [.dat (dT (dT dS) G), so, .dat (dA dX seen), .dat (.int 3000)] = some (.dat d, [b0, some so, b2, b3]) := by
  obtain ⟨Fm0, cc⟩ := c0 (sortE dL (((G.flatMap fun r => r.map (·.1)).foldl (addX (fun l : Lb => !decide (l.1 = Str.ofString "")) id) []))) (by
    obtain ⟨h1, _⟩ := addX_fold (fun l : Lb => !decide (l.1 = Str.ofString "")) id (G.flatMap fun r => r.map (·.1)) [] List.nodup_nil
    exact (sortE_perm _ _).nodup_iff.mpr h1) (fun x => by
    obtain ⟨_, h2⟩ := addX_fold (fun l : Lb => !decide (l.1 = Str.ofString "")) id (G.flatMap fun r => r.map (·.1)) [] List.nodup_nil
    rw [(sortE_perm _ _).mem_iff, h2]
    simp only [List.not_mem_nil, false_or, List.mem_flatMap, List.mem_map, id, evq]
    constructor
    · rintro ⟨l, ⟨r, hr, y, hy, rfl⟩, h, rfl⟩
      exact ⟨r, hr, y, hy, h, rfl⟩
    · rintro ⟨r, hr, y, hy, h, rfl⟩
      exact ⟨y.1, ⟨r, hr, y, hy, rfl⟩, h, rfl⟩)
  have gg := cc.g
  have hn := gg.le.1
  obtain ⟨F, eb0, eb1, hF1, hF2, hev⟩ := events_ok (G := G) (gg.hc cc.co cc.ok) gg.hb
  obtain ⟨Fm, c⟩ := c0 F hF1 hF2
  generalize hE : (sortE dL F).filter (fun l => decide (l.1 ∈ seen)) = E at c
  have hEl : E.length ≤ 10000 := by
    refine Nat.le_trans (c.nd.length_le_of_subset fun a ha => ?_) gg.hb
    obtain ⟨r, hr, y, hy, e⟩ := ((c.mem a).mp ha).2
    exact List.mem_flatMap.mpr ⟨r, hr, List.mem_map.mpr ⟨y, hy, e⟩⟩
  let W (S : List Nat) : Bool := S.all fun s => decide (s ∈ sec)
  have main : wp b__law_secret (enter [true, true, true, true] [.dat (dT (dT dS) G), so, .dat (dA dX seen), .dat (.int 3000)] ++ List.replicate 7 .un) fun out e => ∃ (d : PyData) (a b cc : O) (tl : Ev), AnsC G seen E sec d ∧ out = .rt (.dat d) ∧ e = .par a :: .par so :: .par b :: .par cc :: tl := by
    show wp b__law_secret [.par (.dat (dT (dT dS) G)), .par so, .par (.dat (dA dX seen)), .par (.dat (.int 3000)), .un, .un, .un, .un, .un, .un, .un] _
    unfold b__law_secret
    let E0 (a b q w : Sl) : Ev := [.par (.dat (dT (dT dS) G)), .par so, .par (.dat (dA dX seen)), .par (.dat (.int 3000)), a, b, q, w, .un, .un, .un]
    have it0 : mItA (mCall f__law_events (mALend 0 (mAVal (mFz (mLst mNil)) mANil))) (E0 .un .un .un .un) = some ((sortE dL F).map dL, E0 .un .un .un .un) := by
      have : (mCall f__law_events (mALend 0 (mAVal (mFz (mLst mNil)) mANil))) (E0 .un .un .un .un) = some (oL dL (sortE dL F), E0 .un .un .un .un) := by
        rw [e_call, e_alend, e_aval]
        have q : mFz (mLst mNil) (E0 .un .un .un .un) = some (.dat (.list []), E0 .un .un .un .un) := rfl
        rw [q]
        simp [E0, hev]
      rw [e_ita, this, e_bind, data_oL]
      rfl
    have lc : lcL [5] (tgN 5) (mTru oBool (mOpP inA (mQ (qIx (qN 5) (qC (.int 0)))) (mPk 2))) (mNm 5) ((sortE dL F).map dL) (E0 .un .un .un .un) = some (((sortE dL F).filter fun l => decide (l.1 ∈ seen)).map fun l => .dat (dL l), E0 .un .un .un .un) := by
      refine lcL_map _ _ _ fun l hl => ?_
      have ni := inA_of gX (by omega) (ad_dA seen) (i_dA seen) l.1
      exact ⟨E0 .un (.var (.dat (dL l))) .un .un, E0 .un (.var (.dat (dL l))) .un .un, rfl, by simp [E0, ni], fun _ => rfl, fun _ => ⟨_, rfl, rfl⟩⟩
    rw [hE] at lc
    have lcr : mLc [5] (mItA (mCall f__law_events (mALend 0 (mAVal (mFz (mLst mNil)) mANil)))) (tgN 5) (mTru oBool (mOpP inA (mQ (qIx (qN 5) (qC (.int 0)))) (mPk 2))) (mNm 5) (E0 .un .un .un .un) = some (oL dL E, E0 .un .un .un .un) := lc_eq it0 lc (by rw [List.length_map]; omega)
    refine wp_seq (wp_of (a := .nx) (e := E0 (.var (oL dL E)) .un .un .un) (by rw [e_asg]; show (mLc _ _ _ _ _ (E0 .un .un .un .un)).bind _ = _; rw [lcr]; rfl) ?_)
    obtain ⟨ub0, ub2, hu⟩ := unseen_ok (G := G) (seen := seen) (S := [0]) (o := .dat (dA dN [0])) gg.to (by omega) rfl (by simp) (fun s hs => by rw [List.mem_singleton.mp hs]; exact gg.pos)
    have hu : f__law_unseen [.dat (dT (dT dS) G), .dat (.list [.int 0]), .dat (dA dX seen)] = _ := hu
    refine wp_seq (wp_of (a := .nx) (e := E0 (.var (.dat (dA dL E))) .un (.var (oL (dT dN) [cl (UR (uns seen) G) G.length [0]])) .un) (by
      have fr : frzE 4 (E0 (.var (oL dL E)) .un .un .un) = some (E0 (.var (.dat (dA dL E))) .un .un .un) := by
        rw [← data_oL]; rfl
      have dl : O.data (.lst [.dat (.int 0)]) = .list [.int 0] := rfl
      rw [e_frS, fr, e_bind]
      simp [E0, dl, hu, oL]) ?_)
    refine wp_seq (wp_of (a := .nx) (e := dSe G so seen E .un (QsC G seen E 0) .un .un .un) rfl ?_)
    have hr3 : mRng1 (mNm 3) (dSe G so seen E .un (QsC G seen E 0) .un .un .un) = some ((List.range 3000).map dN, dSe G so seen E .un (QsC G seen E 0) .un .un .un) := rng_eq rfl (by omega)
    refine wp_seq (wp_forR hr3 (fun k e => k ≤ 18 ∧ (∀ i, i < k → ∀ x : List Nat × List Lb, (QsC G seen E k)[i]? = some x → W x.1 = false) ∧ e = dSe G so seen E .un (QsC G seen E k) .un .un .un) ⟨Nat.zero_le _, fun i hi => absurd hi (Nat.not_lt_zero _), rfl⟩ ?_ ?_)
    · rintro e ⟨h18, _, _⟩
      omega
    · rintro k e hk ⟨h18, hW, rfl⟩
      have hQl := c.len k
      generalize hQ : QsC G seen E k = Q at *
      refine ⟨dSe G so seen E .un Q (.var (.dat (dN k))) .un .un, rfl, ?_⟩
      have st : (mTru oBool (mOp geD (mNm 8) (mC1 lenO (mPk 6)))) (dSe G so seen E .un Q (.var (.dat (dN k))) .un .un) = some (decide ((Q.length : Int) ≤ k), dSe G so seen E .un Q (.var (.dat (dN k))) .un .un) := by
        simp [dSe, dN]
      by_cases hb : Q.length ≤ k
      · have so6 : sortedO (oL (dT dN) (Q.map (·.1))) = some (oL (dT dN) (sortE (dT dN) (Q.map (·.1)))) := sorted_oL (srt_T fun S hS => by
          obtain ⟨x, hx, rfl⟩ := List.mem_map.mp hS
          exact c.ne k x (by rw [hQ]; exact hx))
        refine wp_seq (wp_of (a := .rt (.dat (keptD Q))) (e := dSe G so seen E .un Q (.var (.dat (dN k))) .un .un) (by
          rw [e_ifs, st, e_bind, if_pos (by simp; omega)]
          simp [dSe, so6, keptD]) ?_)
        refine ⟨keptD Q, _, _, _, _, ?_, rfl, rfl⟩
        rw [← hQ]
        refine .kept k ⟨by rw [show Qs E (nx G seen) (cl (UR (uns seen) G) G.length [0]) k = Q from hQ]; exact hb, fun x hx => ?_⟩
        rw [show Qs E (nx G seen) (cl (UR (uns seen) G) G.length [0]) k = Q from hQ] at hx
        obtain ⟨i, hi, e⟩ := List.getElem_of_mem hx
        exact hW i (by omega) x (by rw [List.getElem?_eq_getElem hi, e])
      · refine wp_seq (wp_of (a := .nx) (e := dSe G so seen E .un Q (.var (.dat (dN k))) .un .un) (by rw [e_ifs, st, e_bind, if_neg (by simp; omega)]; rfl) ?_)
        obtain ⟨⟨S, w⟩, hSw, hk2⟩ := pick (l := Q) (r := k) (by omega)
        have okS := c.all k (S, w) (by rw [hQ]; exact hSw)
        have hSn : S.length ≤ 17 := Nat.le_trans (nodup_lt okS.2.1 okS.2.2) hn
        have itS : mItA (mQ (qIx (qN 6) (qN 8))) (dSe G so seen E .un Q (.var (.dat (dN k))) .un .un) = some (S.map dN, dSe G so seen E .un Q (.var (.dat (dN k))) .un .un) := by
          have : mQ (qIx (qN 6) (qN 8)) (dSe G so seen E .un Q (.var (.dat (dN k))) .un .un) = some (.dat (dT dN S), dSe G so seen E .un Q (.var (.dat (dN k))) .un .un) := by simp [dSe, hk2]
          rw [e_ita, this]
          rfl
        have lcS : lcL [9] (tgN 9) (mTru oBool (mOpP ninA (mNm 9) (mPk 1))) (mNm 9) (S.map dN) (dSe G so seen E .un Q (.var (.dat (dN k))) .un .un) = some ((S.filter fun s => !decide (s ∈ sec)).map fun s => .dat (dN s), dSe G so seen E .un Q (.var (.dat (dN k))) .un .un) := by
          refine lcL_map _ _ _ fun s hs => ?_
          have ni := ninA_of gN (by omega) hsa hso s
          exact ⟨dSe G so seen E .un Q (.var (.dat (dN k))) (.var (.dat (dN s))) .un, dSe G so seen E .un Q (.var (.dat (dN k))) (.var (.dat (dN s))) .un, rfl, by simp [dSe, ni], fun _ => rfl, fun _ => ⟨_, rfl, rfl⟩⟩
        have lcS2 : mLc [9] (mItA (mQ (qIx (qN 6) (qN 8)))) (tgN 9) (mTru oBool (mOpP ninA (mNm 9) (mPk 1))) (mNm 9) (dSe G so seen E .un Q (.var (.dat (dN k))) .un .un) = some (oL dN (S.filter fun s => !decide (s ∈ sec)), dSe G so seen E .un Q (.var (.dat (dN k))) .un .un) := lc_eq itS lcS (by rw [List.length_map]; have := List.length_filter_le (fun s => !decide (s ∈ sec)) S; omega)
        have hz : decide ((S.filter fun s => !decide (s ∈ sec)).length = 0) = W S := by
          show _ = S.all fun s => decide (s ∈ sec)
          by_cases hall : S.all (fun s => decide (s ∈ sec)) = true
          · rw [hall, decide_eq_true_iff, List.length_eq_zero_iff, List.filter_eq_nil_iff]
            intro s hs
            have := List.all_eq_true.mp hall s hs
            simpa using this
          · have : S.all (fun s => decide (s ∈ sec)) = false := by simpa using hall
            rw [this, decide_eq_false_iff_not, List.length_eq_zero_iff, List.filter_eq_nil_iff]
            intro z
            refine hall (List.all_eq_true.mpr fun s hs => ?_)
            have := z s hs
            simpa using this
        have eq0 : eqD (.int ((S.filter fun s => !decide (s ∈ sec)).length : Int)) (.int 0) = oB (W S) := by
          rw [← hz]
          exact eqD_of gN (by omega) _ 0
        have tt : (mTru oBool (mOp eqD (mC1 lenO (mLc [9] (mItA (mQ (qIx (qN 6) (qN 8)))) (tgN 9) (mTru oBool (mOpP ninA (mNm 9) (mPk 1))) (mNm 9))) (mC (.int 0)))) (dSe G so seen E .un Q (.var (.dat (dN k))) .un .un) = some (W S, dSe G so seen E .un Q (.var (.dat (dN k))) .un .un) := by
          rw [e_tru, e_op, e_c1, lcS2, e_bind, len_oL, e_oI, e_map, e_bind, e_c, e_bind, e_data, e_data, eq0]
          rfl
        cases hWS : W S with
        | true =>
          refine wp_seq (wp_of (a := .rt (.dat (toldD w))) (e := dSe G so seen E .un Q (.var (.dat (dN k))) .un .un) (by
            rw [e_ifs, tt, e_bind, if_pos hWS]
            simp [dSe, hk2, toldD]) ?_)
          exact ⟨toldD w, _, _, _, _, .told w ⟨k, k, S, by rw [show Qs E (nx G seen) (cl (UR (uns seen) G) G.length [0]) k = Q from hQ]; exact hk2, hWS, fun i hi x hx => hW i hi x (by rw [show Qs E (nx G seen) (cl (UR (uns seen) G) G.length [0]) k = Q from hQ] at hx; exact hx)⟩, rfl, rfl⟩
        | false =>
          refine wp_seq (wp_of (a := .nx) (e := dSe G so seen E .un Q (.var (.dat (dN k))) .un .un) (by rw [e_ifs, tt, e_bind, if_neg (by rw [hWS]; simp)]; rfl) ?_)
          have hww := (c.word k (S, w) (by rw [hQ]; exact hSw))
          have lp := forL_fold (f := dL) (St := fun Q => dSe G so seen E .un Q (.var (.dat (dN k))) .un .un) (t := tgN 5) (b := (mSeq (mAsg 10 (mCall f__law_seen_by (mALend 0 (mAVal (mQ (qIx (qN 6) (qN 8))) (mALend 5 (mALend 2 mANil))))))
  (mIfS (mAnd (mTru oBool (mOp gtD (mC1 lenO (mPk 10)) (mC (.int 0)))) (mTru oBool (mOpP ninA (mNm 10) (mPk 6)))) (mSeq (mEx (mMet "list" (lN 6) (mCons (mNm 10) mNil) fAppend))
  (mEx (mMet "list" (lN 7) (mCons (mOp addD (mQ (qIx (qN 7) (qN 8))) (mTup (mDCons (mNm 5) mDNil))) mNil) fAppend))) mNx)))
            (addQ (nx G seen) S w) (fun Q => Q[k]? = some (S, w) ∧ (Q.map (·.1)).Nodup ∧ ∀ x ∈ Q, Ok1 G Fm x.1) E (fun Q' ⟨p1, p2, p3⟩ ev hev => by
              have hQ' : Q'.length ≤ 18 := by
                have := p2.length_le_of_subset (l₂ := Fm) fun T hT => by
                  obtain ⟨x, hx, rfl⟩ := List.mem_map.mp hT
                  exact (p3 x hx).1
                rw [List.length_map] at this
                have := c.f18
                omega
              obtain ⟨t, ht⟩ := secret_turn c (so := so) (Q := Q') (k := k) (S := S) (w := w) (ev := ev) okS.2.2 p1 (by omega) (by have := hww.1; simp only at this; omega) rfl
              refine ⟨⟨pre_at (addQ_pre S w Q' ev) p1, foldQ_nd S w [ev] Q' p2, fun x hx => foldQ_all (P := Ok1 G Fm) w [ev] (fun e he hne => c.okn S okS e (by rw [List.mem_singleton.mp he]; exact hev) hne) Q' p3 x hx⟩, dSe G so seen E (.var (.dat (dL ev))) Q' (.var (.dat (dN k))) .un .un, _, rfl, ht, rfl⟩) Q ⟨hk2, by rw [← hQ]; exact Qs_nd k, fun x hx => c.all k x (by rw [hQ]; exact hx)⟩
          have it4 : mItA (mMv 4) (dSe G so seen E .un Q (.var (.dat (dN k))) .un .un) = some (E.map dL, dSe G so seen E .un Q (.var (.dat (dN k))) .un .un) := rfl
          have hnext : QsC G seen E (k + 1) = E.foldl (addQ (nx G seen) S w) Q := by
            show expQ E (nx G seen) (Qs E (nx G seen) (cl (UR (uns seen) G) G.length [0]) k) k = _
            rw [show Qs E (nx G seen) (cl (UR (uns seen) G) G.length [0]) k = Q from hQ]
            unfold expQ
            rw [hk2]
          refine wp_of (a := .nx) (e := dSe G so seen E .un (QsC G seen E (k + 1)) (.var (.dat (dN k))) .un .un) (by rw [e_for, it4, e_bind, hnext]; exact lp.1) ?_
          refine ⟨by omega, fun i hi x hx => ?_, rfl⟩
          have hpre : Q <+: QsC G seen E (k + 1) := by rw [← hQ]; exact Qs_next k
          have hx' := pre_back hpre (by omega) hx
          by_cases e : i = k
          · subst e
            rw [hk2] at hx'
            cases hx'
            exact hWS
          · exact hW i (by omega) x hx'
  obtain ⟨r, bs, h4, d, b0, b2, b3, h1, rfl, rfl⟩ := run_wp (ks := [true, true, true, true]) (l := 7) (R := fun r bs => ∃ (d : PyData) (b0 b2 b3 : Option O), AnsC G seen E sec d ∧ r = .dat d ∧ bs = [b0, some so, b2, b3]) rfl
    (main.mono (by rintro out e ⟨d, a, b, cc, tl, h1, rfl, rfl⟩; exact ⟨d, some a, some b, some cc, h1, rfl, rfl⟩))
  exact ⟨E, Fm, d, b0, b2, b3, c, h1, h4⟩
end
end K78
set_option Elab.async false
set_option linter.all false
set_option maxRecDepth 100000
/-! K15: kept_secret. -/
namespace K78
open PySem PySem.Spec PyProof.Rows L2 Z SX
def SecO (sec : List Nat) (so : O) : Prop := so = oL dN sec ∨ so = .dat (dT dN sec)
theorem SecO.it {sec : List Nat} {so : O} (h : SecO sec so) : items so = some (sec.map dN) := by
  rcases h with rfl | rfl
  · exact i_oL sec
  · rfl
theorem wi_call {ev : Ev} {i : Nat} {S sec : List Nat} {so : O} (hi : ev[i]? = some (.var (.dat (dT dN S)))) (h1 : ev[1]? = some (.par so)) (hso : SecO sec so) :
    (mCall f_within (mALend i (mALend 1 mANil))) ev = some (.dat (.bool (S.all fun s => decide (s ∈ sec))), ev) := by
  have w := within_ok (S := S) hso.it
  have h1l : 1 < ev.length := (List.getElem?_eq_some_iff.mp h1).1
  rcases hso with rfl | rfl
  · have ho : oL dN sec = .lst (sec.map fun a => .dat (dN a)) := rfl
    have hset : (ev.set 1 .un).set 1 (.par (oL dN sec)) = ev := by
      rw [List.set_set]
      have := List.set_getElem_self (as := ev) (i := 1) h1l
      have e := (List.getElem?_eq_some_iff.mp h1).2
      rw [e] at this
      exact this
    have hget : ev.getD 1 .un = .par (oL dN sec) := by rw [List.getD_eq_getElem?_getD, h1]; rfl
    have m : (mALend i (mALend 1 mANil)) ev = some ([.inr (.dat (dT dN S)), .inl 1], ev) := by
      rw [e_alend, hi, e_alend, h1]
      rfl
    have l : lendAll ([Sum.inr (.dat (dT dN S)), .inl 1] ++ ([] : List PyData).map fun d => .inr (.dat d)) ev = some ([.dat (dT dN S), oL dN sec], ev.set 1 .un) := by
      show lendAll [Sum.inr (.dat (dT dN S)), .inl 1] ev = _
      rw [e_lendr, e_lendl, h1]
      rfl
    rw [e_call, m, e_bind, l, e_bind, w, e_map]
    show some (_, giveAll [Sum.inr (.dat (dT dN S)), .inl 1] [some (.dat (dT dN S)), some (oL dN sec)] ev (ev.set 1 .un)) = _
    rw [e_giver, e_givel, e_give0, hget, e_sput2, hset]
  · have m : (mALend i (mALend 1 mANil)) ev = some ([.inr (.dat (dT dN S)), .inr (.dat (dT dN sec))], ev) := by
      rw [e_alend, hi, e_alend, h1]
      rfl
    rw [e_call, m, e_bind]
    show ((some ([O.dat (dT dN S), .dat (dT dN sec)], ev)).bind fun q => (f_within q.1).map fun z => (z.1, giveAll _ z.2 ev q.2)) = _
    rw [e_bind, w, e_map]
    rfl
def vW : List Lb → O := fun w => .dat (dT dL w)
def dK (gd : PyData) (so : O) (sd : PyData) (qd ld fd : PyData) (met queue : O) (k : Nat) (a b c : Sl) : Ev := [.par (.dat gd), .par so, .par (.dat sd), .var (.dat qd), .var (.dat ld), .var (.dat fd), .var met, .var queue, .var (.dat (dN k)), a, b, c]
def oQ (Q : Qu) : O := oL (dT dN) (Q.map (·.1))
section
variable {evs : List Lb} {G : List (List (Lb × Nat))} {seen : List Str} {E : List Lb} {Fm : List (List Nat)} {sec : List Nat}
theorem kept_ok (c : Cx2 evs G seen E Fm) {i1 i2 : List Lb} {so : O} (hso : SecO sec so) {sd : PyData} (hsd : SeenO seen sd) :
    ∃ (d : PyData) (b0 b2 : Option O), AnsC G seen E sec d ∧ f_kept_secret [.dat (dG i1 i2 G), so, .dat sd] = some (.dat d, [b0, some so, b2]) := by
  have gg := c.g
  have hn := gg.le.1
  obtain ⟨tr, sb0, sb1, ht1, ht2, hsp⟩ := split_ok (G := G) hsd (by omega) (fun r m => by have := gg.le.2 r m; omega)
  have hQT := ToQ_of gg.to ht1 ht2
  have hQl : (tr.map (·.2.1)).length = G.length := by rw [List.length_map, ← ht1, List.length_map]
  obtain ⟨pb0, pb1, hpr⟩ := spread_ok (S := [0]) hQT (by omega) (fun s hs => by rw [List.mem_singleton.mp hs, hQl]; exact gg.pos)
  rw [cl_QR ht1 ht2 c.hq] at hpr
  let first := cl (UR (uns seen) G) G.length [0]
  let W (S : List Nat) : Bool := S.all fun s => decide (s ∈ sec)
  let gd := dG i1 i2 G
  let qd := dA (dA dN) (tr.map (·.2.1))
  let ld := dA (dD dL (dA dN)) (tr.map (·.2.2))
  let K (Q : Qu) (queue : O) (k : Nat) (a b cc : Sl) : Ev := dK gd so sd qd ld (dT dN first) (oD kT vW Q) queue k a b cc
  have main : wp b_kept_secret (enter [true, true, true] [.dat gd, so, .dat sd] ++ List.replicate 9 .un) fun out e => ∃ (d : PyData) (a b : O) (tl : Ev), AnsC G seen E sec d ∧ out = .rt (.dat d) ∧ e = .par a :: .par so :: .par b :: tl := by
    show wp b_kept_secret [.par (.dat gd), .par so, .par (.dat sd), .un, .un, .un, .un, .un, .un, .un, .un, .un] _
    unfold b_kept_secret
    refine wp_seq (wp_of (a := .nx) (e := [.par (.dat gd), .par so, .par (.dat sd), .var (.dat qd), .var (.dat ld), .un, .un, .un, .un, .un, .un, .un]) (by
      have q : mQ (qIx (qN 0) (qC (.int 3))) [.par (.dat gd), .par so, .par (.dat sd), .un, .un, .un, .un, .un, .un, .un, .un, .un] = some (.dat (dT (dT dS) G), [.par (.dat gd), .par so, .par (.dat sd), .un, .un, .un, .un, .un, .un, .un, .un, .un]) := by simp [gd, dG]
      rw [e_asgT, e_call, e_aval, q]
      simp [hsp, qd, ld]) ?_)
    have hpr' : f_spread [.dat qd, .dat (.list [.int 0])] = some (.dat (dT dN first), [pb0, pb1]) := hpr
    have dl : O.data (.lst [.dat (.int 0)]) = .list [.int 0] := rfl
    refine wp_seq (wp_of (a := .nx) (e := [.par (.dat gd), .par so, .par (.dat sd), .var (.dat qd), .var (.dat ld), .var (.dat (dT dN first)), .un, .un, .un, .un, .un, .un]) (by simp [dl, hpr']) ?_)
    have w0 := wi_call (ev := [.par (.dat gd), .par so, .par (.dat sd), .var (.dat qd), .var (.dat ld), .var (.dat (dT dN first)), .un, .un, .un, .un, .un, .un]) (i := 5) (S := first) (sec := sec) rfl rfl hso
    have t0 : (mTru oTru (mCall f_within (mALend 5 (mALend 1 mANil)))) [.par (.dat gd), .par so, .par (.dat sd), .var (.dat qd), .var (.dat ld), .var (.dat (dT dN first)), .un, .un, .un, .un, .un, .un] = some (W first, [.par (.dat gd), .par so, .par (.dat sd), .var (.dat qd), .var (.dat ld), .var (.dat (dT dN first)), .un, .un, .un, .un, .un, .un]) := by
      rw [e_tru, w0, e_bind, e_otrub, e_map]
    cases hW0 : W first with
    | true =>
      refine wp_seq (wp_of (a := .rt (.dat (toldD []))) (e := [.par (.dat gd), .par so, .par (.dat sd), .var (.dat qd), .var (.dat ld), .var (.dat (dT dN first)), .un, .un, .un, .un, .un, .un]) (by
        rw [e_ifs, t0, e_bind, if_pos hW0]
        rfl) ?_)
      exact ⟨toldD [], _, _, _, .told [] ⟨0, 0, first, rfl, hW0, fun i hi => absurd hi (Nat.not_lt_zero _)⟩, rfl, rfl⟩
    | false =>
      refine wp_seq (wp_of (a := .nx) (e := [.par (.dat gd), .par so, .par (.dat sd), .var (.dat qd), .var (.dat ld), .var (.dat (dT dN first)), .un, .un, .un, .un, .un, .un]) (by rw [e_ifs, t0, e_bind, if_neg (by rw [hW0]; simp)]; rfl) ?_)
      refine wp_seq (wp_of (a := .nx) (e := K (QsC G seen E 0) (oQ (QsC G seen E 0)) 0 .un .un .un) (by
        have n5 : ∀ a b cc, mNm 5 [.par (.dat gd), .par so, .par (.dat sd), .var (.dat qd), .var (.dat ld), .var (.dat (dT dN first)), a, b, cc, .un, .un, .un] = some (.dat (dT dN first), [.par (.dat gd), .par so, .par (.dat sd), .var (.dat qd), .var (.dat ld), .var (.dat (dT dN first)), a, b, cc, .un, .un, .un]) := fun _ _ _ => rfl
        have d1 : mDct1 (mNm 5) (mTup mDNil) [.par (.dat gd), .par so, .par (.dat sd), .var (.dat qd), .var (.dat ld), .var (.dat (dT dN first)), .un, .un, .un, .un, .un, .un] = some (oD kT vW [(first, [])], [.par (.dat gd), .par so, .par (.dat sd), .var (.dat qd), .var (.dat ld), .var (.dat (dT dN first)), .un, .un, .un, .un, .un, .un]) := by
          unfold mDct1
          rw [n5, e_bind]
          show ((some (O.dat (.tuple []), _)).bind fun q => (nkD (dT dN first)).bind fun k => if okKey ([] : List (NestedKey × O)) k = true then some (O.dct [(k, q.1)], q.2) else none) = _
          rw [e_bind, gkT.nk, e_bind, if_pos (gkT.ok [] (fun p hp => by cases hp) first)]
          rfl
        rw [e_par, e_cons, d1, e_bind, e_cons]
        rfl) ?_)
      refine wp_seq ((wp_while (Q := fun out e => (∃ (d : PyData) (a b : O) (tl : Ev), AnsC G seen E sec d ∧ out = .rt (.dat d) ∧ e = .par a :: .par so :: .par b :: tl) ∨ ∃ k, (QsC G seen E k).length ≤ k ∧ (∀ x ∈ QsC G seen E k, W x.1 = false) ∧ out = .nx ∧ e = K (QsC G seen E k) (oQ (QsC G seen E k)) k .un .un .un)
        (I := fun m e => ∃ k, k ≤ 18 ∧ m = 18 - k ∧ (∀ x ∈ QsC G seen E k, W x.1 = false) ∧ e = K (QsC G seen E k) (oQ (QsC G seen E k)) k .un .un .un) 18 ⟨0, by omega, rfl, fun x hx => by rw [List.mem_singleton.mp hx]; exact hW0, rfl⟩ ?_).mono ?_)
      · rintro m e ⟨k, hk18, rfl, hW, rfl⟩
        have hQl2 := c.len k
        have hQS : Qs E (nx G seen) (cl (UR (uns seen) G) G.length [0]) k = QsC G seen E k := rfl
        generalize hQ : QsC G seen E k = Q at *
        have tt : (mTru oBool (mOp ltD (mNm 8) (mC1 lenO (mPk 7)))) (K Q (oQ Q) k .un .un .un) = some (decide ((k : Int) < Q.length), K Q (oQ Q) k .un .un .un) := by
          simp [K, dK, oQ, dN]
        refine wp_of tt ?_
        by_cases hb : k < Q.length
        · rw [if_pos (by simp; omega)]
          obtain ⟨⟨S, w⟩, hSw, hk2⟩ := pick (l := Q) (r := k) hb
          have okS := c.all k (S, w) (by rw [hQ]; exact hSw)
          have hww := c.word k (S, w) (by rw [hQ]; exact hSw)
          have hndQ : (Q.map (·.1)).Nodup := by rw [← hQ]; exact Qs_nd k
          have hSl := nodup_lt okS.2.1 okS.2.2
          refine wp_seq (wp_of (a := .nx) (e := K Q (oQ Q) k (.var (.dat (dT dN S))) .un .un) (by simp [K, dK, oQ, hk2]) ?_)
          refine wp_seq (wp_of (a := .nx) (e := K Q (oQ Q) (k + 1) (.var (.dat (dT dN S))) .un .un) (by rfl) ?_)
          obtain ⟨Ks, kb0, kb1, kb2, hK1, hK2, hK3, hst⟩ := set_steps_ok gg.to (by omega) (fun r m => by have := gg.le.2 r m; omega) ht1 ht2 c.hq (gg.hc c.co c.ok) okS.2.2 (by omega) gg.hb
          have hKE : Ks = E.filter fun ev => decide (nx G seen S ev ≠ []) := by
            refine sorted_eq tL ((List.perm_ext_iff_of_nodup hK1 (c.nd.filter _)).mpr fun a => ?_) hK2 (c.so.filter _)
            rw [hK3, List.mem_filter, c.mem, decide_eq_true_eq]
            have hne : nx G seen S a ≠ [] ↔ Tg G S a ≠ [] := by
              constructor
              · exact fun h z => h (by unfold nx; rw [z, cl_nil])
              · intro h
                obtain ⟨t, ht⟩ := List.exists_mem_of_ne_nil _ h
                exact cl_pos (Tg_lt gg.to okS.2.2) ht
            constructor
            · rintro ⟨h1, h2⟩
              refine ⟨⟨h1, ?_⟩, hne.mpr h2⟩
              obtain ⟨t, ht⟩ := List.exists_mem_of_ne_nil _ h2
              obtain ⟨s, _, row, hrow, y, hy, e, _⟩ := (mem_Tg okS.2.2).mp ht
              exact ⟨row, List.mem_of_getElem? hrow, y, hy, e⟩
            · rintro ⟨⟨h1, _⟩, h2⟩
              exact ⟨h1, hne.mp h2⟩
          have it : mItA (mCall f_set_steps (mALend 3 (mALend 4 (mALend 9 mANil)))) (K Q (oQ Q) (k + 1) (.var (.dat (dT dN S))) .un .un) = some ((Ks.map fun ev => (ev, nx G seen S ev)).map dP, K Q (oQ Q) (k + 1) (.var (.dat (dT dN S))) .un .un) := by
            have : (mCall f_set_steps (mALend 3 (mALend 4 (mALend 9 mANil)))) (K Q (oQ Q) (k + 1) (.var (.dat (dT dN S))) .un .un) = some (oL dP (Ks.map fun ev => (ev, nx G seen S ev)), K Q (oQ Q) (k + 1) (.var (.dat (dT dN S))) .un .un) := by
              have hst : f_set_steps [.dat qd, .dat ld, .dat (dT dN S)] = _ := hst
              rw [e_call]
              simp [K, dK, hst]
            have dd : (oL dP (Ks.map fun ev => (ev, nx G seen S ev))).data = .list ((Ks.map fun ev => (ev, nx G seen S ev)).map dP) := data_oL _
            rw [e_ita, this, e_bind, dd]
          have hnext : QsC G seen E (k + 1) = Ks.foldl (addQ (nx G seen) S w) Q := by
            show expQ E (nx G seen) (Qs E (nx G seen) (cl (UR (uns seen) G) G.length [0]) k) k = _
            rw [hQS]
            unfold expQ
            rw [hk2, hKE, foldQ_filter]
          refine (wp_forT it (fun rest e => ∃ done : List Lb, ∃ rs : List Lb, rest = rs.map (fun ev => (ev, nx G seen S ev)) ∧ done ++ rs = Ks ∧ (∀ x ∈ done.foldl (addQ (nx G seen) S w) Q, W x.1 = false) ∧ e = K (done.foldl (addQ (nx G seen) S w) Q) (oQ (done.foldl (addQ (nx G seen) S w) Q)) (k + 1) (.var (.dat (dT dN S))) .un .un)
            (Q := fun o e2 => match o with
              | .nx => ∃ k1, k1 < 18 - k ∧ ∃ k', k' ≤ 18 ∧ k1 = 18 - k' ∧ (∀ x ∈ QsC G seen E k', W x.1 = false) ∧ mask (K Q (oQ Q) k .un .un .un) e2 = K (QsC G seen E k') (oQ (QsC G seen E k')) k' .un .un .un
              | .ct => False
              | .bk => False
              | .rt r => ∃ (d : PyData) (a b : O) (tl : Ev), AnsC G seen E sec d ∧ r = .dat d ∧ e2 = .par a :: .par so :: .par b :: tl)
            ⟨[], Ks, rfl, rfl, hW, rfl⟩ ?_ ?_).mono ?_
          · rintro e ⟨done, rs, h1, h2, h3, rfl⟩
            have : rs = [] := by cases rs with
              | nil => rfl
              | cons _ _ => cases h1
            subst this
            rw [List.append_nil] at h2
            subst h2
            refine ⟨18 - (k + 1), by omega, k + 1, by omega, rfl, by rw [hnext]; exact h3, ?_⟩
            rw [hnext]
            rfl
          · rintro p rest e ⟨done, rs, h1, h2, h3, rfl⟩
            cases rs with
            | nil => cases h1
            | cons ev rs =>
              rw [List.map_cons] at h1
              injection h1 with h1 h1'
              subst h1
              have hevK : ev ∈ Ks := by rw [← h2]; simp
              have hevE : ev ∈ E := by rw [hKE] at hevK; exact (List.mem_filter.mp hevK).1
              have hne : nx G seen S ev ≠ [] := by rw [hKE] at hevK; simpa using (List.mem_filter.mp hevK).2
              have hstep : (done ++ [ev]).foldl (addQ (nx G seen) S w) Q = addQ (nx G seen) S w (done.foldl (addQ (nx G seen) S w) Q) ev := by rw [List.foldl_append]; rfl
              have hpre1 : Q <+: done.foldl (addQ (nx G seen) S w) Q := foldQ_pre S w done Q
              have hnd1 : ((done.foldl (addQ (nx G seen) S w) Q).map (·.1)).Nodup := foldQ_nd S w done Q hndQ
              have hpre2 : (done ++ [ev]).foldl (addQ (nx G seen) S w) Q <+: QsC G seen E (k + 1) := by
                rw [hnext, ← h2]
                have : done ++ ev :: rs = (done ++ [ev]) ++ rs := by simp
                rw [this, List.foldl_append (l := done ++ [ev])]
                exact foldQ_pre S w rs _
              rw [hstep] at hpre2
              generalize hQ1 : done.foldl (addQ (nx G seen) S w) Q = Q1 at *
              have hl1 : Q1.length ≤ 18 := Nat.le_trans (((addQ_pre S w Q1 ev).trans hpre2).length_le) (c.len (k + 1))
              have hSQ1 : lk Q1 S = some w := lookup_of_mem hnd1 (p := (S, w)) (hpre1.subset hSw)
              refine ⟨K Q1 (oQ Q1) (k + 1) (.var (.dat (dT dN S))) (.var (.dat (dL ev))) (.var (.dat (dT dN (nx G seen S ev)))), rfl, ?_⟩
              have ni := d_nin (vf := vW) gkT Q1 (nx G seen S ev)
              have t1 : (mTru oBool (mOpP ninA (mNm 11) (mPk 6))) (K Q1 (oQ Q1) (k + 1) (.var (.dat (dT dN S))) (.var (.dat (dL ev))) (.var (.dat (dT dN (nx G seen S ev))))) = some (!decide (nx G seen S ev ∈ Q1.map (·.1)), K Q1 (oQ Q1) (k + 1) (.var (.dat (dT dN S))) (.var (.dat (dL ev))) (.var (.dat (dT dN (nx G seen S ev))))) := by
                have n11 : mNm 11 (K Q1 (oQ Q1) (k + 1) (.var (.dat (dT dN S))) (.var (.dat (dL ev))) (.var (.dat (dT dN (nx G seen S ev))))) = some (.dat (dT dN (nx G seen S ev)), K Q1 (oQ Q1) (k + 1) (.var (.dat (dT dN S))) (.var (.dat (dL ev))) (.var (.dat (dT dN (nx G seen S ev))))) := rfl
                have p6 : mPk 6 (K Q1 (oQ Q1) (k + 1) (.var (.dat (dT dN S))) (.var (.dat (dL ev))) (.var (.dat (dT dN (nx G seen S ev))))) = some (oD kT vW Q1, K Q1 (oQ Q1) (k + 1) (.var (.dat (dT dN S))) (.var (.dat (dL ev))) (.var (.dat (dT dN (nx G seen S ev))))) := rfl
                rw [e_tru, e_opP, n11, e_bind, p6, e_bind, e_data, ni, e_oB, e_map, e_bind, e_obool, e_map]
                exact congrArg some (Prod.ext (congrArg (! ·) (decide_eq_decide.mpr Iff.rfl)) rfl)
              by_cases hin : nx G seen S ev ∈ Q1.map (·.1)
              · have ea : addQ (nx G seen) S w Q1 ev = Q1 := by unfold addQ; rw [if_neg fun z => z.2 hin]
                refine wp_of (a := .nx) (e := K Q1 (oQ Q1) (k + 1) (.var (.dat (dT dN S))) (.var (.dat (dL ev))) (.var (.dat (dT dN (nx G seen S ev))))) (by rw [e_ifs, t1, e_bind, if_neg (by simp only [hin, decide_true]; simp)]; rfl) ?_
                refine ⟨done ++ [ev], rs, h1', by rw [← h2]; simp, ?_, ?_⟩
                · rw [hstep, ea]; exact h3
                · rw [hstep, ea]; rfl
              · have ea : addQ (nx G seen) S w Q1 ev = Q1 ++ [(nx G seen S ev, w ++ [ev])] := by unfold addQ; rw [if_pos ⟨hne, hin⟩]
                refine wp_ifs (wp_of t1 ⟨fun _ => ?_, fun z => absurd z (by simp only [hin, decide_false]; simp)⟩)
                have hq3 : eqD (.int (Q1.length : Int)) (.int 3000) = oB (decide (Q1.length = 3000)) := eqD_of gN (by omega) _ 3000
                have t2 : (mTru oBool (mOp eqD (mC1 lenO (mPk 6)) (mQ (qC (.int 3000))))) (K Q1 (oQ Q1) (k + 1) (.var (.dat (dT dN S))) (.var (.dat (dL ev))) (.var (.dat (dT dN (nx G seen S ev))))) = some (false, K Q1 (oQ Q1) (k + 1) (.var (.dat (dT dN S))) (.var (.dat (dL ev))) (.var (.dat (dT dN (nx G seen S ev))))) := by
                  have h30 : ¬ Q1.length = 3000 := by omega
                  have p6 : mPk 6 (K Q1 (oQ Q1) (k + 1) (.var (.dat (dT dN S))) (.var (.dat (dL ev))) (.var (.dat (dT dN (nx G seen S ev))))) = some (oD kT vW Q1, K Q1 (oQ Q1) (k + 1) (.var (.dat (dT dN S))) (.var (.dat (dL ev))) (.var (.dat (dT dN (nx G seen S ev))))) := rfl
                  have ln : lenO (oD kT vW Q1) = oI Q1.length := by unfold oD; rw [e_len4, List.length_map]
                  rw [e_tru, e_op, e_c1, p6, e_bind, ln, e_oI, e_map, e_bind]
                  show ((some (O.dat (.int 3000), K Q1 (oQ Q1) (k + 1) (.var (.dat (dT dN S))) (.var (.dat (dL ev))) (.var (.dat (dT dN (nx G seen S ev)))))).bind _).bind _ = _
                  rw [e_bind, e_data, e_data, hq3, decide_eq_false h30]
                  rfl
                refine wp_seq (wp_of (a := .nx) (e := K Q1 (oQ Q1) (k + 1) (.var (.dat (dT dN S))) (.var (.dat (dL ev))) (.var (.dat (dT dN (nx G seen S ev))))) (by rw [e_ifs, t2, e_bind, if_neg (by simp)]; rfl) ?_)
                have hadd : addD (dT dL w) (.tuple [dL ev]) = some (.dat (dT dL (w ++ [ev]))) := by
                  have := PySem.sizeLine_eq
                  have hw18 := hww.1
                  simp only at hw18
                  show (if (w.map dL).length + [dL ev].length ≤ sizeLine then some (O.dat (.tuple (w.map dL ++ [dL ev]))) else none) = _
                  rw [if_pos (by rw [List.length_map]; simp; omega)]
                  simp [dT]
                have mv : (mOp addD (mQ (qIx (qN 6) (qN 9))) (mTup (mDCons (mNm 10) mDNil))) (K Q1 (oQ Q1) (k + 1) (.var (.dat (dT dN S))) (.var (.dat (dL ev))) (.var (.dat (dT dN (nx G seen S ev))))) = some (.dat (dT dL (w ++ [ev])), K Q1 (oQ Q1) (k + 1) (.var (.dat (dT dN S))) (.var (.dat (dL ev))) (.var (.dat (dT dN (nx G seen S ev))))) := by
                  have dg := d_get (vf := vW) gkT Q1 S
                  rw [hSQ1] at dg
                  have q69 : mQ (qIx (qN 6) (qN 9)) (K Q1 (oQ Q1) (k + 1) (.var (.dat (dT dN S))) (.var (.dat (dL ev))) (.var (.dat (dT dN (nx G seen S ev))))) = some (.dat (dT dL w), K Q1 (oQ Q1) (k + 1) (.var (.dat (dT dN S))) (.var (.dat (dL ev))) (.var (.dat (dT dN (nx G seen S ev))))) := by
                    simp [K, dK, dg, vW]
                  have tp : mTup (mDCons (mNm 10) mDNil) (K Q1 (oQ Q1) (k + 1) (.var (.dat (dT dN S))) (.var (.dat (dL ev))) (.var (.dat (dT dN (nx G seen S ev))))) = some (.dat (.tuple [dL ev]), K Q1 (oQ Q1) (k + 1) (.var (.dat (dT dN S))) (.var (.dat (dL ev))) (.var (.dat (dT dN (nx G seen S ev))))) := by
                    simp [K, dK]
                  rw [e_op, q69, e_bind, tp, e_bind, e_data, e_data, hadd, e_map]
                have pu : sAny (oD kT vW Q1) (dT dN (nx G seen S ev)) (vW (w ++ [ev])) = some (oD kT vW (Q1 ++ [(nx G seen S ev, w ++ [ev])])) := d_put gkT hin (w ++ [ev]) (by omega)
                have sto := sto_at (f := sAny) (m := (mOp addD (mQ (qIx (qN 6) (qN 9))) (mTup (mDCons (mNm 10) mDNil)))) (mb := mNm 11) (l := lN 6) (i := 6) (p := []) (t := oD kT vW Q1) (mk := Sl.var) (k := .dat (dT dN (nx G seen S ev))) (n := oD kT vW (Q1 ++ [(nx G seen S ev, w ++ [ev])])) mv rfl rfl rfl rfl rfl pu
                rw [e_putP0] at sto
                let Q2 := Q1 ++ [(nx G seen S ev, w ++ [ev])]
                refine wp_seq (wp_of (a := .nx) (e := K Q2 (oQ Q1) (k + 1) (.var (.dat (dT dN S))) (.var (.dat (dL ev))) (.var (.dat (dT dN (nx G seen S ev))))) sto ?_)
                have wv := wi_call (ev := K Q2 (oQ Q1) (k + 1) (.var (.dat (dT dN S))) (.var (.dat (dL ev))) (.var (.dat (dT dN (nx G seen S ev))))) (i := 11) (S := nx G seen S ev) (sec := sec) rfl rfl hso
                have t3 : (mTru oTru (mCall f_within (mALend 11 (mALend 1 mANil)))) (K Q2 (oQ Q1) (k + 1) (.var (.dat (dT dN S))) (.var (.dat (dL ev))) (.var (.dat (dT dN (nx G seen S ev))))) = some (W (nx G seen S ev), K Q2 (oQ Q1) (k + 1) (.var (.dat (dT dN S))) (.var (.dat (dL ev))) (.var (.dat (dT dN (nx G seen S ev))))) := by
                  rw [e_tru, wv, e_bind, e_otrub, e_map]
                rw [ea] at hpre2
                cases hWt : W (nx G seen S ev) with
                | true =>
                  have dg := d_get (vf := vW) gkT Q2 (nx G seen S ev)
                  have lk2 : lk Q2 (nx G seen S ev) = some (w ++ [ev]) := by
                    show lk (Q1 ++ [(nx G seen S ev, w ++ [ev])]) _ = _
                    rw [lookup_app Q1 _ _ hin, if_pos rfl]
                  rw [lk2] at dg
                  refine wp_seq (wp_of (a := .rt (.dat (toldD (w ++ [ev])))) (e := K Q2 (oQ Q1) (k + 1) (.var (.dat (dT dN S))) (.var (.dat (dL ev))) (.var (.dat (dT dN (nx G seen S ev))))) (by
                    rw [e_ifs, t3, e_bind, if_pos hWt]
                    have q6 : mQ (qIx (qN 6) (qN 11)) (K Q2 (oQ Q1) (k + 1) (.var (.dat (dT dN S))) (.var (.dat (dL ev))) (.var (.dat (dT dN (nx G seen S ev))))) = some (.dat (dT dL (w ++ [ev])), K Q2 (oQ Q1) (k + 1) (.var (.dat (dT dN S))) (.var (.dat (dL ev))) (.var (.dat (dT dN (nx G seen S ev))))) := by
                      simp [K, dK, dg, vW]
                    rw [e_ret, e_tup, e_dcons, e_c, e_bind, e_dcons, q6, e_bind, e_dnil]
                    simp [toldD]) ?_)
                  refine ⟨toldD (w ++ [ev]), _, _, _, .told (w ++ [ev]) ⟨k + 1, Q1.length, nx G seen S ev, ?_, hWt, fun i hi x hx => ?_⟩, rfl, rfl⟩
                  · exact pre_at hpre2 (by rw [List.getElem?_append_right (Nat.le_refl _), Nat.sub_self]; rfl)
                  · have := pre_back hpre2 (by rw [List.length_append]; omega) hx
                    rw [List.getElem?_append_left hi] at this
                    exact h3 x (List.mem_of_getElem? this)
                | false =>
                  refine wp_seq (wp_of (a := .nx) (e := K Q2 (oQ Q1) (k + 1) (.var (.dat (dT dN S))) (.var (.dat (dL ev))) (.var (.dat (dT dN (nx G seen S ev))))) (by rw [e_ifs, t3, e_bind, if_neg (by rw [hWt]; simp)]; rfl) ?_)
                  refine wp_of (ap_own (i := 7) (f := dT dN) (l := Q1.map (·.1)) (a := nx G seen S ev) rfl rfl (by rw [List.length_map]; omega)) ?_
                  refine ⟨done ++ [ev], rs, h1', by rw [← h2]; simp, ?_, ?_⟩
                  · rw [hstep, ea]
                    intro x hx
                    rcases List.mem_append.mp hx with hx | hx
                    · exact h3 x hx
                    · rw [List.mem_singleton.mp hx]; exact hWt
                  · rw [hstep, ea]
                    have : oQ (Q1 ++ [(nx G seen S ev, w ++ [ev])]) = oL (dT dN) (Q1.map (·.1) ++ [nx G seen S ev]) := by unfold oQ; rw [List.map_append]; rfl
                    rw [this]
                    rfl
          · rintro o e2 h
            cases o with
            | nx => exact h
            | ct => exact h.elim
            | bk => exact h.elim
            | rt r =>
              obtain ⟨d, a, b, tl, h1, h2, h3⟩ := h
              exact .inl ⟨d, a, b, tl, h1, by rw [h2], h3⟩
        · rw [if_neg (by simp; omega)]
          exact .inr ⟨k, by rw [hQ]; omega, by rw [hQ]; exact hW, rfl, by rw [hQ]⟩
      · rintro o e (⟨d, a, b, tl, h1, rfl, rfl⟩ | ⟨k, h1, h2, rfl, rfl⟩)
        · exact ⟨d, a, b, tl, h1, rfl, rfl⟩
        · have so6 : sortedO (oD kT vW (QsC G seen E k)) = some (oL (dT dN) (sortE (dT dN) ((QsC G seen E k).map (·.1)))) := d_sorted gkT (srt_T fun S hS => by
            obtain ⟨x, hx, rfl⟩ := List.mem_map.mp hS
            exact c.ne k x hx)
          refine wp_ret (wp_of (a := .dat (keptD (QsC G seen E k))) (e := K (QsC G seen E k) (oQ (QsC G seen E k)) k .un .un .un) (by simp [K, dK, so6, keptD]) ⟨_, _, _, _, .kept k ⟨h1, h2⟩, rfl, rfl⟩)
  obtain ⟨r, bs, h4, d, b0, b2, h1, rfl, rfl⟩ := run_wp (ks := [true, true, true]) (l := 9) (R := fun r bs => ∃ (d : PyData) (b0 b2 : Option O), AnsC G seen E sec d ∧ r = .dat d ∧ bs = [b0, some so, b2]) rfl
    (main.mono (by rintro out e ⟨d, a, b, tl, h1, rfl, rfl⟩; exact ⟨d, some a, some b, h1, rfl, rfl⟩))
  exact ⟨d, b0, b2, h1, h4⟩
end
end K78
set_option Elab.async false
set_option linter.all false
set_option maxRecDepth 100000
/-! K16: what is shown. -/
namespace K78
open PySem PySem.Spec PyProof.Rows L2 Z SX
theorem sh_X {x : Str} (h : Nm x) : Sh (.str x) 0 112 := Sh.str h.as h.le
theorem sh_L {l : Lb} (h : LbOk l) : Sh (dL l) 1 231 := by
  have := Sh.tup (l := [.str l.1, dO l.2]) (k := 0) (b := 112) (n := 2) (fun d hd => by
    simp only [List.mem_cons, List.not_mem_nil, or_false] at hd
    rcases hd with rfl | rfl
    · exact sh_X h.1
    · cases q : l.2 with
      | none => exact Sh.none.mono (Nat.le_refl _) (by omega)
      | some y => exact sh_X (h.2 y q)) (Nat.le_refl _)
  exact this
theorem sh_word (x : String) (h1 : ∀ c ∈ (Str.ofString x).cps.toList, c < 128) (h2 : (Str.ofString x).length ≤ 11) : Sh (.str (Str.ofString x)) 0 112 := Sh.str h1 h2
theorem sh_Q {l : Lb} (h : l = quiet ∨ l = fault) : Sh (dL l) 1 231 := by
  have e1 := sh_word "" (by decide +kernel) (by decide +kernel)
  have e2 := sh_word "quiet" (by decide +kernel) (by decide +kernel)
  have e3 := sh_word "fault" (by decide +kernel) (by decide +kernel)
  rcases h with rfl | rfl
  · exact Sh.tup (l := [.str (Str.ofString ""), .str (Str.ofString "quiet")]) (k := 0) (b := 112) (n := 2) (fun d hd => by
      simp only [List.mem_cons, List.not_mem_nil, or_false] at hd
      rcases hd with rfl | rfl
      · exact e1
      · exact e2) (Nat.le_refl _)
  · exact Sh.tup (l := [.str (Str.ofString ""), .str (Str.ofString "fault")]) (k := 0) (b := 112) (n := 2) (fun d hd => by
      simp only [List.mem_cons, List.not_mem_nil, or_false] at hd
      rcases hd with rfl | rfl
      · exact e1
      · exact e3) (Nat.le_refl _)
section
variable {evs : List Lb} {G : List (List (Lb × Nat))} {seen : List Str} {E : List Lb} {Fm : List (List Nat)} {sec : List Nat}
theorem sh_G (g : Gr evs G) (ok : ∀ e ∈ evs, LbOk e) : Sh (dT (dT dS) G) 4 57000 := by
  have hn := g.le
  refine (Sh.dT (k := 3) (b := 3300) (n := 17) (fun r hr => ?_) hn.1).mono (Nat.le_refl _) (by omega)
  refine (Sh.dT (k := 2) (b := 469) (n := 7) (fun y hy => ?_) (hn.2 r hr)).mono (Nat.le_refl _) (by omega)
  have hl : Sh (dL y.1) 1 231 := by
    rcases g.lab r hr y hy with h | h
    · exact sh_L (ok _ h)
    · exact sh_Q h
  have ht : y.2 < G.length := g.to r hr y hy
  have h0 : y.2 < 100 := Nat.lt_of_lt_of_le ht (Nat.le_trans hn.1 (by decide))
  have h2 : Sh (dN y.2) 1 231 := Sh.mono (Sh.nat h0) (by decide) (by decide)
  exact (Sh.tup (l := [dL y.1, dN y.2]) (k := 1) (b := 231) (n := 2) (fun d hd => by
    simp only [List.mem_cons, List.not_mem_nil, or_false] at hd
    rcases hd with rfl | rfl
    · exact hl
    · exact h2) (Nat.le_refl _)).mono (Nat.le_refl _) (by omega)
theorem Cx2.E_ok (c : Cx2 evs G seen E Fm) {ev : Lb} (h : ev ∈ E) : LbOk ev := by
  obtain ⟨h1, r, hr, y, hy, e⟩ := (c.mem ev).mp h
  subst e
  rcases c.g.lab r hr y hy with h | h | h
  · exact c.ok _ h
  · rw [h] at h1; exact absurd h1 (by simp [lqL, quiet])
  · rw [h] at h1; exact absurd h1 (by simp [lqL, fault])
theorem Cx2.show (c : Cx2 evs G seen E Fm) {d : PyData} (a : AnsC G seen E sec d) : okShow d = true := by
  have e1 := sh_word "told" (by decide +kernel) (by decide +kernel)
  have e2 := sh_word "kept" (by decide +kernel) (by decide +kernel)
  have hn := c.g.le.1
  cases a with
  | told w t =>
    obtain ⟨K, j, S, h1, _, _⟩ := t
    have hw := c.word K (S, w) (List.mem_of_getElem? h1)
    have s1 : Sh (dT dL w) 2 5000 := (Sh.dT (k := 1) (b := 231) (n := 18) (fun ev hev => sh_L (c.E_ok (hw.2 ev hev))) hw.1).mono (Nat.le_refl _) (by omega)
    exact (Sh.tup (l := [.str (Str.ofString "told"), dT dL w]) (k := 2) (b := 5000) (n := 2) (fun d hd => by
      simp only [List.mem_cons, List.not_mem_nil, or_false] at hd
      rcases hd with rfl | rfl
      · exact e1.mono (by omega) (by omega)
      · exact s1) (Nat.le_refl _)).ok_t (by omega) (by omega)
  | kept K k =>
    have pm := sortE_perm (dT dN) ((QsC G seen E K).map (·.1))
    have s1 : Sh (dT (dT dN) (sortE (dT dN) ((QsC G seen E K).map (·.1)))) 2 5000 := (Sh.dT (k := 1) (b := 88) (n := 18) (fun S hS => by
      obtain ⟨x, hx, rfl⟩ := List.mem_map.mp (pm.mem_iff.mp hS)
      have ok := c.all K x hx
      exact (Sh.dT (k := 0) (b := 3) (n := 17) (fun s hs => Sh.nat (by have := ok.2.2 s hs; omega)) (Nat.le_trans (nodup_lt ok.2.1 ok.2.2) hn)).mono (Nat.le_refl _) (by omega)) (by rw [pm.length_eq, List.length_map]; exact c.len K)).mono (Nat.le_refl _) (by omega)
    exact (Sh.tup (l := [.str (Str.ofString "kept"), dT (dT dN) (sortE (dT dN) ((QsC G seen E K).map (·.1)))]) (k := 2) (b := 5000) (n := 2) (fun d hd => by
      simp only [List.mem_cons, List.not_mem_nil, or_false] at hd
      rcases hd with rfl | rfl
      · exact e2.mono (by omega) (by omega)
      · exact s1) (Nat.le_refl _)).ok_t (by omega) (by omega)
theorem show_all (g : Gr evs G) (ok : ∀ e ∈ evs, LbOk e) {i1 i2 : List Lb} (h1 : ∀ d ∈ i1, LbOk d) (h2 : ∀ d ∈ i2, LbOk d) (l1 : i1.length ≤ 3) (l2 : i2.length ≤ 3) (hs : ∀ x ∈ seen, Nm x) (hsl : seen.length ≤ 6) (hc : ∀ s ∈ sec, s < G.length) (hcl : sec.length ≤ 17) :
    okShow (.tuple [dG i1 i2 G, dA dN sec, dA dX seen]) = true := by
  have hn := g.le.1
  have a1 : Sh (dT dL i1) 4 57000 := (Sh.dT (k := 1) (b := 231) (n := 3) (fun d hd => sh_L (h1 d hd)) l1).mono (by omega) (by omega)
  have a2 : Sh (dT dL i2) 4 57000 := (Sh.dT (k := 1) (b := 231) (n := 3) (fun d hd => sh_L (h2 d hd)) l2).mono (by omega) (by omega)
  have a3 : Sh (.str (Str.ofString "graph")) 4 57000 := (sh_word "graph" (by decide +kernel) (by decide +kernel)).mono (by omega) (by omega)
  have a4 := sh_G g ok
  have b1 : Sh (dG i1 i2 G) 5 230000 := (Sh.tup (l := [.str (Str.ofString "graph"), dT dL i1, dT dL i2, dT (dT dS) G]) (k := 4) (b := 57000) (n := 4) (fun d hd => by
    simp only [List.mem_cons, List.not_mem_nil, or_false] at hd
    rcases hd with rfl | rfl | rfl | rfl
    · exact a3
    · exact a1
    · exact a2
    · exact a4) (Nat.le_refl _)).mono (Nat.le_refl _) (by omega)
  have b2 : Sh (dA dN sec) 5 230000 := (Sh.dA (k := 0) (b := 3) (n := 17) (fun s hs => Sh.nat (by have := hc s hs; omega)) hcl).mono (by omega) (by omega)
  have b3 : Sh (dA dX seen) 5 230000 := (Sh.dA (k := 0) (b := 112) (n := 6) (fun x hx => sh_X (hs x hx)) hsl).mono (by omega) (by omega)
  exact (Sh.tup (l := [dG i1 i2 G, dA dN sec, dA dX seen]) (k := 5) (b := 230000) (n := 3) (fun d hd => by
    simp only [List.mem_cons, List.not_mem_nil, or_false] at hd
    rcases hd with rfl | rfl | rfl
    · exact b1
    · exact b2
    · exact b3) (Nat.le_refl _)).ok_t (by omega) (by omega)
end
end K78
set_option Elab.async false
set_option linter.all false
set_option maxRecDepth 100000
/-! K17: the law. -/
namespace K78
open PySem PySem.Spec PyProof.Rows L2 Z SX
section
variable {evs : List Lb} {G : List (List (Lb × Nat))} {seen : List Str} {sec : List Nat}
def dW (sc : O) (os : List O) (nm : O) (drs : PyData) (ro : Sl) (gd : PyData) (seen : List Str) (od : Nat) (sec : List Nat) (t d k : Sl) : Ev := [.par sc, .var (.lst os), .var nm, .var (.dat drs), ro, .var (.dat gd), .var (.dat (dA dX seen)), .un, .var (.dat (dN od)), .var (oL dN sec), .un, t, d, k]
theorem neS (x y : Str) : neD (.str x) (.str y) = oB (!decide (x = y)) := neX x y
theorem erase_map {α β : Type} (f : α → β) : ∀ (l : List α) (r : Nat), (l.map f).eraseIdx r = (l.eraseIdx r).map f
  | [], _ => rfl
  | _ :: _, 0 => rfl
  | a :: l, r + 1 => by rw [List.map_cons, List.eraseIdx_cons_succ, List.eraseIdx_cons_succ, List.map_cons, erase_map f l r]
/-- a turn of the law -/
theorem law_turn (g : Gr evs G) (co : Co evs) (ok : ∀ e ∈ evs, LbOk e) {i1 i2 : List Lb} (h1 : ∀ d ∈ i1, LbOk d) (h2 : ∀ d ∈ i2, LbOk d) (l1 : i1.length ≤ 3) (l2 : i2.length ≤ 3) (hs : ∀ x ∈ seen, Nm x) (hsl : seen.length ≤ 6)
    {sc nm : O} {os : List O} {drs : PyData} {ro : Sl} {od : Nat} (hk : Dk os) (hc : ∀ s ∈ sec, s < G.length) (hcl : sec.length ≤ 17) {t : Sl} {e : Ev} (he : e = dW sc os nm drs ro (dG i1 i2 G) seen od sec t .un .un) :
    wp (mSeq (mAsg 12 (mCall f__law_secret (mAVal (mQ (qIx (qN 5) (qC (.int 3)))) (mALend 9 (mALend 6 (mAVal (mC (.int 3000)) mANil))))))
  (mSeq (mAsg 13 (mReprT (qCons (qN 5) (qCons (qN 9) (qCons (qN 6) qNil)))))
  (mSeq (mIfS (mOr (mTru oBool (mOp neD (mC1 reprO (mCall f_kept_secret (mALend 5 (mALend 9 (mAVal (mC1 tupO (mPk 6)) mANil))))) (mC1 reprO (mPk 12)))) (mTru oBool (mOp neD (mReprT (qCons (qN 5) (qCons (qN 9) (qCons (qN 6) qNil)))) (mNm 13)))) (mRet (mC (.bool false))) mNx)
  (mSeq (mIfS (mTru oBool (mOp neD (mC1 reprO (mCall f_kept_secret (mALend 5 (mAVal (mC1 tupO (mPk 9)) (mALend 6 mANil))))) (mC1 reprO (mPk 12)))) (mRet (mC (.bool false))) mNx)
  (mIfS (mTru oBool (mOp gtD (mC1 lenO (mPk 9)) (mC (.int 0)))) (mEx (mMet "list" (lN 9) (mCons (mCall f__law_draw (mALend 1 (mAVal (mC1 lenO (mPk 9)) mANil))) mNil) fPop)) mNx))))) e
    fun o e => ∃ os' sec' d k, Dk os' ∧ (∀ s ∈ sec', s < G.length) ∧ sec'.length ≤ 17 ∧ o = .nx ∧ e = dW sc os' nm drs ro (dG i1 i2 G) seen od sec' t d k := by
  subst he
  have hq : Str.ofString "" ∉ seen := fun z => nm_ne (hs _ z) rfl
  obtain ⟨E, Fm, d, b0, b2, b3, c, hA, hsec⟩ := secret_ok (G := G) (seen := seen) (sec := sec) (so := oL dN sec) (fun F hF1 hF2 => ctx_of g co ok hq hF1 hF2) (i_oL sec) (ad_oL sec) (by omega)
  obtain ⟨d1, kb0, kb2, hA1, hk1⟩ := kept_ok c (i1 := i1) (i2 := i2) (so := oL dN sec) (.inl rfl) (sd := dT dX seen) (.inr rfl)
  obtain ⟨d2, kc0, kc2, hA2, hk2⟩ := kept_ok c (i1 := i1) (i2 := i2) (so := .dat (dT dN sec)) (.inr rfl) (sd := dA dX seen) (.inl rfl)
  have e1 : d1 = d := hA1.unique hA
  have e2 : d2 = d := hA2.unique hA
  subst e1
  subst e2
  have hok := c.show hA
  have hsh := show_all g ok h1 h2 l1 l2 hs hsl hc hcl
  have ho : oL dN sec = .lst (sec.map fun a => .dat (dN a)) := rfl
  have rep : reprO (.dat d2) = some (.dat (.str d2.shown)) := by
    show (if okShow d2 = true then _ else none) = _
    rw [if_pos hok]
    rfl
  let S (os : List O) (sec : List Nat) (t d k : Sl) : Ev := dW sc os nm drs ro (dG i1 i2 G) seen od sec t d k
  have q53 : ∀ dd k, mQ (qIx (qN 5) (qC (.int 3))) (S os sec t dd k) = some (.dat (dT (dT dS) G), S os sec t dd k) := fun dd k => by simp [S, dW, dG]
  have s12 : (mAsg 12 (mCall f__law_secret (mAVal (mQ (qIx (qN 5) (qC (.int 3)))) (mALend 9 (mALend 6 (mAVal (mC (.int 3000)) mANil)))))) (S os sec t .un .un) = some (.nx, S os sec t (.var (.dat d2)) .un) := by
    rw [e_asg, e_call, e_aval, q53]
    rw [ho] at hsec
    simp [S, dW, ho, hsec]
  refine wp_seq (wp_of s12 ?_)
  let key : Str := (PyData.tuple [dG i1 i2 G, dA dN sec, dA dX seen]).shown
  have rt : ∀ k, mReprT (qCons (qN 5) (qCons (qN 9) (qCons (qN 6) qNil))) (S os sec t (.var (.dat d2)) k) = some (.dat (.str key), S os sec t (.var (.dat d2)) k) := fun k => by
    have hds : O.datas [.dat (dG i1 i2 G), oL dN sec, .dat (dA dX seen)] = [dG i1 i2 G, dA dN sec, dA dX seen] := by
      rw [O.datas_eq]
      simp
    have qs : qCons (qN 5) (qCons (qN 9) (qCons (qN 6) qNil)) (S os sec t (.var (.dat d2)) k) = some [.dat (dG i1 i2 G), oL dN sec, .dat (dA dX seen)] := rfl
    unfold mReprT
    rw [qs, Option.bind_some, hds, if_pos ⟨hsh, by have := PySem.sizeLine_eq; simp; omega⟩]
  refine wp_seq (wp_of (a := .nx) (e := S os sec t (.var (.dat d2)) (.var (.dat (.str key)))) (by rw [e_asg, rt]; rfl) ?_)
  have r12 : (mC1 reprO (mPk 12)) (S os sec t (.var (.dat d2)) (.var (.dat (.str key)))) = some (.dat (.str d2.shown), S os sec t (.var (.dat d2)) (.var (.dat (.str key)))) := by
    have p12 : mPk 12 (S os sec t (.var (.dat d2)) (.var (.dat (.str key)))) = some (.dat d2, S os sec t (.var (.dat d2)) (.var (.dat (.str key)))) := rfl
    rw [e_c1, p12, e_bind, rep, e_map]
  have k1 : (mCall f_kept_secret (mALend 5 (mALend 9 (mAVal (mC1 tupO (mPk 6)) mANil)))) (S os sec t (.var (.dat d2)) (.var (.dat (.str key)))) = some (.dat d2, S os sec t (.var (.dat d2)) (.var (.dat (.str key)))) := by
    rw [ho] at hk1
    rw [e_call]
    simp [S, dW, ho, hk1]
  have k2 : (mCall f_kept_secret (mALend 5 (mAVal (mC1 tupO (mPk 9)) (mALend 6 mANil)))) (S os sec t (.var (.dat d2)) (.var (.dat (.str key)))) = some (.dat d2, S os sec t (.var (.dat d2)) (.var (.dat (.str key)))) := by
    have t9 : (mC1 tupO (mPk 9)) (S os sec t (.var (.dat d2)) (.var (.dat (.str key)))) = some (.dat (dT dN sec), S os sec t (.var (.dat d2)) (.var (.dat (.str key)))) := by
      have p9 : mPk 9 (S os sec t (.var (.dat d2)) (.var (.dat (.str key)))) = some (oL dN sec, S os sec t (.var (.dat d2)) (.var (.dat (.str key)))) := rfl
      rw [e_c1, p9, e_bind, tup_oL, e_map]
    rw [e_call, e_alend, e_aval, t9]
    simp [S, dW, hk2]
  have nes : ∀ x : Str, neD (.str x) (.str x) = some (.dat (.bool false)) := fun x => by rw [neS]; simp
  have t1 : (mTru oBool (mOp neD (mC1 reprO (mCall f_kept_secret (mALend 5 (mALend 9 (mAVal (mC1 tupO (mPk 6)) mANil))))) (mC1 reprO (mPk 12)))) (S os sec t (.var (.dat d2)) (.var (.dat (.str key)))) = some (false, S os sec t (.var (.dat d2)) (.var (.dat (.str key)))) := by
    rw [e_tru, e_op, e_c1, k1, e_bind, rep, e_map, e_bind, r12, e_bind, e_data, nes, e_map, e_bind, e_obool, e_map]
  have t2 : (mTru oBool (mOp neD (mReprT (qCons (qN 5) (qCons (qN 9) (qCons (qN 6) qNil)))) (mNm 13))) (S os sec t (.var (.dat d2)) (.var (.dat (.str key)))) = some (false, S os sec t (.var (.dat d2)) (.var (.dat (.str key)))) := by
    have n13 : mNm 13 (S os sec t (.var (.dat d2)) (.var (.dat (.str key)))) = some (.dat (.str key), S os sec t (.var (.dat d2)) (.var (.dat (.str key)))) := rfl
    rw [e_tru, e_op, rt, e_bind, n13, e_bind, e_data, nes, e_map, e_bind, e_obool, e_map]
  have t3 : (mTru oBool (mOp neD (mC1 reprO (mCall f_kept_secret (mALend 5 (mAVal (mC1 tupO (mPk 9)) (mALend 6 mANil))))) (mC1 reprO (mPk 12)))) (S os sec t (.var (.dat d2)) (.var (.dat (.str key)))) = some (false, S os sec t (.var (.dat d2)) (.var (.dat (.str key)))) := by
    rw [e_tru, e_op, e_c1, k2, e_bind, rep, e_map, e_bind, r12, e_bind, e_data, nes, e_map, e_bind, e_obool, e_map]
  refine wp_seq (wp_of (a := .nx) (e := S os sec t (.var (.dat d2)) (.var (.dat (.str key)))) (by rw [e_ifs, e_or, t1, e_bind, if_neg (by simp), t2, e_bind, if_neg (by simp)]; rfl) ?_)
  refine wp_seq (wp_of (a := .nx) (e := S os sec t (.var (.dat d2)) (.var (.dat (.str key)))) (by rw [e_ifs, t3, e_bind, if_neg (by simp)]; rfl) ?_)
  have t4 : (mTru oBool (mOp gtD (mC1 lenO (mPk 9)) (mC (.int 0)))) (S os sec t (.var (.dat d2)) (.var (.dat (.str key)))) = some (decide (0 < (sec.length : Int)), S os sec t (.var (.dat d2)) (.var (.dat (.str key)))) := by
    simp [S, dW]
  by_cases hz : 0 < sec.length
  · obtain ⟨r, os', hr, hk', er⟩ := draw_ok hk sec.length sec.length rfl hz (by omega)
    refine wp_ifs (wp_of t4 ⟨fun _ => ?_, fun z => absurd (of_decide_eq_false z) (by omega)⟩)
    have hro : ([Sl.par sc, .var (.lst os), .var nm, .var (.dat drs), ro, .var (.dat (dG i1 i2 G)), .var (.dat (dA dX seen)), .un, .var (.dat (dN od)), .ro (oL dN sec), .un, t, .var (.dat d2), .var (.dat (.str key))] : Ev) = (S os sec t (.var (.dat d2)) (.var (.dat (.str key)))).set 9 (.ro (oL dN sec)) := rfl
    have dr : (mCons (mCall f__law_draw (mALend 1 (mAVal (mC1 lenO (mPk 9)) mANil))) mNil) [.par sc, .var (.lst os), .var nm, .var (.dat drs), ro, .var (.dat (dG i1 i2 G)), .var (.dat (dA dX seen)), .un, .var (.dat (dN od)), .ro (oL dN sec), .un, t, .var (.dat d2), .var (.dat (.str key))] = some ([.dat (.int r)], [.par sc, .var (.lst os'), .var nm, .var (.dat drs), ro, .var (.dat (dG i1 i2 G)), .var (.dat (dA dX seen)), .un, .var (.dat (dN od)), .ro (oL dN sec), .un, t, .var (.dat d2), .var (.dat (.str key))]) := by
      simp [er]
    have pop : fPop (oL dN sec) [.dat (.int r)] = some (.dat (dN (sec.getD r 0)), oL dN (sec.eraseIdx r)) := by
      have ho2 : oL dN sec = .lst (sec.map fun a => .dat (dN a)) := rfl
      rw [ho2, pop_at (by rw [List.length_map]; exact hr) (by rw [List.length_map]; omega), List.getElem?_map]
      obtain ⟨x, _, hx⟩ := pick hr
      have : sec.getD r 0 = x := by rw [List.getD_eq_getElem?_getD, hx]; rfl
      rw [hx, this]
      simp [oL, erase_map]
    have mp := met_at (T := "list") (l := lN 9) (f := fPop) (ev := S os sec t (.var (.dat d2)) (.var (.dat (.str key)))) (i := 9) (p := []) (t := oL dN sec) (mk := Sl.var) rfl rfl rfl (ty_oL dN _) dr rfl pop
    rw [e_putP0] at mp
    refine wp_of (a := .nx) (e := S os' (sec.eraseIdx r) t (.var (.dat d2)) (.var (.dat (.str key)))) (by rw [e_ex, mp]; rfl) ?_
    exact ⟨os', sec.eraseIdx r, _, _, hk', fun s hs => hc s (List.mem_of_mem_eraseIdx hs), Nat.le_trans (List.length_eraseIdx_le _ _) hcl, rfl, rfl⟩
  · refine wp_of (a := .nx) (e := S os sec t (.var (.dat d2)) (.var (.dat (.str key)))) (by rw [e_ifs, t4, e_bind, if_neg (by rw [decide_eq_true_iff]; omega)]; rfl) ?_
    exact ⟨os, sec, _, _, hk, hc, hcl, rfl, rfl⟩
end
end K78
set_option Elab.async false
set_option linter.all false
set_option maxRecDepth 100000
/-! K18: the law's beginning. -/
namespace K78
open PySem PySem.Spec PyProof.Rows L2 Z SX
theorem wd_len {m : Nat} {evs : List Lb} {rows : List (List (Lb × Nat))} (h : Wd m evs rows) : rows.length ≤ 17 ∧ ∀ r ∈ rows, r.length ≤ m + 1 := by
  rcases h with ⟨a, b, c⟩ | ⟨a, b, c⟩
  · exact ⟨by omega, fun r hr => by have := (c r hr).le; omega⟩
  · exact ⟨b, fun r hr => by have := (c r hr).le; omega⟩
theorem lbok_perm {l : List Lb} (h : ∀ d ∈ l, LbOk d) : ∀ d ∈ sortE dL l, LbOk d := fun d hd => h d ((sortE_perm dL l).mem_iff.mp hd)
theorem plain (ns : List Int) (hns : ns.length ≤ 63) : ∃ bs, f_law [scr ns] = some (.dat (.bool true), bs) := by
  obtain ⟨os0, hk0, hdeck⟩ := deck_ok' ns hns
  let sc : O := scr ns
  have main : wp b_law (enter [true] [sc] ++ List.replicate 13 .un) fun o e => o = .rt (.dat (.bool true)) := by
    show wp b_law [.par sc, .un, .un, .un, .un, .un, .un, .un, .un, .un, .un, .un, .un, .un] _
    unfold b_law
    have hsc : sc = .dat (.list (ns.map PyData.int)) := rfl
    refine wp_seq (wp_of (a := .nx) (e := [.par sc, .var (.lst os0), .un, .un, .un, .un, .un, .un, .un, .un, .un, .un, .un, .un]) (by
      have hdeck : f__law_deck [.dat (.list (ns.map PyData.int))] = some (.lst os0, [some (scr ns)]) := hdeck
      rw [hsc]
      simp [hdeck]) ?_)
    obtain ⟨nm, os1, hk1, N1, hl1, e1⟩ := names_ok hk0 3 (by omega) true
    obtain ⟨n0, n1, n2, hnm⟩ : ∃ a b c, nm = [a, b, c] := by
      match nm, hl1 with
      | [a, b, c], _ => exact ⟨a, b, c, rfl⟩
    have e1 : f__law_names [.lst os0, .dat (.int 3), .dat (.bool true)] = _ := e1
    refine wp_seq (wp_of (a := .nx) (e := [.par sc, .var (.lst os1), .var (oL dX nm), .un, .un, .un, .un, .un, .un, .un, .un, .un, .un, .un]) (by simp [e1]) ?_)
    obtain ⟨r0, os2, hr0, hk2, e2⟩ := draw_ok hk1 3 3 rfl (by omega) (by omega)
    obtain ⟨nd, os3, hk3, N2, hl2, e3⟩ := names_ok hk2 (1 + r0) (by omega) false
    have e3 : f__law_names [.lst os2, .dat (.int (1 + (r0 : Int))), .dat (.bool false)] = some (oL dX nd, [some (.lst os3), some (.dat (.int (1 + (r0 : Int)))), some (.dat (.bool false))]) := by
      have : ((1 + r0 : Nat) : Int) = 1 + (r0 : Int) := by omega
      rw [this] at e3
      exact e3
    obtain ⟨ins, outs, evs, os4, db1, db2, db3, hk4, D, e4⟩ := doors_ok hk3 N2 (by omega) (by omega) (kind := n0) (N1.nm n0 (by rw [hnm]; simp)) (vals := [n1, n2]) (by simp) (by simp) (fun v hv => N1.nm v (by rw [hnm]; simp only [List.mem_cons, List.not_mem_nil, or_false] at hv ⊢; rcases hv with rfl | rfl <;> simp))
    let drs : PyData := .tuple [dA dL ins, dA dL outs, dA dL evs]
    have s3 : (mAsg 3 (mCall f__law_doors (mALend 1 (mAVal (mCall f__law_names (mALend 1 (mAVal (mOp addD (mC (.int 1)) (mCall f__law_draw (mALend 1 (mAVal (mC (.int 3)) mANil)))) (mAVal (mC (.bool false)) mANil)))) (mAVal (mQ (qIx (qN 2) (qC (.int 0)))) (mAVal (mSl (mNm 2) (mOSo (mC (.int 1))) (mOSo (mC (.int 3)))) mANil)))))) [.par sc, .var (.lst os1), .var (oL dX nm), .un, .un, .un, .un, .un, .un, .un, .un, .un, .un, .un] =
        some (.nx, [.par sc, .var (.lst os4), .var (.dat (dA dX nm)), .var (.dat drs), .un, .un, .un, .un, .un, .un, .un, .un, .un, .un]) := by
      have cn : (mCall f__law_names (mALend 1 (mAVal (mOp addD (mC (.int 1)) (mCall f__law_draw (mALend 1 (mAVal (mC (.int 3)) mANil)))) (mAVal (mC (.bool false)) mANil)))) [.par sc, .var (.lst os1), .var (oL dX nm), .un, .un, .un, .un, .un, .un, .un, .un, .un, .un, .un] = some (oL dX nd, [.par sc, .var (.lst os3), .var (oL dX nm), .un, .un, .un, .un, .un, .un, .un, .un, .un, .un, .un]) := by
        simp [e2, e3]
      have q0 : mQ (qIx (qN 2) (qC (.int 0))) [.par sc, .var (.lst os3), .var (oL dX nm), .un, .un, .un, .un, .un, .un, .un, .un, .un, .un, .un] = some (.dat (.str n0), [.par sc, .var (.lst os3), .var (oL dX nm), .un, .un, .un, .un, .un, .un, .un, .un, .un, .un, .un]) := by
        have : ixA (oL dX nm) (.int 0) = some (.dat (.str n0)) := by
          have := ix_oL (f := dX) nm 0
          rw [hnm] at this ⊢
          exact this
        simp [this]
      have sl : mSl (mNm 2) (mOSo (mC (.int 1))) (mOSo (mC (.int 3))) [.par sc, .var (.lst os3), .var (oL dX nm), .un, .un, .un, .un, .un, .un, .un, .un, .un, .un, .un] = some (oL dX [n1, n2], [.par sc, .var (.lst os3), .var (.dat (dA dX nm)), .un, .un, .un, .un, .un, .un, .un, .un, .un, .un, .un]) := by
        have n2' : mNm 2 [.par sc, .var (.lst os3), .var (oL dX nm), .un, .un, .un, .un, .un, .un, .un, .un, .un, .un, .un] = some (.dat (oL dX nm).data, [.par sc, .var (.lst os3), .var (.dat (oL dX nm).data), .un, .un, .un, .un, .un, .un, .un, .un, .un, .un, .un]) := rfl
        rw [data_oL] at n2'
        rw [e_sl, n2', e_bind, e_oso, e_c, e_bind]
        subst hnm
        rfl
      have od : oL dX nd = .lst (nd.map fun a => .dat (dX a)) := rfl
      have ov : oL dX [n1, n2] = .lst ([n1, n2].map fun a => .dat (dX a)) := rfl
      have m : (mALend 1 (mAVal (mCall f__law_names (mALend 1 (mAVal (mOp addD (mC (.int 1)) (mCall f__law_draw (mALend 1 (mAVal (mC (.int 3)) mANil)))) (mAVal (mC (.bool false)) mANil)))) (mAVal (mQ (qIx (qN 2) (qC (.int 0)))) (mAVal (mSl (mNm 2) (mOSo (mC (.int 1))) (mOSo (mC (.int 3)))) mANil)))) [.par sc, .var (.lst os1), .var (oL dX nm), .un, .un, .un, .un, .un, .un, .un, .un, .un, .un, .un] =
          some ([.inl 1, .inr (oL dX nd), .inr (.dat (.str n0)), .inr (oL dX [n1, n2])], [.par sc, .var (.lst os3), .var (.dat (dA dX nm)), .un, .un, .un, .un, .un, .un, .un, .un, .un, .un, .un]) := by
        rw [e_alend, e_aval, cn, e_bind, e_aval, q0, e_bind, e_aval, sl, e_bind, e_anil]
        rfl
      rw [e_asg, e_call, m]
      simp [e4, drs]
    refine wp_seq (wp_of s3 ?_)
    obtain ⟨rows, os5, wb1, hk5, Wr, e5⟩ := world_ok (evs := evs) hk4 D.ne D.le
    refine wp_seq (wp_of (a := .nx) (e := [.par sc, .var (.lst os5), .var (.dat (dA dX nm)), .var (.dat drs), .var (oLL dS rows), .un, .un, .un, .un, .un, .un, .un, .un, .un]) (by
      have q2 : mQ (qIx (qN 3) (qC (.int 2))) [.par sc, .var (.lst os4), .var (.dat (dA dX nm)), .var (.dat drs), .un, .un, .un, .un, .un, .un, .un, .un, .un, .un] = some (.dat (dA dL evs), [.par sc, .var (.lst os4), .var (.dat (dA dX nm)), .var (.dat drs), .un, .un, .un, .un, .un, .un, .un, .un, .un, .un]) := by simp [drs]
      rw [e_asg, e_call, e_alend, e_aval, q2]
      simp [e5]) ?_)
    obtain ⟨rows2, os6, hk6, W7, s4⟩ : ∃ rows2 os6, Dk os6 ∧ Wd 7 evs rows2 ∧ (mIfS (mTru oBool (mOp ltD (mC1 lenO (mPk 4)) (mC (.int 5)))) (mFrS 4 (mAsg 4 (mCall f__law_fault (mALend 1 (mALend 4 mANil))))) mNx) [.par sc, .var (.lst os5), .var (.dat (dA dX nm)), .var (.dat drs), .var (oLL dS rows), .un, .un, .un, .un, .un, .un, .un, .un, .un] =
        some (.nx, [.par sc, .var (.lst os6), .var (.dat (dA dX nm)), .var (.dat drs), .var (oLL dS rows2), .un, .un, .un, .un, .un, .un, .un, .un, .un]) := by
      have tt : (mTru oBool (mOp ltD (mC1 lenO (mPk 4)) (mC (.int 5)))) [.par sc, .var (.lst os5), .var (.dat (dA dX nm)), .var (.dat drs), .var (oLL dS rows), .un, .un, .un, .un, .un, .un, .un, .un, .un] = some (decide ((rows.length : Int) < 5), [.par sc, .var (.lst os5), .var (.dat (dA dX nm)), .var (.dat drs), .var (oLL dS rows), .un, .un, .un, .un, .un, .un, .un, .un, .un]) := by
        have : lenO (oLL dS rows) = some (.dat (.int rows.length)) := by unfold oLL; rw [e_len1, List.length_map, e_oI]
        simp [this]
      rcases Wr with ⟨a1, a2, a3⟩ | ⟨a1, a2, a3⟩
      · obtain ⟨made, os6, fb, hk6, hl, hR, e6⟩ := fault_ok hk5 a1 a2 a3
        refine ⟨made, os6, hk6, .inl ⟨by omega, by omega, hR⟩, ?_⟩
        have fr : frzE 4 [.par sc, .var (.lst os5), .var (.dat (dA dX nm)), .var (.dat drs), .var (oLL dS rows), .un, .un, .un, .un, .un, .un, .un, .un, .un] = some [.par sc, .var (.lst os5), .var (.dat (dA dX nm)), .var (.dat drs), .var (.dat (dA (dA dS) rows)), .un, .un, .un, .un, .un, .un, .un, .un, .un] := by
          rw [← data_oLL]; rfl
        rw [e_ifs, tt, e_bind, if_pos (by rw [decide_eq_true_iff]; omega), e_frS, fr, e_bind]
        simp [e6]
      · refine ⟨rows, os5, hk5, .inr ⟨a1, a2, a3⟩, ?_⟩
        rw [e_ifs, tt, e_bind, if_neg (by rw [decide_eq_true_iff]; omega)]
        rfl
    refine wp_seq (wp_of s4 ?_)
    obtain ⟨G, gb, g, e7⟩ := graph_ok D W7
    let gd := dG (sortE dL ins) (sortE dL outs) G
    refine wp_seq (wp_of (a := .nx) (e := [.par sc, .var (.lst os6), .var (.dat (dA dX nm)), .var (.dat drs), .un, .var (.dat gd), .un, .un, .un, .un, .un, .un, .un, .un]) (by
      have m : (mTup (mDCons (mQ (qIx (qN 3) (qC (.int 0)))) (mDCons (mQ (qIx (qN 3) (qC (.int 1)))) (mDCons (mMv 4) mDNil)))) [.par sc, .var (.lst os6), .var (.dat (dA dX nm)), .var (.dat drs), .var (oLL dS rows2), .un, .un, .un, .un, .un, .un, .un, .un, .un] = some (.dat (.tuple [dA dL ins, dA dL outs, dA (dA dS) rows2]), [.par sc, .var (.lst os6), .var (.dat (dA dX nm)), .var (.dat drs), .un, .un, .un, .un, .un, .un, .un, .un, .un, .un]) := by
        have q0 : mQ (qIx (qN 3) (qC (.int 0))) [.par sc, .var (.lst os6), .var (.dat (dA dX nm)), .var (.dat drs), .var (oLL dS rows2), .un, .un, .un, .un, .un, .un, .un, .un, .un] = some (.dat (dA dL ins), [.par sc, .var (.lst os6), .var (.dat (dA dX nm)), .var (.dat drs), .var (oLL dS rows2), .un, .un, .un, .un, .un, .un, .un, .un, .un]) := by simp [drs]
        have q1 : mQ (qIx (qN 3) (qC (.int 1))) [.par sc, .var (.lst os6), .var (.dat (dA dX nm)), .var (.dat drs), .var (oLL dS rows2), .un, .un, .un, .un, .un, .un, .un, .un, .un] = some (.dat (dA dL outs), [.par sc, .var (.lst os6), .var (.dat (dA dX nm)), .var (.dat drs), .var (oLL dS rows2), .un, .un, .un, .un, .un, .un, .un, .un, .un]) := by simp [drs]
        have m4 : mMv 4 [.par sc, .var (.lst os6), .var (.dat (dA dX nm)), .var (.dat drs), .var (oLL dS rows2), .un, .un, .un, .un, .un, .un, .un, .un, .un] = some (oLL dS rows2, [.par sc, .var (.lst os6), .var (.dat (dA dX nm)), .var (.dat drs), .un, .un, .un, .un, .un, .un, .un, .un, .un, .un]) := rfl
        rw [e_tup, e_dcons, q0, e_bind, e_dcons, q1, e_bind, e_dcons, m4, e_bind, e_dnil, data_oLL]
        simp
      rw [e_asg, e_call, e_aval, m]
      simp [e7, gd]) ?_)
    -- what is seen
    have it6 : mItA (mOp addD (mQ (qIx (qN 3) (qC (.int 0)))) (mQ (qIx (qN 3) (qC (.int 1))))) [.par sc, .var (.lst os6), .var (.dat (dA dX nm)), .var (.dat drs), .un, .var (.dat gd), .un, .un, .un, .un, .un, .un, .un, .un] = some ((ins ++ outs).map dL, [.par sc, .var (.lst os6), .var (.dat (dA dX nm)), .var (.dat drs), .un, .var (.dat gd), .un, .un, .un, .un, .un, .un, .un, .un]) := by
      have ad : addD (dA dL ins) (dA dL outs) = some (oL dL (ins ++ outs)) := by
        show (if (ins.map dL).length + (outs.map dL).length ≤ sizeLine then _ else _) = _
        rw [if_pos (by have := PySem.sizeLine_eq; have := D.li; have := D.lo; rw [List.length_map, List.length_map]; omega), ← List.map_append, oL_eq]
      have : mOp addD (mQ (qIx (qN 3) (qC (.int 0)))) (mQ (qIx (qN 3) (qC (.int 1)))) [.par sc, .var (.lst os6), .var (.dat (dA dX nm)), .var (.dat drs), .un, .var (.dat gd), .un, .un, .un, .un, .un, .un, .un, .un] = some (oL dL (ins ++ outs), [.par sc, .var (.lst os6), .var (.dat (dA dX nm)), .var (.dat drs), .un, .var (.dat gd), .un, .un, .un, .un, .un, .un, .un, .un]) := by
        simp [drs, ad]
      rw [e_ita, this, e_bind, data_oL]
      rfl
    obtain ⟨rs, e', hlc, hrs⟩ := lcL_wp (vs := [7]) (t := tgN 7) (c := mTru oBool (mOp gtD (mCall f__law_draw (mALend 1 (mAVal (mC (.int 4)) mANil))) (mC (.int 0)))) (me := mQ (qIx (qN 7) (qC (.int 0))))
      (I := fun ds os e => ∃ (don rest : List Lb) (seen : List Str) (osd : List O), ds = rest.map dL ∧ don ++ rest = ins ++ outs ∧ seen.length ≤ don.length ∧ (∀ x ∈ seen, Nm x) ∧ os = seen.map (fun x => .dat (dX x)) ∧ Dk osd ∧ e = [.par sc, .var (.lst osd), .var (.dat (dA dX nm)), .var (.dat drs), .un, .var (.dat gd), .un, .un, .un, .un, .un, .un, .un, .un])
      (Q := fun os e => ∃ (seen : List Str) (osd : List O), seen.length ≤ 6 ∧ (∀ x ∈ seen, Nm x) ∧ os = seen.map (fun x => .dat (dX x)) ∧ Dk osd ∧ e = [.par sc, .var (.lst osd), .var (.dat (dA dX nm)), .var (.dat drs), .un, .var (.dat gd), .un, .un, .un, .un, .un, .un, .un, .un])
      (by
        rintro os e ⟨don, rest, seen, osd, h1, h2, h3, h4, h5, h6, h7⟩
        have : rest = [] := by cases rest with
          | nil => rfl
          | cons _ _ => cases h1
        subst this
        rw [List.append_nil] at h2
        have := congrArg List.length h2
        rw [List.length_append] at this
        have := D.li; have := D.lo
        exact ⟨seen, osd, by omega, h4, h5, h6, h7⟩)
      (by
        rintro dd ds os e ⟨don, rest, seen, osd, h1, h2, h3, h4, rfl, h6, rfl⟩
        cases rest with
        | nil => cases h1
        | cons l rest =>
          rw [List.map_cons] at h1
          injection h1 with h1 h1'
          subst h1
          obtain ⟨r, os', hr, hk', er⟩ := draw_ok h6 4 4 rfl (by omega) (by omega)
          have hl : LbOk l := D.okd l (by rw [← h2]; simp)
          refine ⟨[.par sc, .var (.lst osd), .var (.dat (dA dX nm)), .var (.dat drs), .un, .var (.dat gd), .un, .var (.dat (dL l)), .un, .un, .un, .un, .un, .un], rfl, wp_of (a := decide (0 < (r : Int))) (e := [.par sc, .var (.lst os'), .var (.dat (dA dX nm)), .var (.dat drs), .un, .var (.dat gd), .un, .var (.dat (dL l)), .un, .un, .un, .un, .un, .un]) (by simp [er]) ?_⟩
          by_cases hz : 0 < (r : Int)
          · rw [if_pos (decide_eq_true hz)]
            refine wp_of (a := .dat (dX l.1)) (e := [.par sc, .var (.lst os'), .var (.dat (dA dX nm)), .var (.dat drs), .un, .var (.dat gd), .un, .var (.dat (dL l)), .un, .un, .un, .un, .un, .un]) (by simp) ?_
            refine ⟨don ++ [l], rest, seen ++ [l.1], os', h1', by rw [← h2]; simp, by simp; omega, fun x hx => ?_, by simp, hk', rfl⟩
            rcases List.mem_append.mp hx with hx | hx
            · exact h4 x hx
            · rw [List.mem_singleton.mp hx]; exact hl.1
          · rw [if_neg (by rw [decide_eq_true_iff]; exact hz)]
            exact ⟨don ++ [l], rest, seen, os', h1', by rw [← h2]; simp, by simp; omega, h4, rfl, hk', rfl⟩)
      ((ins ++ outs).map dL) [] [.par sc, .var (.lst os6), .var (.dat (dA dX nm)), .var (.dat drs), .un, .var (.dat gd), .un, .un, .un, .un, .un, .un, .un, .un] ⟨[], ins ++ outs, [], os6, rfl, rfl, by simp, by simp, rfl, hk6, rfl⟩
    obtain ⟨seen, os7, hsl, hsn, hos, hk7, rfl⟩ := hrs
    rw [List.nil_append] at hos
    subst hos
    have h6 : mLc [7] (mItA (mOp addD (mQ (qIx (qN 3) (qC (.int 0)))) (mQ (qIx (qN 3) (qC (.int 1)))))) (tgN 7) (mTru oBool (mOp gtD (mCall f__law_draw (mALend 1 (mAVal (mC (.int 4)) mANil))) (mC (.int 0)))) (mQ (qIx (qN 7) (qC (.int 0)))) [.par sc, .var (.lst os6), .var (.dat (dA dX nm)), .var (.dat drs), .un, .var (.dat gd), .un, .un, .un, .un, .un, .un, .un, .un] = some (oL dX seen, [.par sc, .var (.lst os7), .var (.dat (dA dX nm)), .var (.dat drs), .un, .var (.dat gd), .un, .un, .un, .un, .un, .un, .un, .un]) := lc_eq it6 hlc (by rw [List.length_map]; omega)
    refine wp_seq (wp_of (a := .nx) (e := [.par sc, .var (.lst os7), .var (.dat (dA dX nm)), .var (.dat drs), .un, .var (.dat gd), .var (oL dX seen), .un, .un, .un, .un, .un, .un, .un]) (by rw [e_asg, h6]; rfl) ?_)
    obtain ⟨r8, os8, hr8, hk8, e8⟩ := draw_ok hk7 3 3 rfl (by omega) (by omega)
    refine wp_seq (wp_of (a := .nx) (e := [.par sc, .var (.lst os8), .var (.dat (dA dX nm)), .var (.dat drs), .un, .var (.dat gd), .var (.dat (dA dX seen)), .un, .var (.dat (dN (2 + r8))), .un, .un, .un, .un, .un]) (by
      have fr : frzE 6 [.par sc, .var (.lst os7), .var (.dat (dA dX nm)), .var (.dat drs), .un, .var (.dat gd), .var (oL dX seen), .un, .un, .un, .un, .un, .un, .un] = some [.par sc, .var (.lst os7), .var (.dat (dA dX nm)), .var (.dat drs), .un, .var (.dat gd), .var (.dat (dA dX seen)), .un, .un, .un, .un, .un, .un, .un] := by
        rw [← data_oL (f := dX) seen]; rfl
      rw [e_frS, fr, e_bind]
      simp [e8, dN]) ?_)
    let B (os : List O) (s9 s10 : Sl) : Ev := [.par sc, .var (.lst os), .var (.dat (dA dX nm)), .var (.dat drs), .un, .var (.dat gd), .var (.dat (dA dX seen)), .un, .var (.dat (dN (2 + r8))), s9, s10, .un, .un, .un]
    have hG := g.le.1
    have it9 : mRng1 (mC1 lenO (mQP (qIx (qN 5) (qC (.int 3))))) (B os8 .un .un) = some ((List.range G.length).map dN, B os8 .un .un) := rng_eq (by simp [B, gd, dG]) (by omega)
    obtain ⟨rs9, e9', hlc9, sec, os9, hk9, hc9, hcl9, rfl, rfl⟩ := lcL_rng (vs := [10]) (t := tgN 10) (c := mTru oBool (mOp gtD (mCall f__law_draw (mALend 1 (mALend 8 mANil))) (mC (.int 0)))) (me := mNm 10) (n := G.length)
      (I := fun k ls e => ∃ (sec : List Nat) (os : List O), Dk os ∧ (∀ s ∈ sec, s < G.length) ∧ sec.length ≤ k ∧ ls = sec.map (fun s => .dat (dN s)) ∧ e = B os .un .un) (by
        rintro k ls e hkn ⟨sec, os, hk', hc, hcl, rfl, rfl⟩
        obtain ⟨r, os', hr, hk2, er⟩ := draw_ok hk' (2 + r8) ((2 + r8 : Nat) : Int) rfl (by omega) (by omega)
        refine ⟨B os .un (.var (.dat (dN k))), rfl, wp_of (a := decide (0 < (r : Int))) (e := B os' .un (.var (.dat (dN k)))) ?_ ?_⟩
        · have cd : (mCall f__law_draw (mALend 1 (mALend 8 mANil))) (B os .un (.var (.dat (dN k)))) = some (.dat (.int r), B os' .un (.var (.dat (dN k)))) := by
            have er : f__law_draw [.lst os, .dat (dN (2 + r8))] = some (.dat (.int r), [some (.lst os'), some (.dat (dN (2 + r8)))]) := er
            rw [e_call]
            simp [B, er]
          rw [e_tru, e_op, cd, e_bind, e_c, e_bind, e_data, e_data, e_gti, e_oB, e_map, e_bind, e_obool, e_map]
        · by_cases hz : 0 < (r : Int)
          · rw [if_pos (decide_eq_true hz)]
            refine wp_of (a := .dat (dN k)) (e := B os' .un (.var (.dat (dN k)))) rfl ⟨sec ++ [k], os', hk2, fun s hs => ?_, by simp; omega, by simp, rfl⟩
            rcases List.mem_append.mp hs with hs | hs
            · exact hc s hs
            · rw [List.mem_singleton.mp hs]; exact hkn
          · rw [if_neg (by rw [decide_eq_true_iff]; exact hz)]
            exact ⟨sec, os', hk2, hc, by omega, rfl, rfl⟩) (e := B os8 .un .un) ⟨[], os8, hk8, by simp, by simp, rfl, rfl⟩
    have h9 : mLc [10] (mRng1 (mC1 lenO (mQP (qIx (qN 5) (qC (.int 3)))))) (tgN 10) (mTru oBool (mOp gtD (mCall f__law_draw (mALend 1 (mALend 8 mANil))) (mC (.int 0)))) (mNm 10) (B os8 .un .un) = some (oL dN sec, B os9 .un .un) := lc_eq it9 hlc9 (by rw [List.length_map]; omega)
    refine wp_seq (wp_of (a := .nx) (e := B os9 (.var (oL dN sec)) .un) (by rw [e_asg]; show (mLc _ _ _ _ _ (B os8 .un .un)).bind _ = _; rw [h9]; rfl) ?_)
    obtain ⟨r10, os10, hr10, hk10, e10⟩ := draw_ok hk9 2 2 rfl (by omega) (by omega)
    have hq10 : eqD (.int r10) (.int 0) = oB (decide (r10 = 0)) := eqD_of gN (by omega) r10 0
    obtain ⟨sec2, hc2, hcl2, s10⟩ : ∃ sec2 : List Nat, (∀ s ∈ sec2, s < G.length) ∧ sec2.length ≤ 17 ∧ (mIfS (mTru oBool (mOp eqD (mCall f__law_draw (mALend 1 (mAVal (mC (.int 2)) mANil))) (mC (.int 0)))) (mEx (mMet "list" (lN 9) mNil fReverse)) mNx) (B os9 (.var (oL dN sec)) .un) = some (.nx, B os10 (.var (oL dN sec2)) .un) := by
      have tt : (mTru oBool (mOp eqD (mCall f__law_draw (mALend 1 (mAVal (mC (.int 2)) mANil))) (mC (.int 0)))) (B os9 (.var (oL dN sec)) .un) = some (decide (r10 = 0), B os10 (.var (oL dN sec)) .un) := by
        simp [B, e10, hq10]
      by_cases hz : r10 = 0
      · have rv : fReverse (oL dN sec) [] = some (.dat .none, oL dN sec.reverse) := by
          show some (O.dat .none, O.lst (sec.map fun a => O.dat (dN a)).reverse) = _
          rw [← List.map_reverse]
          rfl
        have mp := met_at (T := "list") (l := lN 9) (ms := mNil) (f := fReverse) (ev := B os10 (.var (oL dN sec)) .un) (i := 9) (p := []) (t := oL dN sec) (mk := Sl.var) rfl rfl rfl (ty_oL dN _) rfl rfl rv
        rw [e_putP0] at mp
        refine ⟨sec.reverse, fun s hs => hc9 s (List.mem_reverse.mp hs), by rw [List.length_reverse]; omega, ?_⟩
        rw [e_ifs, tt, e_bind, if_pos (decide_eq_true hz), e_ex, mp]
        rfl
      · exact ⟨sec, hc9, by omega, by rw [e_ifs, tt, e_bind, if_neg (by rw [decide_eq_true_iff]; exact hz)]; rfl⟩
    refine wp_seq (wp_of s10 ?_)
    have hr11 : mRng1 (mC (.int 2)) (B os10 (.var (oL dN sec2)) .un) = some ((List.range 2).map dN, B os10 (.var (oL dN sec2)) .un) := rng_eq (n := 2) rfl (by omega)
    refine wp_seq ((wp_forR (Q := fun o e => o = .nx ∧ True) hr11 (fun k e => ∃ (sec : List Nat) (os : List O), Dk os ∧ (∀ s ∈ sec, s < G.length) ∧ sec.length ≤ 17 ∧ e = B os (.var (oL dN sec)) .un) ⟨sec2, os10, hk10, hc2, hcl2, rfl⟩ (fun e _ => ⟨rfl, trivial⟩) ?_).mono ?_)
    · rintro k e hk' ⟨sec3, os11, hk11, hc3, hcl3, rfl⟩
      refine ⟨dW sc os11 (.dat (dA dX nm)) drs .un gd seen (2 + r8) sec3 (.var (.dat (dN k))) .un .un, rfl, ?_⟩
      refine (law_turn g D.co D.oke (i1 := sortE dL ins) (i2 := sortE dL outs) (lbok_perm fun d hd => D.okd d (List.mem_append_left _ hd)) (lbok_perm fun d hd => D.okd d (List.mem_append_right _ hd)) (by rw [(sortE_perm dL ins).length_eq]; exact D.li) (by rw [(sortE_perm dL outs).length_eq]; exact D.lo) hsn hsl hk11 hc3 hcl3 rfl).mono ?_
      rintro o e ⟨os', sec', dd, kk, h1, h2, h3, rfl, rfl⟩
      exact ⟨sec', os', h1, h2, h3, rfl⟩
    · rintro o e ⟨rfl, _⟩
      exact wp_ret (wp_of (a := .dat (.bool true)) (e := e) rfl rfl)
  obtain ⟨r, bs, h, rfl⟩ := run_wp (ks := [true]) (l := 13) (R := fun r bs => r = .dat (.bool true)) rfl (main.mono (by rintro o e rfl; rfl))
  exact ⟨bs, h⟩
theorem plain_law (ns : List Int) (h : ns.length ≤ 63) (_ : ∀ z ∈ ns, Builtin.Int.intBits z ≤ 1048576) : ∃ bs, f_law [Z.scr ns] = some (.dat (.bool true), bs) := plain ns h
end K78
set_option Elab.async false
set_option linter.all false
set_option pp.maxSteps 400
set_option pp.deepTerms.threshold 6
set_option maxRecDepth 100000
open PySem PySem.W PyProof.Rows
set_option maxHeartbeats 0 in
theorem PySem.Challenge.cw_unseenswap_k78_secrets_kept_holds : PySem.Challenge.rw_unseenswap_k78_secrets_kept.Holds := by
  w_on; o_law; k_head; (case hw => w_witness2)
  k_fill
  refine Z.walkZ (l := PySem.Challenge.rw_unseenswap_k78_secrets_kept) (n := 63) (k := 4) (x := "script") (fn := K78.f_law) K78.genDefs rfl (by decide) rfl ⟨rfl, by decide, by decide⟩ (fun w h Y => PySem.W.kIn_of Y) ?hrec ?hK ?F K78.plain_law
  case hrec =>
    intro y hy
    rcases List.mem_singleton.mp hy with rfl
    rfl
  case hK => intro p; rfl
  case F =>
    intro w mg fa base X G hmg TK
    refine' K78.all_mk X G hmg TK ?a0 ?l0 ?c0 ?k0 ?a1 ?l1 ?c1 ?k1 ?a2 ?l2 ?c2 ?k2 ?a3 ?l3 ?c3 ?k3 ?a4 ?l4 ?c4 ?k4 ?a5 ?l5 ?c5 ?k5 ?a6 ?l6 ?c6 ?k6 ?a7 ?l7 ?c7 ?k7 ?a8 ?l8 ?c8 ?k8 ?a9 ?l9 ?c9 ?k9 ?a10 ?l10 ?c10 ?k10 ?a11 ?l11 ?c11 ?k11 ?a12 ?l12 ?c12 ?k12 ?a13 ?l13 ?c13 ?k13 ?dv13 ?ld13 ?a14 ?l14 ?c14 ?k14 ?a15 ?l15 ?c15 ?k15 ?a16 ?l16 ?c16 ?k16 ?tb16 ?ce16 ?a17 ?l17 ?c17 ?k17 ?a18 ?l18 ?c18 ?k18 ?n_all ?n_int ?n_len ?n_list ?n_range ?n_repr ?n_sorted ?n_tuple ?n_MOST_SETS
    (case a0 => k_is); (case l0 => k_is); (case c0 => k_is); (case k0 => k_is); (case a1 => k_is); (case l1 => k_is); (case c1 => k_is); (case k1 => k_is); (case a2 => k_is); (case l2 => k_is); (case c2 => k_is); (case k2 => k_is); (case a3 => k_is); (case l3 => k_is); (case c3 => k_is); (case k3 => k_is); (case a4 => k_is); (case l4 => k_is); (case c4 => k_is); (case k4 => k_is); (case a5 => k_is); (case l5 => k_is); (case c5 => k_is); (case k5 => k_is); (case a6 => k_is); (case l6 => k_is); (case c6 => k_is); (case k6 => k_is); (case a7 => k_is); (case l7 => k_is); (case c7 => k_is); (case k7 => k_is); (case a8 => k_is); (case l8 => k_is); (case c8 => k_is); (case k8 => k_is); (case a9 => k_is); (case l9 => k_is); (case c9 => k_is); (case k9 => k_is); (case a10 => k_is); (case l10 => k_is); (case c10 => k_is); (case k10 => k_is); (case a11 => k_is); (case l11 => k_is); (case c11 => k_is); (case k11 => k_is); (case a12 => k_is); (case l12 => k_is); (case c12 => k_is); (case k12 => k_is); (case a13 => k_is); (case l13 => k_is); (case c13 => k_is); (case k13 => k_is); (case dv13 => exact rfl); (case ld13 => k_is); (case a14 => k_is); (case l14 => k_is); (case c14 => k_is); (case k14 => k_is); (case a15 => k_is); (case l15 => k_is); (case c15 => k_is); (case k15 => k_is); (case a16 => k_is); (case l16 => k_is); (case c16 => k_is); (case k16 => k_is); (case tb16 => exact rfl); (case ce16 => exact rfl); (case a17 => k_is); (case l17 => k_is); (case c17 => k_is); (case k17 => k_is); (case a18 => k_is); (case l18 => k_is); (case c18 => k_is); (case k18 => k_is); (case n_all => k_is); (case n_int => k_is); (case n_len => k_is); (case n_list => k_is); (case n_range => k_is); (case n_repr => k_is); (case n_sorted => k_is); (case n_tuple => k_is); (case n_MOST_SETS => k_is)
