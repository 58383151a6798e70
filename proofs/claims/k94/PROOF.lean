import PyProof.Rows.All
import HandS.ForMost
import HandS.Deep
import HandS.TupAny
import HandS.TupMul
import HandS.TupLen
import HandS.Flow
import HandS.Style
import HandS.Conv
import HandS.Zip
import HandS.Walk
import KE.SortData
import KE.DataEq
import KE.DataCmp
import KE.DataMinMax
import KE.DataFind
import KE.DataIsa
import KE.DataAny
import KE.Datum
import KE.DatumMore
import KE.KTupSum
import HandS.IsInst
import HandS.ExcOwn
import HandS.ExcValue
import HandS.TupSets
import HandS.SetFor
import HandS.Set
import HandS.Iter
import KE.KDictWalk
import KE.KDictCopyH
import KE.KDictPairs
import KE.KDictSum
import HandS.DictTup
import HandS.More
import KE.KDictDisplayH
import KE.KEqDict
import HandS.TryOnly
import PySem.Challenge.RW_forewarned_k94_meeting_ahead_of_the_fire
set_option Elab.async false
set_option linter.all false
set_option maxRecDepth 100000
namespace DL
open PySem PySem.Spec L2

abbrev AdP := Addr → Prop

def keyD : Key → PyData
  | .inl i => .int i
  | .inr x => .str x
def keyT (ks : List Key) : PyData := .tuple (ks.map keyD)

mutual
inductive At (H : Hp) (L : AdP) : V → PyData → Prop
  | non : At H L .non .none
  | bl (b : Bool) : At H L (.bl b) (.bool b)
  | int (i : Int) : At H L (.int i) (.int i)
  | str (x : Str) : At H L (.str x) (.str x)
  | lst {a : Addr} {xs : List V} {ds : List PyData} : ¬ L a → H a = some (.lst xs) → AtL H L xs ds → At H L (.ref a) (.list ds)
  | tup {a : Addr} {xs : List V} {ds : List PyData} : ¬ L a → H a = some (.tup xs) → AtL H L xs ds → At H L (.ref a) (.tuple ds)
  | dK {a : Addr} {kvs : List (Key × V)} {dd : List (PyData × PyData)} : ¬ L a → Rd H a (.dK kvs) → dd.map (·.1) = kvs.map (fun p => keyD p.1) → AtL H L (kvs.map (·.2)) (dd.map (·.2)) → At H L (.ref a) (.dict dd)
  | dT {a : Addr} {kvs : List (List Key × V)} {dd : List (PyData × PyData)} : ¬ L a → Rd H a (.dT kvs) → dd.map (·.1) = kvs.map (fun p => keyT p.1) → AtL H L (kvs.map (·.2)) (dd.map (·.2)) → At H L (.ref a) (.dict dd)
inductive AtL (H : Hp) (L : AdP) : List V → List PyData → Prop
  | nil : AtL H L [] []
  | cons {v : V} {vs : List V} {d : PyData} {ds : List PyData} : At H L v d → AtL H L vs ds → AtL H L (v :: vs) (d :: ds)
end

/-- same at a, up to a lock -/
def SmAt (H H' : Hp) (a : Addr) : Prop := (∀ xs, H a = some (.lst xs) → H' a = some (.lst xs)) ∧ (∀ xs, H a = some (.tup xs) → H' a = some (.tup xs)) ∧ (∀ u, Rd H a u → Rd H' a u) ∧ ∀ o u, H a = some (.frz o u) → H' a = some (.frz o u)
theorem SmAt.of {H H' : Hp} {a : Addr} (h : ∀ o, H a = some o → H' a = some o) : SmAt H H' a :=
  ⟨fun xs q => h _ q, fun xs q => h _ q, fun u q => q.elim (fun z => .inl (h _ z)) fun ⟨o, z⟩ => .inr ⟨o, h _ z⟩, fun o u q => h _ q⟩
/-- .. also where a lock is taken off -/
def SmW (H H' : Hp) (a : Addr) : Prop := (∀ xs, H a = some (.lst xs) → H' a = some (.lst xs)) ∧ (∀ xs, H a = some (.tup xs) → H' a = some (.tup xs)) ∧ (∀ kvs, Rd H a (.dK kvs) → Rd H' a (.dK kvs)) ∧ ∀ kvs, Rd H a (.dT kvs) → Rd H' a (.dT kvs)
def TrW (H : Hp) (L : AdP) (H' : Hp) (L' : AdP) : Prop := ∀ a, H a ≠ none → ¬ L a → SmW H H' a ∧ ¬ L' a
def Tr (H : Hp) (L : AdP) (H' : Hp) (L' : AdP) : Prop := ∀ a, H a ≠ none → ¬ L a → SmAt H H' a ∧ ¬ L' a
theorem Tr.refl {H : Hp} {L : AdP} : Tr H L H L := fun a _ h => ⟨.of fun _ q => q, h⟩
theorem SmAt.trans {H H1 H2 : Hp} {a : Addr} (x : SmAt H H1 a) (y : SmAt H1 H2 a) : SmAt H H2 a := ⟨fun xs q => y.1 xs (x.1 xs q), fun xs q => y.2.1 xs (x.2.1 xs q), fun u q => y.2.2.1 u (x.2.2.1 u q), fun o u q => y.2.2.2 o u (x.2.2.2 o u q)⟩
theorem rd_some {H : Hp} {a : Addr} {u : HO} (h : Rd H a u) : H a ≠ none := by
  rcases h with h | ⟨o, h⟩ <;> rw [h] <;> exact fun z => nomatch z

theorem SmAt.there {H H1 : Hp} {a : Addr} (x : SmAt H H1 a) (h : H a ≠ none) : H1 a ≠ none := by
  cases q : H a with
  | none => exact absurd q h
  | some o => exact rd_some (x.2.2.1 o (.inl q))
theorem Tr.trans {H H1 H2 : Hp} {L L1 L2 : AdP} (x : Tr H L H1 L1) (y : Tr H1 L1 H2 L2) : Tr H L H2 L2 := fun a h n => by
  obtain ⟨s1, n1⟩ := x a h n
  obtain ⟨s2, n2⟩ := y a (s1.there h) n1
  exact ⟨s1.trans s2, n2⟩
mutual
theorem At.trW {H H' : Hp} {L L' : AdP} (t : TrW H L H' L') : ∀ {v : V} (d : PyData), At H L v d → At H' L' v d
  | _, .none, h => by cases h; exact .non
  | _, .bool b, h => by cases h; exact .bl b
  | _, .int i, h => by cases h; exact .int i
  | _, .str x, h => by cases h; exact .str x
  | _, .list ds, h => by
    cases h with
    | lst n e r =>
      have q := t _ (by rw [e]; exact fun z => nomatch z) n
      exact .lst q.2 (q.1.1 _ e) (AtL.trW t ds r)
  | _, .tuple ds, h => by
    cases h with
    | tup n e r =>
      have q := t _ (by rw [e]; exact fun z => nomatch z) n
      exact .tup q.2 (q.1.2.1 _ e) (AtL.trW t ds r)
  | _, .dict dd, h => by
    cases h with
    | dK n e k r =>
      have q := t _ (rd_some e) n
      exact .dK q.2 (q.1.2.2.1 _ e) k (AtL.trW2 t dd r)
    | dT n e k r =>
      have q := t _ (rd_some e) n
      exact .dT q.2 (q.1.2.2.2 _ e) k (AtL.trW2 t dd r)
theorem AtL.trW {H H' : Hp} {L L' : AdP} (t : TrW H L H' L') : ∀ {vs : List V} (ds : List PyData), AtL H L vs ds → AtL H' L' vs ds
  | _, [], h => by cases h; exact .nil
  | _, d :: ds, h => by
    cases h with
    | cons a b => exact .cons (At.trW t d a) (AtL.trW t ds b)
theorem AtL.trW2 {H H' : Hp} {L L' : AdP} (t : TrW H L H' L') : ∀ {vs : List V} (dd : List (PyData × PyData)), AtL H L vs (dd.map (·.2)) → AtL H' L' vs (dd.map (·.2))
  | _, [], h => by cases h; exact .nil
  | _, (k, d) :: dd, h => by
    cases h with
    | cons a b => exact .cons (At.trW t d a) (AtL.trW2 t dd b)
end

theorem Tr.w {H H' : Hp} {L L' : AdP} (t : Tr H L H' L') : TrW H L H' L' := fun a h n => let ⟨s, n'⟩ := t a h n; ⟨⟨s.1, s.2.1, fun kvs q => s.2.2.1 _ q, fun kvs q => s.2.2.1 _ q⟩, n'⟩
theorem At.tr {H H' : Hp} {L L' : AdP} (t : Tr H L H' L') {v : V} (d : PyData) (h : At H L v d) : At H' L' v d := At.trW t.w d h
theorem AtL.tr {H H' : Hp} {L L' : AdP} (t : Tr H L H' L') {vs : List V} (ds : List PyData) (h : AtL H L vs ds) : AtL H' L' vs ds := AtL.trW t.w ds h
theorem AtL.tr2 {H H' : Hp} {L L' : AdP} (t : Tr H L H' L') {vs : List V} (dd : List (PyData × PyData)) (h : AtL H L vs (dd.map (·.2))) : AtL H' L' vs (dd.map (·.2)) := AtL.trW2 t.w dd h

theorem AtL.length {H : Hp} {L : AdP} : ∀ {vs : List V} {ds : List PyData}, AtL H L vs ds → vs.length = ds.length
  | _, _, .nil => rfl
  | _, _, .cons _ t => congrArg (· + 1) (AtL.length t)
theorem AtL.get {H : Hp} {L : AdP} : ∀ {vs : List V} {ds : List PyData} {i : Nat} {d : PyData}, AtL H L vs ds → ds[i]? = some d → ∃ v, vs[i]? = some v ∧ At H L v d
  | _, _, _, _, .nil, e => by simp at e
  | _, _, 0, _, .cons r _, e => by simp at e; subst e; exact ⟨_, rfl, r⟩
  | _, _, i + 1, x, .cons _ t, e => by
    obtain ⟨u, h1, h2⟩ := AtL.get (i := i) t (by simpa using e)
    exact ⟨u, by simpa using h1, h2⟩
theorem AtL.get' {H : Hp} {L : AdP} : ∀ {vs : List V} {ds : List PyData} {i : Nat} {v : V}, AtL H L vs ds → vs[i]? = some v → ∃ d, ds[i]? = some d ∧ At H L v d
  | _, _, _, _, .nil, e => by simp at e
  | _, _, 0, _, .cons r _, e => by simp at e; subst e; exact ⟨_, rfl, r⟩
  | _, _, i + 1, x, .cons _ t, e => by
    obtain ⟨u, h1, h2⟩ := AtL.get' (i := i) t (by simpa using e)
    exact ⟨u, by simpa using h1, h2⟩
theorem AtL.append {H : Hp} {L : AdP} : ∀ {xs ys : List V} {us ws : List PyData}, AtL H L xs us → AtL H L ys ws → AtL H L (xs ++ ys) (us ++ ws)
  | _, _, _, _, .nil, s => s
  | _, _, _, _, .cons r t, s => .cons r (AtL.append t s)
theorem AtL.set {H : Hp} {L : AdP} {x : V} {u : PyData} (r : At H L x u) : ∀ {xs : List V} {us : List PyData} (i : Nat), AtL H L xs us → AtL H L (xs.set i x) (us.set i u)
  | _, _, _, .nil => .nil
  | _, _, 0, .cons _ t => .cons r t
  | _, _, i + 1, .cons q t => .cons q (AtL.set r i t)
theorem AtL.take {H : Hp} {L : AdP} : ∀ {xs : List V} {us : List PyData} (n : Nat), AtL H L xs us → AtL H L (xs.take n) (us.take n)
  | _, _, 0, _ => .nil
  | _, _, _ + 1, .nil => .nil
  | _, _, n + 1, .cons r t => .cons r (AtL.take n t)
theorem AtL.drop {H : Hp} {L : AdP} : ∀ {xs : List V} {us : List PyData} (n : Nat), AtL H L xs us → AtL H L (xs.drop n) (us.drop n)
  | _, _, 0, r => r
  | _, _, _ + 1, .nil => .nil
  | _, _, n + 1, .cons _ t => AtL.drop n t
theorem AtL.inj_int {H : Hp} {L : AdP} : ∀ {vs : List V} {ns : List Int}, AtL H L vs (ns.map .int) → vs = ns.map V.int
  | _, [], h => by cases h; rfl
  | _, n :: ns, h => by
    cases h with
    | cons a b => cases a; rw [AtL.inj_int b]; rfl
theorem AtL.of_ints {H : Hp} {L : AdP} : ∀ (ns : List Int), AtL H L (ns.map V.int) (ns.map .int)
  | [] => .nil
  | n :: ns => .cons (.int n) (AtL.of_ints ns)
theorem AtL.of_get {H : Hp} {L : AdP} : ∀ {vs : List V} {ds : List PyData}, vs.length = ds.length → (∀ (i : Nat) (v : V) (d : PyData), vs[i]? = some v → ds[i]? = some d → At H L v d) → AtL H L vs ds
  | [], [], _, _ => .nil
  | [], _ :: _, e, _ => by simp at e
  | _ :: _, [], e, _ => by simp at e
  | v :: vs, d :: ds, e, h => .cons (h 0 v d rfl rfl) (AtL.of_get (by simpa using e) fun i v' d' h1 h2 => h (i + 1) v' d' (by simpa using h1) (by simpa using h2))

/-! ### to the layer's Dp -/
mutual
theorem AtL.dp {K : PySem.W.Frag} {H : Hp} {L : AdP} : ∀ {vs : List V} (ds : List PyData), AtL H L vs ds → PyData.plainAll ds = true → DpAll K H vs ds
  | _, [], h, _ => by cases h; exact .nil
  | _, d :: ds, h, s => by
    cases h with
    | cons a b =>
      have s1 : PyData.plain d = true ∧ PyData.plainAll ds = true := by simpa [PyData.plainAll] using s
      exact .cons (At.dp d a s1.1) (AtL.dp ds b s1.2)
theorem At.dp {K : PySem.W.Frag} {H : Hp} {L : AdP} : ∀ {v : V} (d : PyData), At H L v d → PyData.plain d = true → Dp K H v d
  | _, .none, h, _ => by cases h; exact .non
  | _, .bool b, h, _ => by cases h; exact .bl b
  | _, .int i, h, _ => by cases h; exact .int i
  | _, .str x, h, _ => by cases h; exact .str x
  | _, .list ds, h, s => by
    cases h with
    | lst n e r => exact .lst (.of e) (AtL.dp ds r (by simpa [PyData.plain] using s))
  | _, .tuple ds, h, s => by
    cases h with
    | tup n e r => exact .tup (.of e) (AtL.dp ds r (by simpa [PyData.plain] using s))
  | _, .dict dd, h, s => by simp [PyData.plain] at s
end
/-- no dict within, at most n deep -/
def fitN : Nat → PyData → Bool
  | _, .none => true
  | _, .bool _ => true
  | _, .int _ => true
  | _, .str _ => true
  | n + 1, .list xs => xs.all (fitN n)
  | n + 1, .tuple xs => xs.all (fitN n)
  | _, _ => false
abbrev fit (d : PyData) : Bool := fitN 20 d
theorem fitN_all {n : Nat} (ih : ∀ d, fitN n d = true → PyData.plain d = true ∧ d.depth ≤ n) : ∀ xs : List PyData, xs.all (fitN n) = true → PyData.plainAll xs = true ∧ PyData.depthAll xs ≤ n
  | [], _ => ⟨rfl, by simp [PyData.depthAll]⟩
  | x :: xs, h => by
    rw [List.all_cons, Bool.and_eq_true] at h
    obtain ⟨a1, a2⟩ := ih x h.1
    obtain ⟨b1, b2⟩ := fitN_all ih xs h.2
    refine ⟨by rw [PyData.plainAll, a1, b1]; rfl, ?_⟩
    rw [PyData.depthAll]
    omega
theorem fitN_ok : ∀ (n : Nat) (d : PyData), fitN n d = true → PyData.plain d = true ∧ d.depth ≤ n
  | n, .none, _ => ⟨rfl, by simp [PyData.depth]⟩
  | n, .bool _, _ => ⟨rfl, by simp [PyData.depth]⟩
  | n, .int _, _ => ⟨rfl, by simp [PyData.depth]⟩
  | n, .str _, _ => ⟨rfl, by simp [PyData.depth]⟩
  | 0, .list xs, h => by simp [fitN] at h
  | 0, .tuple xs, h => by simp [fitN] at h
  | n + 1, .list xs, h => by
    obtain ⟨a, b⟩ := fitN_all (fitN_ok n) xs (by simpa [fitN] using h)
    exact ⟨by rw [PyData.plain, a], by rw [PyData.depth]; omega⟩
  | n + 1, .tuple xs, h => by
    obtain ⟨a, b⟩ := fitN_all (fitN_ok n) xs (by simpa [fitN] using h)
    exact ⟨by rw [PyData.plain, a], by rw [PyData.depth]; omega⟩
  | 0, .dict xs, h => by simp [fitN] at h
  | n + 1, .dict xs, h => by simp [fitN] at h
theorem fitL_ok {xs : List PyData} (h : xs.all fit = true) : PyData.plainAll xs = true ∧ PyData.depthAll xs ≤ 20 := fitN_all (fitN_ok 20) xs h
end DL
namespace DL
open PySem PySem.Spec L2

/-- what a slot holds: data; a cell of the store; an object of the slot's own; what is only read -/
inductive D where
  | p (d : PyData) | c (k : Nat) | o (m : PyData) | f (m : PyData)
/-- what a cell holds -/
inductive MO where
  | d (m : PyData) | ls (ds : List D) | dc (kvs : List (PyData × D)) | ins (n : Str) (fs : List (Str × D))
abbrev Env' := List (Option D)
abbrev Sto := List (Option MO)

/-! ### the context -/
structure Cxt where
  P : Program
  w : World
  K : PySem.W.Frag
  mg : Str → Option Value
  base : Heap
  N : List Str
  sc : Scope
  k : Nat
  fn : Str → Bool
structure InC (c : Cxt) (X : Cx) : Prop where
  prog : X.prog = c.P
  w : X.w = c.w
  K : X.K = c.K
  mg : X.mg = c.mg
  base : X.base = c.base
  N : X.N = c.N
  sc : X.env.scope = c.sc
  fn : X.fn = c.fn
  calm : X.calm = true
  room : Room c.k X.A
  xe : X.xe = fun _ _ => False

/-! ### objects in the heap -/
/-- the object at a holds m (a list, a dict), not locked -/
def Ob (H : Hp) (L : AdP) (a : Addr) : PyData → Prop
  | .list ds => ∃ xs, H a = some (.lst xs) ∧ AtL H L xs ds
  | .dict dd => (∃ kvs, H a = some (.dK kvs) ∧ dd.map (·.1) = kvs.map (fun p => keyD p.1) ∧ AtL H L (kvs.map (·.2)) (dd.map (·.2))) ∨
      (∃ kvs, H a = some (.dT kvs) ∧ dd.map (·.1) = kvs.map (fun p => keyT p.1) ∧ AtL H L (kvs.map (·.2)) (dd.map (·.2)))
  | _ => False
/-- .. at most read: perhaps locked, or of the module -/
def ObR (K : PySem.W.Frag) (H : Hp) (L : AdP) (a : Addr) : PyData → Prop
  | .list ds => ∃ xs, SqL K H a xs ∧ AtL H L xs ds
  | .dict dd => (∃ kvs, Rd H a (.dK kvs) ∧ dd.map (·.1) = kvs.map (fun p => keyD p.1) ∧ AtL H L (kvs.map (·.2)) (dd.map (·.2))) ∨
      (∃ kvs, Rd H a (.dT kvs) ∧ dd.map (·.1) = kvs.map (fun p => keyT p.1) ∧ AtL H L (kvs.map (·.2)) (dd.map (·.2)))
  | _ => False
def WrL (K : PySem.W.Frag) (a : Addr) (xs : List V) : Prop := ∃ (o : Obj) (its : Array Value) (n : Nat), K.lookup a = some o ∧ o.cls = .type "list" ∧ o.dict = none ∧ o.data = .seq its n ∧ its.size ≤ sizeLine ∧ Vals xs its.toList
def WrT (K : PySem.W.Frag) (a : Addr) (xs : List V) : Prop := ∃ (o : Obj) (its : Array Value) (n : Nat), K.lookup a = some o ∧ o.cls = .type "tuple" ∧ o.data = .seq its n ∧ its.size ≤ sizeLine ∧ Vals xs its.toList
/-- .. and no live cell (C) -/
def ObF (K : PySem.W.Frag) (H : Hp) (L C : AdP) (a : Addr) : PyData → Prop
  | .list ds => ∃ xs, ((¬ C a ∧ Rd H a (.lst xs)) ∨ WrL K a xs) ∧ AtL H L xs ds
  | .dict dd => ¬ C a ∧ ((∃ kvs, Rd H a (.dK kvs) ∧ dd.map (·.1) = kvs.map (fun p => keyD p.1) ∧ AtL H L (kvs.map (·.2)) (dd.map (·.2))) ∨
      (∃ kvs, Rd H a (.dT kvs) ∧ dd.map (·.1) = kvs.map (fun p => keyT p.1) ∧ AtL H L (kvs.map (·.2)) (dd.map (·.2))))
  | _ => False
theorem ObF.r {K : PySem.W.Frag} {H : Hp} {L C : AdP} {a : Addr} : ∀ {m : PyData}, ObF K H L C a m → ObR K H L a m
  | .list ds, ⟨xs, h, r⟩ => ⟨xs, h.imp And.right id, r⟩
  | .dict dd, ⟨_, h⟩ => h
theorem Ob.r {K : PySem.W.Frag} {H : Hp} {L : AdP} {a : Addr} : ∀ {m : PyData}, Ob H L a m → ObR K H L a m
  | .list ds, ⟨xs, h, r⟩ => ⟨xs, .of h, r⟩
  | .dict dd, .inl ⟨kvs, h, r⟩ => .inl ⟨kvs, .inl h, r⟩
  | .dict dd, .inr ⟨kvs, h, r⟩ => .inr ⟨kvs, .inl h, r⟩
theorem Ob.some {H : Hp} {L : AdP} {a : Addr} : ∀ {m : PyData}, Ob H L a m → H a ≠ none
  | .list ds, ⟨xs, h, r⟩ => by rw [h]; exact fun z => nomatch z
  | .dict dd, .inl ⟨kvs, h, r⟩ => by rw [h]; exact fun z => nomatch z
  | .dict dd, .inr ⟨kvs, h, r⟩ => by rw [h]; exact fun z => nomatch z
theorem Ob.trW {H H' : Hp} {L L' : AdP} {a : Addr} (t : TrW H L H' L') (k : ∀ o, H a = Option.some o → H' a = Option.some o) : ∀ {m : PyData}, Ob H L a m → Ob H' L' a m
  | .list ds, ⟨xs, h, r⟩ => ⟨xs, k _ h, AtL.trW t _ r⟩
  | .dict dd, .inl ⟨kvs, h, e, r⟩ => .inl ⟨kvs, k _ h, e, AtL.trW2 t _ r⟩
  | .dict dd, .inr ⟨kvs, h, e, r⟩ => .inr ⟨kvs, k _ h, e, AtL.trW2 t _ r⟩
theorem Ob.tr {H H' : Hp} {L L' : AdP} {a : Addr} (t : Tr H L H' L') (k : ∀ o, H a = Option.some o → H' a = Option.some o) {m : PyData} (h : Ob H L a m) : Ob H' L' a m := Ob.trW t.w k h
theorem sqL_tr {K : PySem.W.Frag} {H H' : Hp} {a : Addr} {xs : List V} (k : ∀ u, Rd H a u → Rd H' a u) (h : SqL K H a xs) : SqL K H' a xs := h.imp (k _) id
theorem sqT_tr {K : PySem.W.Frag} {H H' : Hp} {a : Addr} {xs : List V} (k : ∀ u, Rd H a u → Rd H' a u) (h : SqT K H a xs) : SqT K H' a xs := h.imp (k _) id
theorem ObR.tr {K : PySem.W.Frag} {H H' : Hp} {L L' : AdP} {a : Addr} (t : Tr H L H' L') (k : ∀ u, Rd H a u → Rd H' a u) : ∀ {m : PyData}, ObR K H L a m → ObR K H' L' a m
  | .list ds, ⟨xs, h, r⟩ => ⟨xs, sqL_tr k h, r.tr t⟩
  | .dict dd, .inl ⟨kvs, h, e, r⟩ => .inl ⟨kvs, k _ h, e, AtL.tr2 t _ r⟩
  | .dict dd, .inr ⟨kvs, h, e, r⟩ => .inr ⟨kvs, k _ h, e, AtL.tr2 t _ r⟩

/-- what is read as data -/
inductive Vw (K : PySem.W.Frag) (H : Hp) (L : AdP) : V → PyData → Prop
  | dat {v : V} {d : PyData} : At H L v d → Vw K H L v d
  | ob {a : Addr} {m : PyData} : ObR K H L a m → Vw K H L (.ref a) m

/-! ### the store -/
def LvC (adr : Nat → Addr) (S : Sto) : AdP := fun a => ∃ k mo, S[k]? = some (some mo) ∧ adr k = a
def Lvv (Lf : AdP) (adr : Nat → Addr) (S : Sto) : AdP := fun a => Lf a ∨ LvC adr S a
/-- a value v for d; L: what data avoids, Lf: the owned, C: the live cells, n: how many cells -/
def DR (K : PySem.W.Frag) (H : Hp) (L Lf C : AdP) (adr : Nat → Addr) (n : Nat) (v : V) : D → Prop
  | .p d => At H L v d
  | .c k => v = .ref (adr k) ∧ k < n
  | .o m => ∃ a, v = .ref a ∧ Lf a ∧ Ob H L a m
  | .f m => ∃ a, v = .ref a ∧ ObF K H L C a m
inductive DRL (K : PySem.W.Frag) (H : Hp) (L Lf C : AdP) (adr : Nat → Addr) (n : Nat) : List V → List D → Prop
  | nil : DRL K H L Lf C adr n [] []
  | cons {v : V} {vs : List V} {d : D} {ds : List D} : DR K H L Lf C adr n v d → DRL K H L Lf C adr n vs ds → DRL K H L Lf C adr n (v :: vs) (d :: ds)
/-- what a cell holds: data, cells -/
def DRc (H : Hp) (L : AdP) (adr : Nat → Addr) (n : Nat) (v : V) : D → Prop
  | .p d => At H L v d
  | .c k => v = .ref (adr k) ∧ k < n
  | _ => False
inductive DRcL (H : Hp) (L : AdP) (adr : Nat → Addr) (n : Nat) : List V → List D → Prop
  | nil : DRcL H L adr n [] []
  | cons {v : V} {vs : List V} {d : D} {ds : List D} : DRc H L adr n v d → DRcL H L adr n vs ds → DRcL H L adr n (v :: vs) (d :: ds)
theorem DRc.dr {K : PySem.W.Frag} {H : Hp} {L Lf C : AdP} {adr : Nat → Addr} {n : Nat} {v : V} {d : D} (h : DRc H L adr n v d) : DR K H L Lf C adr n v d := by
  cases d with
  | p d => exact h
  | c k => exact h
  | o m => exact h.elim
  | f m => exact h.elim
/-- the cell at address a -/
def MOb (c : Cxt) (H : Hp) (L : AdP) (adr : Nat → Addr) (n : Nat) (a : Addr) : MO → Prop
  | .d m => Ob H L a m
  | .ls ds => ∃ xs, H a = some (.lst xs) ∧ DRcL H L adr n xs ds
  | .dc kvs => (∃ es, H a = some (.dK es) ∧ kvs.map (·.1) = es.map (fun p => keyD p.1) ∧ DRcL H L adr n (es.map (·.2)) (kvs.map (·.2))) ∨
      (∃ es, H a = some (.dT es) ∧ kvs.map (·.1) = es.map (fun p => keyT p.1) ∧ DRcL H L adr n (es.map (·.2)) (kvs.map (·.2)))
  | .ins x fs => ∃ C' dx gs, c.mg x = some (.ref C') ∧ H a = some (.ins C' dx gs) ∧ gs.map (·.1) = fs.map (·.1) ∧ DRcL H L adr n (gs.map (·.2)) (fs.map (·.2))
/-- there, and no tuple -/
def Nt (H : Hp) (a : Addr) : Prop := ∃ o, H a = some o ∧ ∀ xs, o ≠ .tup xs
theorem Nt.ne {H : Hp} {a : Addr} (h : Nt H a) : H a ≠ none := by obtain ⟨o, e, _⟩ := h; rw [e]; exact fun z => nomatch z
theorem Nt.keep {H H' : Hp} {a : Addr} (h : Nt H a) (k : ∀ o, H a = some o → H' a = some o) : Nt H' a := let ⟨o, e, n⟩ := h; ⟨o, k o e, n⟩
theorem Nt.upd {H : Hp} {p a : Addr} {o : HO} (h : Nt H a) (ho : ∀ xs, o ≠ .tup xs) : Nt (upd H p o) a := by
  by_cases e : a = p
  · subst e; exact ⟨o, upd_same, ho⟩
  · obtain ⟨o', e', n⟩ := h
    exact ⟨o', by rw [upd_ne e]; exact e', n⟩
structure StOk (c : Cxt) (Lf : AdP) (adr : Nat → Addr) (S : Sto) (H : Hp) : Prop where
  inj : ∀ j k mo mo', S[j]? = some (some mo) → S[k]? = some (some mo') → adr j = adr k → j = k
  ob : ∀ k mo, S[k]? = some (some mo) → MOb c H (Lvv Lf adr S) adr S.length (adr k) mo
  disj : ∀ a, LvC adr S a → ¬ Lf a
  lfo : ∀ a, Lf a → Nt H a
theorem StOk.lf {c : Cxt} {Lf : AdP} {adr : Nat → Addr} {S : Sto} {H : Hp} (s : StOk c Lf adr S H) (a : Addr) (h : Lf a) : H a ≠ none := (s.lfo a h).ne
structure Ext (adr : Nat → Addr) (S : Sto) (H : Hp) (adr' : Nat → Addr) (S' : Sto) (H' : Hp) : Prop where
  len : S.length ≤ S'.length
  ad : ∀ k, k < S.length → adr' k = adr k
  keep : ∀ a o, H a = some o → ¬ LvC adr S a → H' a = some o
  trk : ∀ a, H a ≠ none → H' a ≠ none
  live : ∀ a, LvC adr' S' a → LvC adr S a ∨ H a = none
theorem Ext.refl {adr : Nat → Addr} {S : Sto} {H : Hp} : Ext adr S H adr S H := ⟨Nat.le_refl _, fun _ _ => rfl, fun _ _ h _ => h, fun _ h => h, fun _ h => .inl h⟩
theorem Ext.trans {a1 a2 a3 : Nat → Addr} {S1 S2 S3 : Sto} {H1 H2 H3 : Hp} (x : Ext a1 S1 H1 a2 S2 H2) (y : Ext a2 S2 H2 a3 S3 H3) : Ext a1 S1 H1 a3 S3 H3 where
  len := Nat.le_trans x.len y.len
  ad := fun k h => (y.ad k (Nat.lt_of_lt_of_le h x.len)).trans (x.ad k h)
  keep := fun a o h n => y.keep a o (x.keep a o h n) fun z => (x.live a z).elim n fun q => by rw [h] at q; cases q
  trk := fun a h => y.trk a (x.trk a h)
  live := fun a h => by
    rcases y.live a h with z | z
    · exact x.live a z
    · by_cases q : H1 a = none
      · exact .inr q
      · exact absurd z (x.trk a q)
/-- the heap has grown -/
theorem Ext.grow {adr : Nat → Addr} {S : Sto} {H H' : Hp} (h : ∀ a o, H a = some o → H' a = some o) : Ext adr S H adr S H' :=
  ⟨Nat.le_refl _, fun _ _ => rfl, fun a o q _ => h a o q, fun a q => (by
    cases e : H a with
    | none => exact absurd e q
    | some o => rw [h a o e]; exact fun z => nomatch z), fun _ h => Or.inl h⟩
theorem Ext.tr {Lf Lf' : AdP} {adr adr' : Nat → Addr} {S S' : Sto} {H H' : Hp} (x : Ext adr S H adr' S' H') (hl : ∀ a, Lf' a → Lf a ∨ H a = none) : Tr H (Lvv Lf adr S) H' (Lvv Lf' adr' S') := fun a h n => by
  have n1 : ¬ Lf a := fun z => n (.inl z)
  have n2 : ¬ LvC adr S a := fun z => n (.inr z)
  refine ⟨.of fun o q => x.keep a o q n2, fun z => ?_⟩
  rcases z with z | z
  · exact (hl a z).elim n1 h
  · exact (x.live a z).elim n2 h
theorem rd_keep {H H' : Hp} {a : Addr} (k : ∀ o, H a = some o → H' a = some o) {u : HO} (h : Rd H a u) : Rd H' a u := h.imp (k _) fun ⟨o, z⟩ => ⟨o, k _ z⟩
theorem ObF.ext {K : PySem.W.Frag} {Lf Lf' : AdP} {adr adr' : Nat → Addr} {S S' : Sto} {H H' : Hp} {a : Addr} (x : Ext adr S H adr' S' H') (hl : ∀ a, Lf' a → Lf a ∨ H a = none) :
    ∀ {m : PyData}, ObF K H (Lvv Lf adr S) (LvC adr S) a m → ObF K H' (Lvv Lf' adr' S') (LvC adr' S') a m := by
  have t := x.tr hl
  have nc : ∀ u, ¬ LvC adr S a → Rd H a u → ¬ LvC adr' S' a ∧ Rd H' a u := fun u n r =>
    ⟨fun z => (x.live a z).elim n (rd_some r), rd_keep (fun o q => x.keep a o q n) r⟩
  intro m h
  cases m with
  | list ds =>
    obtain ⟨xs, h, r⟩ := h
    exact ⟨xs, h.imp (fun q => nc _ q.1 q.2) id, r.tr t⟩
  | tuple ds => exact h.elim
  | dict dd =>
    obtain ⟨n, h | h⟩ := h
    · obtain ⟨kvs, h, e, r⟩ := h
      exact ⟨(nc _ n h).1, .inl ⟨kvs, (nc _ n h).2, e, AtL.tr2 t _ r⟩⟩
    · obtain ⟨kvs, h, e, r⟩ := h
      exact ⟨(nc _ n h).1, .inr ⟨kvs, (nc _ n h).2, e, AtL.tr2 t _ r⟩⟩
  | none => exact h.elim
  | bool => exact h.elim
  | int => exact h.elim
  | str => exact h.elim
/-- values stay -/
theorem DR.ext {K : PySem.W.Frag} {Lf Lf' : AdP} {adr adr' : Nat → Addr} {S S' : Sto} {H H' : Hp} (x : Ext adr S H adr' S' H') (hl : ∀ a, Lf' a → Lf a ∨ H a = none) (hs : ∀ a, Lf a → Lf' a) (hd : ∀ a, LvC adr S a → ¬ Lf a) {v : V} :
    ∀ {d : D}, DR K H (Lvv Lf adr S) Lf (LvC adr S) adr S.length v d → DR K H' (Lvv Lf' adr' S') Lf' (LvC adr' S') adr' S'.length v d
  | .p d, h => At.tr (x.tr hl) d h
  | .c k, ⟨h1, h2⟩ => ⟨h1.trans (by rw [x.ad k h2]), Nat.lt_of_lt_of_le h2 x.len⟩
  | .o m, ⟨a, e, l, h⟩ => ⟨a, e, hs a l, h.tr (x.tr hl) fun o q => x.keep a o q fun z => hd a z l⟩
  | .f m, ⟨a, e, h⟩ => ⟨a, e, h.ext x hl⟩
theorem DRL.ext {K : PySem.W.Frag} {Lf Lf' : AdP} {adr adr' : Nat → Addr} {S S' : Sto} {H H' : Hp} (x : Ext adr S H adr' S' H') (hl : ∀ a, Lf' a → Lf a ∨ H a = none) (hs : ∀ a, Lf a → Lf' a) (hd : ∀ a, LvC adr S a → ¬ Lf a) {vs : List V} :
    ∀ {ds : List D}, DRL K H (Lvv Lf adr S) Lf (LvC adr S) adr S.length vs ds → DRL K H' (Lvv Lf' adr' S') Lf' (LvC adr' S') adr' S'.length vs ds
  | _, .nil => .nil
  | _, .cons a b => .cons (a.ext x hl hs hd) (DRL.ext x hl hs hd b)
/-! ### the slots -/
structure EOk (c : Cxt) (Lf : AdP) (adr : Nat → Addr) (S : Sto) (σ : St) (H : Hp) (ρ : Env') : Prop where
  slot : ∀ (i : Nat) (d : D), ρ[i]? = some (some d) → ∃ v, σ[i]? = some (some v) ∧ DR c.K H (Lvv Lf adr S) Lf (LvC adr S) adr S.length v d
  sto : StOk c Lf adr S H
  len : σ.length = ρ.length
theorem EOk.ext {c : Cxt} {Lf : AdP} {adr adr' : Nat → Addr} {S S' : Sto} {σ : St} {H H' : Hp} {ρ : Env'} (I : EOk c Lf adr S σ H ρ) (x : Ext adr S H adr' S' H') (s : StOk c Lf adr' S' H') : EOk c Lf adr' S' σ H' ρ :=
  ⟨fun i d h => let ⟨v, h1, h2⟩ := I.slot i d h; ⟨v, h1, h2.ext x (fun _ z => .inl z) (fun _ z => z) I.sto.disj⟩, s, I.len⟩
/-- .. and something new is owned -/
theorem EOk.ext' {c : Cxt} {Lf Lf' : AdP} {adr adr' : Nat → Addr} {S S' : Sto} {σ : St} {H H' : Hp} {ρ : Env'} (I : EOk c Lf adr S σ H ρ) (x : Ext adr S H adr' S' H') (s : StOk c Lf' adr' S' H') (hl : ∀ a, Lf' a → Lf a ∨ H a = none) (hs : ∀ a, Lf a → Lf' a) : EOk c Lf' adr' S' σ H' ρ :=
  ⟨fun i d h => let ⟨v, h1, h2⟩ := I.slot i d h; ⟨v, h1, h2.ext x hl hs I.sto.disj⟩, s, I.len⟩
theorem MOb.there {c : Cxt} {H : Hp} {L : AdP} {adr : Nat → Addr} {n : Nat} {a : Addr} {mo : MO} (q : MOb c H L adr n a mo) : H a ≠ none := by
  cases mo with
  | d m => exact Ob.some q
  | ls ds => obtain ⟨xs, q, _⟩ := q; rw [q]; exact fun z => nomatch z
  | dc kvs => rcases q with ⟨es, q, _⟩ | ⟨es, q, _⟩ <;> (rw [q]; exact fun z => nomatch z)
  | ins n fs => obtain ⟨C', dx, gs, _, q, _⟩ := q; rw [q]; exact fun z => nomatch z
/-- the store's objects stand -/
theorem MOb.trW {c : Cxt} {H H' : Hp} {L L' : AdP} {adr adr' : Nat → Addr} {n n' : Nat} (t : TrW H L H' L') (hn : n ≤ n') (ha : ∀ k, k < n → adr' k = adr k) {a : Addr} (k : ∀ o, H a = some o → H' a = some o) :
    ∀ {mo : MO}, MOb c H L adr n a mo → MOb c H' L' adr' n' a mo := by
  have drl : ∀ {vs : List V} {ds : List D}, DRcL H L adr n vs ds → DRcL H' L' adr' n' vs ds := fun {vs ds} h => by
    induction h with
    | nil => exact .nil
    | @cons v vs d ds a b ih =>
      refine .cons ?_ ih
      cases d with
      | p d => exact At.trW t d a
      | c k => exact ⟨a.1.trans (by rw [ha k a.2]), Nat.lt_of_lt_of_le a.2 hn⟩
      | o m => exact a.elim
      | f m => exact a.elim
  intro mo h
  cases mo with
  | d m => exact Ob.trW t k h
  | ls ds => obtain ⟨xs, h, r⟩ := h; exact ⟨xs, k _ h, drl r⟩
  | dc kvs =>
    rcases h with ⟨es, h, e, r⟩ | ⟨es, h, e, r⟩
    · exact .inl ⟨es, k _ h, e, drl r⟩
    · exact .inr ⟨es, k _ h, e, drl r⟩
  | ins n fs => obtain ⟨C', dx, gs, h1, h2, e, r⟩ := h; exact ⟨C', dx, gs, h1, k _ h2, e, drl r⟩
theorem MOb.tr {c : Cxt} {H H' : Hp} {L L' : AdP} {adr adr' : Nat → Addr} {n n' : Nat} (t : Tr H L H' L') (hn : n ≤ n') (ha : ∀ k, k < n → adr' k = adr k) {a : Addr} (k : ∀ o, H a = some o → H' a = some o) {mo : MO} (h : MOb c H L adr n a mo) : MOb c H' L' adr' n' a mo := MOb.trW t.w hn ha k h
theorem MOb.ext {c : Cxt} {Lf Lf' : AdP} {adr adr' : Nat → Addr} {S S' : Sto} {H H' : Hp} (x : Ext adr S H adr' S' H') (hl : ∀ a, Lf' a → Lf a ∨ H a = none) {a : Addr} (k : ∀ o, H a = some o → H' a = some o)
    {mo : MO} (h : MOb c H (Lvv Lf adr S) adr S.length a mo) : MOb c H' (Lvv Lf' adr' S') adr' S'.length a mo := MOb.tr (x.tr hl) x.len x.ad k h
/-- the heap has grown, the store is as it was -/
theorem StOk.grow {c : Cxt} {Lf Lf' : AdP} {adr : Nat → Addr} {S : Sto} {H H' : Hp} (s : StOk c Lf adr S H) (h : ∀ a o, H a = some o → H' a = some o) (hl : ∀ a, Lf' a → (Lf a ∨ H a = none) ∧ Nt H' a) : StOk c Lf' adr S H' := by
  have x : Ext adr S H adr S H' := .grow h
  have ne : ∀ k mo, S[k]? = some (some mo) → H (adr k) ≠ none := fun k mo e => (s.ob k mo e).there
  refine ⟨s.inj, fun k mo e => MOb.ext x (fun a z => (hl a z).1) (fun o q => h _ o q) (s.ob k mo e), fun a z1 z2 => ?_, fun a z => (hl a z).2⟩
  rcases (hl a z2).1 with z | z
  · exact s.disj a z1 z
  · obtain ⟨k, mo, e1, e2⟩ := z1
    exact ne k mo e1 (by rw [e2]; exact z)
theorem StOk.weak {c : Cxt} {Lf Lf' : AdP} {adr : Nat → Addr} {S : Sto} {H : Hp} (s : StOk c Lf adr S H) (h : ∀ a, Lf' a → Lf a) : StOk c Lf' adr S H :=
  ⟨s.inj, fun k mo e => MOb.ext .refl (fun a z => .inl (h a z)) (fun o q => q) (s.ob k mo e), fun a z q => s.disj a z (h a q), fun a q => s.lfo a (h a q)⟩
theorem StOk.ne {c : Cxt} {Lf : AdP} {adr : Nat → Addr} {S : Sto} {H : Hp} (s : StOk c Lf adr S H) {a : Addr} (h : LvC adr S a) : H a ≠ none := by
  obtain ⟨k, mo, e, rfl⟩ := h
  exact (s.ob k mo e).there
/-- what is owned is written -/
theorem StOk.updO {c : Cxt} {Lf : AdP} {adr : Nat → Addr} {S : Sto} {H : Hp} {p : Addr} {o : HO} (s : StOk c Lf adr S H) (hp : Lf p) (ho : ∀ xs, o ≠ .tup xs := by exact fun _ z => nomatch z) : StOk c Lf adr S (upd H p o) := by
  have t : Tr H (Lvv Lf adr S) (upd H p o) (Lvv Lf adr S) := fun a h n => ⟨.of fun u q => by rw [upd_ne (fun z => n (.inl (by rw [z]; exact hp)))]; exact q, n⟩
  refine ⟨s.inj, fun k mo e => MOb.tr t (Nat.le_refl _) (fun _ _ => rfl) (fun u q => ?_) (s.ob k mo e), s.disj, fun a z => ?_⟩
  · rw [upd_ne fun z => s.disj _ ⟨k, mo, e, rfl⟩ (by rw [z]; exact hp)]
    exact q
  · exact (s.lfo a z).upd ho
theorem Ob.nt {H : Hp} {L : AdP} {a : Addr} : ∀ {m : PyData}, Ob H L a m → Nt H a
  | .list ds, ⟨xs, h, r⟩ => ⟨_, h, fun _ z => nomatch z⟩
  | .dict dd, .inl ⟨kvs, h, r⟩ => ⟨_, h, fun _ z => nomatch z⟩
  | .dict dd, .inr ⟨kvs, h, r⟩ => ⟨_, h, fun _ z => nomatch z⟩
theorem MOb.nt {c : Cxt} {H : Hp} {L : AdP} {adr : Nat → Addr} {n : Nat} {a : Addr} {mo : MO} (h : MOb c H L adr n a mo) : Nt H a := by
  cases mo with
  | d m => exact Ob.nt h
  | ls ds => obtain ⟨xs, h, _⟩ := h; exact ⟨_, h, fun _ z => nomatch z⟩
  | dc kvs => rcases h with ⟨es, h, _⟩ | ⟨es, h, _⟩ <;> exact ⟨_, h, fun _ z => nomatch z⟩
  | ins n fs => obtain ⟨C', dx, gs, _, h, _⟩ := h; exact ⟨_, h, fun _ z => nomatch z⟩
/-- a tuple is data: not owned, no cell -/
theorem StOk.tup {c : Cxt} {Lf : AdP} {adr : Nat → Addr} {S : Sto} {H : Hp} (s : StOk c Lf adr S H) {a : Addr} {xs : List V} (h : H a = some (.tup xs)) : ¬ Lvv Lf adr S a := fun z => by
  have : Nt H a := z.elim (s.lfo a) fun ⟨k, mo, e, q⟩ => by rw [← q]; exact (s.ob k mo e).nt
  obtain ⟨o, e, n⟩ := this
  rw [h] at e
  cases e
  exact n _ rfl
theorem StOk.lvo {c : Cxt} {Lf : AdP} {adr : Nat → Addr} {S : Sto} {H : Hp} (s : StOk c Lf adr S H) {a : Addr} (h : Lvv Lf adr S a) : Nt H a := h.elim (s.lfo a) fun ⟨k, mo, e, q⟩ => by rw [← q]; exact (s.ob k mo e).nt
theorem StOk.lvv {c : Cxt} {Lf : AdP} {adr : Nat → Addr} {S : Sto} {H : Hp} (s : StOk c Lf adr S H) {a : Addr} (h : Lvv Lf adr S a) : H a ≠ none := h.elim (s.lf a) s.ne
end DL
namespace DL
open PySem PySem.Spec L2

/-! ### operators by data -/
section
variable {X : Cx} {pins : List (Addr × Obj)} {σ : L2.St} {H : Hp} {s : Shared} {L : AdP}
theorem ObR.dp {K : PySem.W.Frag} {H : Hp} {L : AdP} {a : Addr} : ∀ {m : PyData}, ObR K H L a m → m.plain = true → Dp K H (.ref a) m
  | .list ds, ⟨xs, h, r⟩, p => .lst h (AtL.dp ds r (by simpa [PyData.plain] using p))
  | .dict dd, _, p => by simp [PyData.plain] at p
theorem Vw.dp {K : PySem.W.Frag} {v : V} {d : PyData} (h : Vw K H L v d) (p : d.plain = true) : Dp K H v d := by
  cases h with
  | dat h => exact h.dp d p
  | ob h => exact h.dp p
theorem Vw.reads (I : Inv X pins σ H s) {v : V} {u : Value} {d : PyData} (h : Vw X.K H L v d) (r : RelV v u) (p : d.plain = true) : ∃ as, Reads s.heap u d as := Dp.reads I d v u (h.dp p) r

/-- the wish of a result as data: the heap has grown, the result is data -/
abbrev Gr (H : Hp) (L : AdP) (Q : VK) (r : PyData) : Prop := ∀ w' H', (∀ a o, H a = some o → H' a = some o) → At H' L w' r → Q w' H'
def rD (K : PySem.W.Frag) (op : PyData → PyData → Option PyData) : R2 := fun x y H Q => ∃ (L : AdP) (a b r : PyData), (∀ z, L z → H z ≠ none) ∧ Vw K H L x a ∧ Vw K H L y b ∧ op a b = some r ∧ Gr H L Q r

theorem Vw.int_inv {K : PySem.W.Frag} {v : V} {i : Int} (h : Vw K H L v (.int i)) : v = .int i := by
  cases h with
  | dat h => cases h; rfl
  | ob h => exact h.elim
theorem Vw.str_inv {K : PySem.W.Frag} {v : V} {i : Str} (h : Vw K H L v (.str i)) : v = .str i := by
  cases h with
  | dat h => cases h; rfl
  | ob h => exact h.elim
theorem Vw.bl_inv {K : PySem.W.Frag} {v : V} {i : Bool} (h : Vw K H L v (.bool i)) : v = .bl i := by
  cases h with
  | dat h => cases h; rfl
  | ob h => exact h.elim
theorem Vw.none_inv {K : PySem.W.Frag} {v : V} (h : Vw K H L v .none) : v = .non := by
  cases h with
  | dat h => cases h; rfl
  | ob h => exact h.elim
theorem Vw.list_inv {K : PySem.W.Frag} {v : V} {ds : List PyData} (h : Vw K H L v (.list ds)) : ∃ a xs, v = .ref a ∧ SqL K H a xs ∧ AtL H L xs ds := by
  cases h with
  | dat h => cases h with | lst n e r => exact ⟨_, _, rfl, .of e, r⟩
  | ob h => obtain ⟨xs, h, r⟩ := h; exact ⟨_, _, rfl, h, r⟩
theorem Vw.tuple_at {K : PySem.W.Frag} {v : V} {ds : List PyData} (h : Vw K H L v (.tuple ds)) : At H L v (.tuple ds) := by
  cases h with
  | dat h => exact h
  | ob h => exact h.elim
theorem Vw.tuple_inv {K : PySem.W.Frag} {v : V} {ds : List PyData} (h : Vw K H L v (.tuple ds)) : ∃ a xs, v = .ref a ∧ SqT K H a xs ∧ AtL H L xs ds := by
  cases h.tuple_at with
  | tup n e r => exact ⟨_, _, rfl, .of e, r⟩
theorem Vw.dict_inv {K : PySem.W.Frag} {v : V} {dd : List (PyData × PyData)} (h : Vw K H L v (.dict dd)) : ∃ a, v = .ref a ∧ ((∃ kvs, Rd H a (.dK kvs) ∧ dd.map (·.1) = kvs.map (fun p => keyD p.1) ∧ AtL H L (kvs.map (·.2)) (dd.map (·.2))) ∨
      (∃ kvs, Rd H a (.dT kvs) ∧ dd.map (·.1) = kvs.map (fun p => keyT p.1) ∧ AtL H L (kvs.map (·.2)) (dd.map (·.2)))) := by
  cases h with
  | dat h => cases h with
    | dK n e k r => exact ⟨_, rfl, .inl ⟨_, e, k, r⟩⟩
    | dT n e k r => exact ⟨_, rfl, .inr ⟨_, e, k, r⟩⟩
  | ob h => exact ⟨_, rfl, h⟩
theorem At.of_int (i : Int) : At H L (.int i) (.int i) := .int i

/-! ints -/
/-- an operator of two ints, by its rule -/
theorem opInt {f : Value → Value → Sem Value} {C : Int → Int → Prop} [∀ i j, Decidable (C i j)] {g : Int → Int → V} {g' : Int → Int → PyData} (hg : ∀ i j (H : Hp) (L : AdP), At H L (g i j) (g' i j)) (h : OpR X f (rI C g)) :
    OpR X f (rD X.K fun a b => match a, b with | .int i, .int j => if C i j then some (g' i j) else none | _, _ => none) := by
  intro pins s σ H x y v u Q I rx ry hq
  obtain ⟨L, a, b, r, hl, ha, hb, e, q⟩ := hq
  cases a <;> cases b <;> simp at e
  rename_i i j
  obtain ⟨c, e⟩ := e
  subst e
  have e1 := ha.int_inv
  have e2 := hb.int_inv
  subst e1; subst e2
  exact h pins s σ H _ _ v u Q I rx ry ⟨i, j, rfl, rfl, c, q _ _ (fun _ _ z => z) (hg i j H L)⟩
theorem opInt0 {f : Value → Value → Sem Value} {g : Int → Int → V} {g' : Int → Int → PyData} (hg : ∀ i j (H : Hp) (L : AdP), At H L (g i j) (g' i j)) (h : OpR X f (rI0 g)) :
    OpR X f (rD X.K fun a b => match a, b with | .int i, .int j => some (g' i j) | _, _ => none) := by
  intro pins s σ H x y v u Q I rx ry hq
  obtain ⟨L, a, b, r, hl, ha, hb, e, q⟩ := hq
  cases a <;> cases b <;> simp at e
  rename_i i j
  subst e
  have e1 := ha.int_inv
  have e2 := hb.int_inv
  subst e1; subst e2
  exact h pins s σ H _ _ v u Q I rx ry ⟨i, j, rfl, rfl, q _ _ (fun _ _ z => z) (hg i j H L)⟩
/-- the one or the other -/
theorem opOr {f : Value → Value → Sem Value} {op op' : PyData → PyData → Option PyData} (h : OpR X f (rD X.K op)) (h' : OpR X f (rD X.K op')) {op2 : PyData → PyData → Option PyData}
    (e : ∀ a b r, op2 a b = some r → op a b = some r ∨ op' a b = some r) : OpR X f (rD X.K op2) := by
  intro pins s σ H x y v u Q I rx ry hq
  obtain ⟨L, a, b, r, hl, ha, hb, q, w⟩ := hq
  rcases e a b r q with q | q
  · exact h pins s σ H x y v u Q I rx ry ⟨L, a, b, r, hl, ha, hb, q, w⟩
  · exact h' pins s σ H x y v u Q I rx ry ⟨L, a, b, r, hl, ha, hb, q, w⟩

abbrev big : Nat := 16777216
def subD : PyData → PyData → Option PyData
  | .int i, .int j => some (.int (i - j))
  | _, _ => none
def mulI : PyData → PyData → Option PyData
  | .int i, .int j => if (i.natAbs < 2 ^ 64 ∨ j.natAbs < 2 ^ 64) then some (.int (i * j)) else none
  | _, _ => none
def fdivD : PyData → PyData → Option PyData
  | .int i, .int j => if (j ≠ 0 ∧ j.natAbs < 340282366920938463463374607431768211456) then some (.int (i.fdiv j)) else none
  | _, _ => none
def modD : PyData → PyData → Option PyData
  | .int i, .int j => if j ≠ 0 then some (.int (i.fmod j)) else none
  | _, _ => none
def powD : PyData → PyData → Option PyData
  | .int i, .int j => if (0 ≤ j ∧ j ≤ 1000000 ∧ i.natAbs < 2 ^ 64) then some (.int (i ^ j.toNat)) else none
  | _, _ => none
def shlD : PyData → PyData → Option PyData
  | .int i, .int j => if (0 ≤ j ∧ j ≤ 1000000 ∧ i.natAbs < 2 ^ 64) then some (.int (i * 2 ^ j.toNat)) else none
  | _, _ => none
def shrD : PyData → PyData → Option PyData
  | .int i, .int j => if 0 ≤ j then some (.int (i / 2 ^ j.toNat)) else none
  | _, _ => none
def andD : PyData → PyData → Option PyData
  | .int i, .int j => some (.int (Builtin.bitAnd i j))
  | _, _ => none
def xorD : PyData → PyData → Option PyData
  | .int i, .int j => some (.int (Builtin.bitXor i j))
  | _, _ => none
theorem opEq {f : Value → Value → Sem Value} {op op' : PyData → PyData → Option PyData} (h : OpR X f (rD X.K op)) (e : ∀ a b r, op' a b = some r → op a b = some r) : OpR X f (rD X.K op') := opOr h h fun a b r q => .inl (e a b r q)
theorem ho_sub : OpR X (binaryOp .Sub) (rD X.K subD) := opEq (opInt0 (g' := fun i j => .int (i - j)) (fun i j H L => .int _) op_sub) fun a b r q => by cases a <;> cases b <;> first | exact q | cases q
theorem ho_mulI : OpR X (binaryOp .Mult) (rD X.K mulI) := opEq (opInt (C := fun i j => (-(2 ^ 64) < i ∧ i < 2 ^ 64) ∨ (-(2 ^ 64) < j ∧ j < 2 ^ 64)) (g' := fun i j => .int (i * j)) (fun i j H L => .int _) op_mul) fun a b r q => by
  cases a <;> cases b <;> simp [mulI] at q ⊢
  refine ⟨?_, q.2⟩
  rcases q.1 with h | h
  · left; omega
  · right; omega
theorem op_fdivX : OpR X (binaryOp .FloorDiv) (rI (fun _ j => j ≠ 0 ∧ j.natAbs < 340282366920938463463374607431768211456) fun i j => .int (i.fdiv j)) := opI fun _ j _ _ _ _ _ hc q => PyProof.Rows.floordiv_int hc.1 q (.inl (PyProof.noPylong_of_log2 (Nat.lt_trans (PySem.Flt.log2_lt_of (k := 128) (by omega) (Nat.lt_of_lt_of_eq hc.2 (by decide))) (by omega))))
theorem ho_fdiv : OpR X (binaryOp .FloorDiv) (rD X.K fdivD) := opEq (opInt (C := fun i j => j ≠ 0 ∧ j.natAbs < 340282366920938463463374607431768211456) (g' := fun i j => .int (i.fdiv j)) (fun i j H L => .int _) op_fdivX) fun a b r q => by
  cases a <;> cases b <;> first | exact q | cases q
theorem ho_mod : OpR X (binaryOp .Mod) (rD X.K modD) := opEq (opInt (C := fun i j => j ≠ 0) (g' := fun i j => .int (i.fmod j)) (fun i j H L => .int _) op_modN) fun a b r q => by
  cases a <;> cases b <;> first | exact q | cases q
theorem ho_pow : OpR X (binaryOp .Pow) (rD X.K powD) := opEq (opInt (C := fun i j => 0 ≤ j ∧ j ≤ 1000000 ∧ i.natAbs < 2 ^ 64) (g' := fun i j => .int (i ^ j.toNat)) (fun i j H L => .int _) op_pow) fun a b r q => by
  cases a <;> cases b <;> first | exact q | cases q
theorem ho_shl : OpR X (binaryOp .LShift) (rD X.K shlD) := opEq (opInt (C := fun i j => 0 ≤ j ∧ j ≤ 1000000 ∧ i.natAbs < 2 ^ 64) (g' := fun i j => .int (i * 2 ^ j.toNat)) (fun i j H L => .int _) op_shl) fun a b r q => by
  cases a <;> cases b <;> first | exact q | cases q
theorem ho_shr : OpR X (binaryOp .RShift) (rD X.K shrD) := opEq (opInt (C := fun i j => 0 ≤ j) (g' := fun i j => .int (i / 2 ^ j.toNat)) (fun i j H L => .int _) op_shr) fun a b r q => by
  cases a <;> cases b <;> first | exact q | cases q
theorem ho_and : OpR X (binaryOp .BitAnd) (rD X.K andD) := opEq (opInt0 (g' := fun i j => .int (Builtin.bitAnd i j)) (fun i j H L => .int _) op_and) fun a b r q => by cases a <;> cases b <;> first | exact q | cases q
theorem ho_xor : OpR X (binaryOp .BitXor) (rD X.K xorD) := opEq (opInt0 (g' := fun i j => .int (Builtin.bitXor i j)) (fun i j H L => .int _) op_xor) fun a b r q => by cases a <;> cases b <;> first | exact q | cases q

/-! + -/
def addI : PyData → PyData → Option PyData
  | .int i, .int j => some (.int (i + j))
  | _, _ => none
def addS : PyData → PyData → Option PyData
  | .str i, .str j => if i.length + j.length ≤ sizeLine then some (.str (i ++ j)) else none
  | _, _ => none
def addT : PyData → PyData → Option PyData
  | .tuple xs, .tuple ys => if xs.length + ys.length ≤ sizeLine then some (.tuple (xs ++ ys)) else none
  | _, _ => none
theorem ho_addI : OpR X (binaryOp .Add) (rD X.K addI) := opEq (opInt0 (g' := fun i j => .int (i + j)) (fun i j H L => .int _) op_add) fun a b r q => by cases a <;> cases b <;> first | exact q | cases q
theorem ho_addS : OpR X (binaryOp .Add) (rD X.K addS) := by
  intro pins s σ H x y v u Q I rx ry hq
  obtain ⟨L, a, b, r, hl, ha, hb, e, q⟩ := hq
  cases a <;> cases b <;> simp [addS] at e
  rename_i i j
  obtain ⟨c, e⟩ := e
  subst e
  have e1 := ha.str_inv
  have e2 := hb.str_inv
  subst e1; subst e2
  exact op_add_str pins s σ H _ _ v u Q I rx ry ⟨i, j, rfl, rfl, c, q _ _ (fun _ _ z => z) (.str _)⟩
theorem upd_grow {p : Addr} {o : HO} (h : H p = none) : ∀ a u, H a = some u → upd H p o a = some u := fun a u e => by rw [upd_ne (ne_of_none e h)]; exact e
theorem grow_tr {H H' : Hp} {L : AdP} (k : ∀ a o, H a = some o → H' a = some o) : Tr H L H' L := fun a h n => ⟨.of fun o q => k a o q, n⟩
theorem AtL.grow {H H' : Hp} {L : AdP} (k : ∀ a o, H a = some o → H' a = some o) {vs : List V} {ds : List PyData} (h : AtL H L vs ds) : AtL H' L vs ds := h.tr (grow_tr k)
theorem At.grow {H H' : Hp} {L : AdP} (k : ∀ a o, H a = some o → H' a = some o) {vs : V} {ds : PyData} (h : At H L vs ds) : At H' L vs ds := h.tr (grow_tr k)
theorem At.newT {p : Addr} {xs : List V} {ds : List PyData} (hl : ∀ z, L z → H z ≠ none) (h : H p = none) (r : AtL H L xs ds) : At (upd H p (.tup xs)) L (.ref p) (.tuple ds) :=
  .tup (fun z => hl p z h) upd_same (r.grow (upd_grow h))
theorem At.newL {p : Addr} {xs : List V} {ds : List PyData} (hl : ∀ z, L z → H z ≠ none) (h : H p = none) (r : AtL H L xs ds) : At (upd H p (.lst xs)) L (.ref p) (.list ds) :=
  .lst (fun z => hl p z h) upd_same (r.grow (upd_grow h))
theorem ho_addT : OpR X (binaryOp .Add) (rD X.K addT) := by
  intro pins s σ H x y v u Q I rx ry hq
  obtain ⟨L, a, b, r, hl, ha, hb, e, q⟩ := hq
  cases a <;> cases b <;> simp [addT] at e
  rename_i ds es
  obtain ⟨c, e⟩ := e
  subst e
  obtain ⟨a1, xs, rfl, h1, r1⟩ := ha.tuple_inv
  obtain ⟨b1, ys, rfl, h2, r2⟩ := hb.tuple_inv
  have l1 := r1.length
  have l2 := r2.length
  refine op_catA pins s σ H _ _ v u Q I rx ry ⟨a1, b1, xs, ys, rfl, rfl, h1, h2, by omega, fun e => ?_, fun _ e => ?_, fun _ _ p hp => ?_⟩
  · subst e
    cases r1
    exact q _ _ (fun _ _ z => z) (by simpa using hb.tuple_at)
  · subst e
    cases r2
    exact q _ _ (fun _ _ z => z) (by simpa using ha.tuple_at)
  · exact q _ _ (upd_grow hp) (.newT hl hp (r1.append r2))
def addD : PyData → PyData → Option PyData
  | .int i, .int j => some (.int (i + j))
  | .str i, .str j => addS (.str i) (.str j)
  | .tuple i, .tuple j => addT (.tuple i) (.tuple j)
  | _, _ => none
theorem ho_add : OpR X (binaryOp .Add) (rD X.K addD) := opOr (opOr ho_addI ho_addS (op2 := fun a b => (addI a b).or (addS a b)) fun a b r q => by
    cases h : addI a b with
    | none => rw [h] at q; exact .inr (by simpa using q)
    | some z => rw [h] at q; exact .inl (by simpa using q)) ho_addT fun a b r q => by
  cases a <;> cases b <;> first | (exact .inl (by simpa [addI, addS, addD] using q)) | exact .inr q | cases q

/-! ==, !=, <, in -/
def eqD (a b : PyData) : Option PyData := if fit a = true ∧ fit b = true then some (.bool (PyData.eqv a b)) else none
def neD (a b : PyData) : Option PyData := if fit a = true ∧ fit b = true then some (.bool (!PyData.eqv a b)) else none
theorem ho_eq (hu : X.A.units + 100 < cLine) : OpR X (compareOp .Eq) (rD X.K eqD) := by
  intro pins s σ H x y v u Q I rx ry hq
  obtain ⟨L, a, b, r, hl, ha, hb, e, q⟩ := hq
  unfold eqD at e
  split at e
  · rename_i hc
    cases e
    obtain ⟨pa, da⟩ := fitN_ok 20 a hc.1
    obtain ⟨pb, db⟩ := fitN_ok 20 b hc.2
    obtain ⟨as, r1⟩ := ha.reads I rx pa
    obtain ⟨bs, r2⟩ := hb.reads I ry pb
    exact PySem.SeqAt.eq_plain r1 r2 pa pb (by omega) ⟨.bl _, H, I, rfl, q _ _ (fun _ _ z => z) (.bl _)⟩
  · cases e
theorem ho_ne (hu : X.A.units + 100 < cLine) : OpR X (compareOp .NotEq) (rD X.K neD) := by
  intro pins s σ H x y v u Q I rx ry hq
  obtain ⟨L, a, b, r, hl, ha, hb, e, q⟩ := hq
  unfold neD at e
  split at e
  · rename_i hc
    cases e
    obtain ⟨pa, da⟩ := fitN_ok 20 a hc.1
    obtain ⟨pb, db⟩ := fitN_ok 20 b hc.2
    obtain ⟨as, r1⟩ := ha.reads I rx pa
    obtain ⟨bs, r2⟩ := hb.reads I ry pb
    exact PySem.SeqAt.ne_plain r1 r2 pa pb (by omega) ⟨.bl _, H, I, rfl, q _ _ (fun _ _ z => z) (.bl _)⟩
  · cases e
/-- alike and no None: may be compared -/
def cmpOk (a b : PyData) : Bool := fit a && fit b && PySem.W.alike a b && (match a with | .none => false | _ => true)
def ltG (a b : PyData) : Option PyData := if cmpOk a b = true then some (.bool (PySem.W.dataLt a b)) else none
def gtG (a b : PyData) : Option PyData := if cmpOk a b = true then some (.bool (PySem.W.dataLt b a)) else none
def leG (a b : PyData) : Option PyData := if cmpOk a b = true then some (.bool (!PySem.W.dataLt b a)) else none
def geG (a b : PyData) : Option PyData := if cmpOk a b = true then some (.bool (!PySem.W.dataLt a b)) else none
def ltD : PyData → PyData → Option PyData
  | .int i, .int j => some (.bool (decide (i < j)))
  | a, b => ltG a b
def gtD : PyData → PyData → Option PyData
  | .int i, .int j => some (.bool (decide (j < i)))
  | a, b => gtG a b
def leD : PyData → PyData → Option PyData
  | .int i, .int j => some (.bool (decide (i ≤ j)))
  | a, b => leG a b
def geD : PyData → PyData → Option PyData
  | .int i, .int j => some (.bool (decide (j ≤ i)))
  | a, b => geG a b
theorem cmpOk_out {a b : PyData} (h : cmpOk a b = true) : fit a = true ∧ fit b = true ∧ PySem.W.alike a b = true ∧ a ≠ .none := by
  unfold cmpOk at h
  rw [Bool.and_eq_true, Bool.and_eq_true, Bool.and_eq_true] at h
  obtain ⟨⟨⟨h1, h2⟩, h3⟩, h4⟩ := h
  refine ⟨h1, h2, h3, ?_⟩
  rintro rfl
  cases h4
theorem ho_cmpG {op : CmpOp} {g : PyData → PyData → Bool} (hu : X.A.units + 100 < cLine)
    (rule : ∀ {a b : Value} {da db : PyData} {as bs : List Addr} {s : Shared} {Q : Value → Shared → Prop}, PySem.Reads s.heap a da as → PySem.Reads s.heap b db bs → PySem.W.alike da db = true → da ≠ .none → X.A.units + min da.depth db.depth < cLine → Q (.bool (g da db)) s →
      wpAny (model X.prog X.w) X.A (compareOp op a b) Q X.xe s) : OpR X (compareOp op) (rD X.K fun a b => if cmpOk a b = true then some (.bool (g a b)) else none) := by
  intro pins s σ H x y v u Q I rx ry hq
  obtain ⟨L, a, b, r, hl, ha, hb, e, q⟩ := hq
  simp only at e
  split at e
  · rename_i hc
    cases e
    obtain ⟨f1, f2, al, nn⟩ := cmpOk_out hc
    obtain ⟨pa, da⟩ := fitN_ok 20 a f1
    obtain ⟨pb, db⟩ := fitN_ok 20 b f2
    obtain ⟨as, r1⟩ := ha.reads I rx pa
    obtain ⟨bs, r2⟩ := hb.reads I ry pb
    exact rule r1 r2 al nn (by omega) ⟨.bl _, H, I, rfl, q _ _ (fun _ _ z => z) (.bl _)⟩
  · cases e
theorem cmp_cases {fi : Int → Int → PyData} {g op : PyData → PyData → Option PyData} (h1 : ∀ i j, op (.int i) (.int j) = some (fi i j)) (h2 : ∀ a b, (∃ i j, a = .int i ∧ b = .int j) ∨ op a b = g a b) :
    ∀ a b r, op a b = some r → (match a, b with | .int i, .int j => some (fi i j) | _, _ => none) = some r ∨ g a b = some r := by
  intro a b r q
  rcases h2 a b with ⟨i, j, rfl, rfl⟩ | e
  · exact .inl (by rw [← q, h1])
  · exact .inr (by rw [← e]; exact q)
theorem ho_lt (hu : X.A.units + 100 < cLine) : OpR X (compareOp .Lt) (rD X.K ltD) := opOr (opInt0 (g' := fun i j => .bool (decide (i < j))) (fun i j H L => .bl _) op_lt) (ho_cmpG (g := PySem.W.dataLt) hu fun r1 r2 al nn du q => PySem.W.lt_data r1 r2 al nn du q)
  (cmp_cases (fun _ _ => rfl) fun a b => by cases a <;> cases b <;> first | exact .inl ⟨_, _, rfl, rfl⟩ | exact .inr rfl)
theorem ho_gt (hu : X.A.units + 100 < cLine) : OpR X (compareOp .Gt) (rD X.K gtD) := opOr (opInt0 (g' := fun i j => .bool (decide (j < i))) (fun i j H L => .bl _) op_gt) (ho_cmpG (g := fun a b => PySem.W.dataLt b a) hu fun r1 r2 al nn du q => PySem.W.gt_data r1 r2 al nn du q)
  (cmp_cases (fun _ _ => rfl) fun a b => by cases a <;> cases b <;> first | exact .inl ⟨_, _, rfl, rfl⟩ | exact .inr rfl)
theorem ho_le (hu : X.A.units + 100 < cLine) : OpR X (compareOp .LtE) (rD X.K leD) := opOr (opInt0 (g' := fun i j => .bool (decide (i ≤ j))) (fun i j H L => .bl _) op_le) (ho_cmpG (g := fun a b => !PySem.W.dataLt b a) hu fun r1 r2 al nn du q => PySem.W.le_data r1 r2 al nn du q)
  (cmp_cases (fun _ _ => rfl) fun a b => by cases a <;> cases b <;> first | exact .inl ⟨_, _, rfl, rfl⟩ | exact .inr rfl)
theorem ho_ge (hu : X.A.units + 100 < cLine) : OpR X (compareOp .GtE) (rD X.K geD) := opOr (opInt0 (g' := fun i j => .bool (decide (j ≤ i))) (fun i j H L => .bl _) op_ge) (ho_cmpG (g := fun a b => !PySem.W.dataLt a b) hu fun r1 r2 al nn du q => PySem.W.ge_data r1 r2 al nn du q)
  (cmp_cases (fun _ _ => rfl) fun a b => by cases a <;> cases b <;> first | exact .inl ⟨_, _, rfl, rfl⟩ | exact .inr rfl)
end
end DL
namespace DL
open PySem PySem.Spec L2
section
variable {X : Cx} {pins : List (Addr × Obj)} {σ : L2.St} {H : Hp} {s : Shared} {L : AdP}

/-! ### in, not in -/
def keyK : PyData → Option Key
  | .int i => some (.inl i)
  | .str x => some (.inr x)
  | _ => none
def keysK : List PyData → Option (List Key)
  | [] => some []
  | d :: ds => match keyK d, keysK ds with | some k, some ks => some (k :: ks) | _, _ => none
theorem keyK_eq {d : PyData} {k : Key} (h : keyK d = some k) : d = keyD k := by
  cases d <;> simp [keyK] at h <;> subst h <;> rfl
theorem keysK_eq : ∀ {ds : List PyData} {ks : List Key}, keysK ds = some ks → ds = ks.map keyD
  | [], ks, h => by cases h; rfl
  | d :: ds, ks, h => by
    unfold keysK at h
    split at h
    · rename_i h1 h2
      cases h
      rw [keyK_eq h1, keysK_eq h2]; rfl
    · cases h
theorem keyD_inj {a b : Key} (h : keyD a = keyD b) : a = b := by
  cases a <;> cases b <;> simp [keyD] at h <;> rw [h]
theorem keyDs_inj : ∀ {a b : List Key}, a.map keyD = b.map keyD → a = b
  | [], [], _ => rfl
  | [], _ :: _, h => by simp at h
  | _ :: _, [], h => by simp at h
  | x :: xs, y :: ys, h => by
    simp only [List.map_cons, List.cons.injEq] at h
    rw [keyD_inj h.1, keyDs_inj h.2]
theorem keyT_inj {a b : List Key} (h : keyT a = keyT b) : a = b := by
  injection h with h
  exact keyDs_inj h
theorem at_key {v : V} {k : Key} (h : At H L v (keyD k)) : v = kV k := by
  cases k with
  | inl i => cases h; rfl
  | inr x => cases h; rfl
theorem at_keys : ∀ {vs : List V} {ks : List Key}, AtL H L vs (ks.map keyD) → vs = ks.map kV
  | _, [], h => by cases h; rfl
  | _, k :: ks, h => by
    cases h with
    | cons a b => rw [at_key a, at_keys b]; rfl
/-- look up; equal keys are the same -/
def getK (dd : List (PyData × PyData)) (k : PyData) : Option PyData := (dd.find? fun p => PyData.eqv p.1 k).map (·.2)
/-- plain keys: ints, texts; tuples of these -/
def isKey : PyData → Bool
  | .int _ => true
  | .str _ => true
  | .tuple xs => (keysK xs).isSome
  | _ => false
theorem eqv_keyD (a b : Key) : PyData.eqv (keyD a) (keyD b) = decide (a = b) := by
  cases a with
  | inl i =>
    cases b with
    | inl j =>
      show (i == j) = _
      rw [key_ll]
    | inr y => rw [key_lr]; rfl
  | inr x =>
    cases b with
    | inl j => rw [key_rl]; rfl
    | inr y =>
      show (x == y) = _
      rw [key_rr, Bool.beq_eq_decide_eq]
theorem eqv_keyT : ∀ (a b : List Key), PyData.eqvAll (a.map keyD) (b.map keyD) = decide (a = b)
  | [], [] => by simp [PyData.eqvAll]
  | [], _ :: _ => by simp [PyData.eqvAll]
  | _ :: _, [] => by simp [PyData.eqvAll]
  | x :: xs, y :: ys => by
    rw [List.map_cons, List.map_cons, PyData.eqvAll, eqv_keyD, eqv_keyT xs ys]
    by_cases h : x = y <;> by_cases h' : xs = ys <;> simp [h, h']
theorem getK_dK : ∀ {kvs : List (Key × V)} {dd : List (PyData × PyData)} (k : Key), dd.map (·.1) = kvs.map (fun p => keyD p.1) → AtL H L (kvs.map (·.2)) (dd.map (·.2)) →
    match getK dd (keyD k) with | none => valV kvs k = none | some d => ∃ v, valV kvs k = some v ∧ At H L v d
  | [], [], _, _, _ => rfl
  | [], _ :: _, _, h, _ => by simp at h
  | _ :: _, [], _, h, _ => by simp at h
  | (k', v) :: kvs, (e, d) :: dd, k, h, r => by
    simp only [List.map_cons, List.cons.injEq] at h
    obtain ⟨rfl, h⟩ := h
    have ih := getK_dK (kvs := kvs) (dd := dd) k h
    cases r with
    | cons r1 r2 =>
      unfold getK
      rw [List.find?_cons]
      simp only [eqv_keyD]
      by_cases e : k' = k
      · subst e
        simp only [decide_true, Option.map_some]
        exact ⟨v, valV_pos rfl, r1⟩
      · rw [decide_eq_false e, valV_neg e]
        exact ih r2
theorem getK_dT : ∀ {kvs : List (List Key × V)} {dd : List (PyData × PyData)} (k : List Key), dd.map (·.1) = kvs.map (fun p => keyT p.1) → AtL H L (kvs.map (·.2)) (dd.map (·.2)) →
    match getK dd (keyT k) with | none => valV kvs k = none | some d => ∃ v, valV kvs k = some v ∧ At H L v d
  | [], [], _, _, _ => rfl
  | [], _ :: _, _, h, _ => by simp at h
  | _ :: _, [], _, h, _ => by simp at h
  | (k', v) :: kvs, (e, d) :: dd, k, h, r => by
    simp only [List.map_cons, List.cons.injEq] at h
    obtain ⟨rfl, h⟩ := h
    have ih := getK_dT (kvs := kvs) (dd := dd) k h
    cases r with
    | cons r1 r2 =>
      unfold getK
      rw [List.find?_cons]
      have q : PyData.eqv (keyT k') (keyT k) = decide (k' = k) := eqv_keyT k' k
      simp only [q]
      by_cases e : k' = k
      · subst e
        simp only [decide_true, Option.map_some]
        exact ⟨v, valV_pos rfl, r1⟩
      · rw [decide_eq_false e, valV_neg e]
        exact ih r2
/-- a dict and a key of its kind -/
def keyFor (dd : List (PyData × PyData)) (k : PyData) : Bool := match k with
  | .int _ => dd.all fun p => match p.1 with | .tuple _ => false | _ => true
  | .str _ => dd.all fun p => match p.1 with | .tuple _ => false | _ => true
  | .tuple xs => (keysK xs).isSome && dd.all fun p => match p.1 with | .tuple _ => true | _ => false
  | _ => false

theorem dK_emptyH {a : Addr} (I : Inv X pins σ H s) (e : Rd H a (.dK [])) : s.heap.DictOfH (tupleKind (mixKind X.prog X.w)) a [] := by
  obtain ⟨_, _, vs, r, o, es, ep, h1, h2, h3, h4, h5, h6⟩ := dk_rd I.hok e
  cases r
  have e0 : es.toList = [] := by
    generalize es.toList = l at h5
    cases h5
    rfl
  exact ⟨o, es, ep, h1, h2, h3, by rw [e0]; rfl, fun x hx => (nomatch hx), List.nodup_nil⟩
theorem dT_emptyO {a : Addr} (I : Inv X pins σ H s) (e : Rd H a (.dT [])) : s.heap.DictOf (mixKind X.prog X.w) a [] := by
  obtain ⟨_, _, vs, r, o, es, ep, h1, h2, h3, h4, _, h6⟩ := dt_rd I.hok e
  cases r
  have e0 : es.toList = [] := by rw [h4]; rfl
  refine ⟨o, es, ep, h1, h2, h3, fun x hx => ?_, by rw [e0]; exact .nil, List.nodup_nil⟩
  have : x ∈ es.toList := by simpa using hx
  rw [e0] at this
  exact nomatch this
/-- a key as a value, by its kind -/
def isKK : PyData → Bool
  | .int _ => true
  | .str _ => true
  | _ => false
def isKT : PyData → Bool
  | .tuple xs => (keysK xs).isSome
  | _ => false
def keyOk (dd : List (PyData × PyData)) (k : PyData) : Bool := (isKK k && dd.all fun p => isKK p.1) || (isKT k && dd.all fun p => isKT p.1)
theorem isKK_key {d : PyData} (h : isKK d = true) : ∃ k, d = keyD k := by
  cases d <;> first | exact ⟨.inl _, rfl⟩ | exact ⟨.inr _, rfl⟩ | cases h
theorem isKT_key {d : PyData} (h : isKT d = true) : ∃ k, d = keyT k := by
  cases d <;> first | cases h | skip
  rename_i xs
  unfold isKT at h
  obtain ⟨ks, e⟩ := Option.isSome_iff_exists.mp h
  exact ⟨ks, by rw [keysK_eq e]; rfl⟩
theorem kk_not_kt {k : Key} : isKT (keyD k) = false := by cases k <;> rfl
theorem kt_not_kk {k : List Key} : isKK (keyT k) = false := rfl
/-- what a dict's look-up gives, whichever kind it began as -/
inductive DLook (H : Hp) (L : AdP) (a : Addr) (y : V) : Option PyData → Prop
  | none : DGet H a y none → DLook H L a y none
  | some {v : V} {d : PyData} : DGet H a y (some v) → At H L v d → DLook H L a y (some d)
  | emK {b : Addr} {k : List Key} : Rd H a (.dK []) → y = .ref b → H b = some (.tup (k.map kV)) → DLook H L a y none
  | emT {k : Key} : Rd H a (.dT []) → y = kV k → DLook H L a y none
theorem dlook {K : PySem.W.Frag} {x y : V} {dd : List (PyData × PyData)} {k : PyData} (h1 : Vw K H L x (.dict dd)) (h2 : Vw K H L y k) (h3 : keyOk dd k = true) : ∃ a, x = .ref a ∧ DLook H L a y (getK dd k) := by
  obtain ⟨a, rfl, h⟩ := h1.dict_inv
  refine ⟨a, rfl, ?_⟩
  have yk : ∀ key, k = keyD key → y = kV key := fun key e => by
    subst e
    cases key with
    | inl i => exact h2.int_inv
    | inr x => exact h2.str_inv
  have yt : ∀ key, k = keyT key → ∃ b, y = .ref b ∧ H b = some (.tup (key.map kV)) := fun key e => by
    subst e
    cases h2.tuple_at with
    | tup n e r => exact ⟨_, rfl, by rw [e, at_keys r]⟩
  unfold keyOk at h3
  rw [Bool.or_eq_true, Bool.and_eq_true, Bool.and_eq_true] at h3
  rcases h with ⟨kvs, e, ks, r⟩ | ⟨kvs, e, ks, r⟩
  · rcases h3 with ⟨k1, k2⟩ | ⟨k1, k2⟩
    · obtain ⟨key, rfl⟩ := isKK_key k1
      have g := getK_dK key ks r
      have ey := yk key rfl
      cases q : getK dd (keyD key) with
      | none => rw [q] at g; exact .none (.inl ⟨kvs, key, e, ey, g.symm⟩)
      | some d =>
        rw [q] at g
        obtain ⟨v, g1, g2⟩ := g
        exact .some (.inl ⟨kvs, key, e, ey, g1.symm⟩) g2
    · obtain ⟨key, rfl⟩ := isKT_key k1
      obtain ⟨b, ey, eb⟩ := yt key rfl
      cases dd with
      | nil =>
        have : kvs = [] := by
          cases kvs with
          | nil => rfl
          | cons p q => simp at ks
        subst this
        exact .emK e ey eb
      | cons p dd =>
        rw [List.all_cons, Bool.and_eq_true] at k2
        cases kvs with
        | nil => simp at ks
        | cons q kvs =>
          simp only [List.map_cons, List.cons.injEq] at ks
          rw [ks.1, kk_not_kt] at k2
          cases k2.1
  · rcases h3 with ⟨k1, k2⟩ | ⟨k1, k2⟩
    · obtain ⟨key, rfl⟩ := isKK_key k1
      have ey := yk key rfl
      cases dd with
      | nil =>
        have : kvs = [] := by
          cases kvs with
          | nil => rfl
          | cons p q => simp at ks
        subst this
        exact .emT e ey
      | cons p dd =>
        rw [List.all_cons, Bool.and_eq_true] at k2
        cases kvs with
        | nil => simp at ks
        | cons q kvs =>
          simp only [List.map_cons, List.cons.injEq] at ks
          rw [ks.1, kt_not_kk] at k2
          cases k2.1
    · obtain ⟨key, rfl⟩ := isKT_key k1
      have g := getK_dT key ks r
      obtain ⟨b, ey, eb⟩ := yt key rfl
      cases q : getK dd (keyT key) with
      | none => rw [q] at g; exact .none (.inr ⟨kvs, key, b, e, ey, eb, g.symm⟩)
      | some d =>
        rw [q] at g
        obtain ⟨v, g1, g2⟩ := g
        exact .some (.inr ⟨kvs, key, b, e, ey, eb, g1.symm⟩) g2
theorem look_in {a : Addr} {y : V} {u : Value} {o : Option PyData} {A : Around} {E : Value → Shared → Prop} {Q : Value → Shared → Prop} (hu : A.units + 1 < cLine) (I : Inv X pins σ H s) (g : DLook H L a y o) (ry : RelV y u) (h : ∀ s', Inv X pins σ H s' → Q (.bool o.isSome) s') :
    wpAny (model X.prog X.w) A (compareOp .In u (.ref a)) Q E s := by
  cases g with
  | none g => exact d_in hu I g ry h
  | some g _ => exact d_in hu I g ry h
  | emK e ey eb =>
    subst ey
    cases (show u = Value.ref _ from ry)
    obtain ⟨_, hd, _⟩ := dk_rd I.hok e
    exact wpAny_in_heap (tupleKind_room_in1 hu) (key_of I.hok eb) hd (dK_emptyH I e) (h _ (I.tok _))
  | emT e ey =>
    subst ey
    obtain ⟨_, hd, _⟩ := dt_rd I.hok e
    exact wpAny_in_of (kV_is ry) hd (dT_emptyO I e).mapOf (h _ (I.tok _))
theorem look_notIn {a : Addr} {y : V} {u : Value} {o : Option PyData} {A : Around} {E : Value → Shared → Prop} {Q : Value → Shared → Prop} (hu : A.units + 1 < cLine) (I : Inv X pins σ H s) (g : DLook H L a y o) (ry : RelV y u) (h : ∀ s', Inv X pins σ H s' → Q (.bool (!o.isSome)) s') :
    wpAny (model X.prog X.w) A (compareOp .NotIn u (.ref a)) Q E s := by
  cases g with
  | none g => exact d_notIn hu I g ry h
  | some g _ => exact d_notIn hu I g ry h
  | emK e ey eb =>
    subst ey
    cases (show u = Value.ref _ from ry)
    obtain ⟨_, hd, _⟩ := dk_rd I.hok e
    exact PyProof.Rows.wpAny_notIn_heap (tupleKind_room_in1 hu) (key_of I.hok eb) hd (dK_emptyH I e) (h _ (I.tok _))
  | emT e ey =>
    subst ey
    obtain ⟨_, hd, _⟩ := dt_rd I.hok e
    exact wpAny_notIn_of (kV_is ry) hd (dT_emptyO I e).mapOf (h _ (I.tok _))
/-- the data in of a place that is walked: whether some item is equal -/
def anyEq (xs : List PyData) (d : PyData) : Bool := xs.any fun y => PyData.eqv y d
def inD (x c : PyData) : Option PyData := match c with
  | .list xs => if xs.all fit = true ∧ fit x = true then some (.bool (anyEq xs x)) else none
  | .tuple xs => if xs.all fit = true ∧ fit x = true then some (.bool (anyEq xs x)) else none
  | .dict dd => if keyOk dd x = true then some (.bool (getK dd x).isSome) else none
  | .str z => match x with | .str y => some (.bool (!(Builtin.Str.occurrences z y 0 z.length 1).isEmpty)) | _ => none
  | _ => none
def notInD (x c : PyData) : Option PyData := match c with
  | .list xs => if xs.all fit = true ∧ fit x = true then some (.bool (!anyEq xs x)) else none
  | .tuple xs => if xs.all fit = true ∧ fit x = true then some (.bool (!anyEq xs x)) else none
  | .dict dd => if keyOk dd x = true then some (.bool (!(getK dd x).isSome)) else none
  | .str z => match x with | .str y => some (.bool (!(!(Builtin.Str.occurrences z y 0 z.length 1).isEmpty))) | _ => none
  | _ => none
theorem fit_list {xs : List PyData} (h : xs.all fit = true) : PyData.plain (.list xs) = true ∧ PyData.plain (.tuple xs) = true := by
  obtain ⟨a, _⟩ := fitL_ok h
  exact ⟨by rw [PyData.plain, a], by rw [PyData.plain, a]⟩
theorem ho_in (hu : X.A.units + 100 < cLine) : OpR X (compareOp .In) (rD X.K inD) := by
  intro pins s σ H x y v u Q I rx ry hq
  obtain ⟨L, a, b, r, hl, ha, hb, e, q⟩ := hq
  unfold inD at e
  split at e
  · split at e
    · rename_i xs hc
      cases e
      obtain ⟨pa, da⟩ := fitN_ok 20 a hc.2
      obtain ⟨pb, db⟩ := fitL_ok hc.1
      obtain ⟨as, r1⟩ := ha.reads I rx pa
      obtain ⟨bs, r2⟩ := hb.reads I ry (fit_list hc.1).1
      exact PySem.SeqAt.in_list_data r2 r1 pb pa (by omega) ⟨.bl _, H, I, rfl, q _ _ (fun _ _ z => z) (.bl _)⟩
    · cases e
  · split at e
    · rename_i xs hc
      cases e
      obtain ⟨pa, da⟩ := fitN_ok 20 a hc.2
      obtain ⟨pb, db⟩ := fitL_ok hc.1
      obtain ⟨as, r1⟩ := ha.reads I rx pa
      obtain ⟨bs, r2⟩ := hb.reads I ry (fit_list hc.1).2
      exact PySem.SeqAt.in_tuple_data r2 r1 pb pa (by omega) ⟨.bl _, H, I, rfl, q _ _ (fun _ _ z => z) (.bl _)⟩
    · cases e
  · split at e
    · rename_i dd hc
      cases e
      obtain ⟨p, rfl, g⟩ := dlook hb ha hc
      cases ry
      exact look_in (by omega) I g rx fun s' I' => ⟨.bl _, H, I', rfl, q _ _ (fun _ _ z => z) (.bl _)⟩
    · cases e
  · split at e
    · cases e
      have e1 := ha.str_inv
      have e2 := hb.str_inv
      subst e1; subst e2
      exact op_in_str pins s σ H _ _ v u Q I rx ry ⟨_, _, rfl, rfl, q _ _ (fun _ _ z => z) (.bl _)⟩
    · cases e
  · cases e
theorem ho_notIn (hu : X.A.units + 100 < cLine) : OpR X (compareOp .NotIn) (rD X.K notInD) := by
  intro pins s σ H x y v u Q I rx ry hq
  obtain ⟨L, a, b, r, hl, ha, hb, e, q⟩ := hq
  unfold notInD at e
  split at e
  · split at e
    · rename_i xs hc
      cases e
      obtain ⟨pa, da⟩ := fitN_ok 20 a hc.2
      obtain ⟨pb, db⟩ := fitL_ok hc.1
      obtain ⟨as, r1⟩ := ha.reads I rx pa
      obtain ⟨bs, r2⟩ := hb.reads I ry (fit_list hc.1).1
      exact PySem.SeqAt.notIn_list_data r2 r1 pb pa (by omega) ⟨.bl _, H, I, rfl, q _ _ (fun _ _ z => z) (.bl _)⟩
    · cases e
  · split at e
    · rename_i xs hc
      cases e
      obtain ⟨pa, da⟩ := fitN_ok 20 a hc.2
      obtain ⟨pb, db⟩ := fitL_ok hc.1
      obtain ⟨as, r1⟩ := ha.reads I rx pa
      obtain ⟨bs, r2⟩ := hb.reads I ry (fit_list hc.1).2
      exact PySem.SeqAt.notIn_tuple_data r2 r1 pb pa (by omega) ⟨.bl _, H, I, rfl, q _ _ (fun _ _ z => z) (.bl _)⟩
    · cases e
  · split at e
    · rename_i dd hc
      cases e
      obtain ⟨p, rfl, g⟩ := dlook hb ha hc
      cases ry
      exact look_notIn (by omega) I g rx fun s' I' => ⟨.bl _, H, I', rfl, q _ _ (fun _ _ z => z) (.bl _)⟩
    · cases e
  · split at e
    · cases e
      have e1 := ha.str_inv
      have e2 := hb.str_inv
      subst e1; subst e2
      exact op_notin_str pins s σ H _ _ v u Q I rx ry ⟨_, _, rfl, rfl, q _ _ (fun _ _ z => z) (.bl _)⟩
    · cases e
  · cases e
/-! is None -/
def isND (x : PyData) : Bool := match x with | .none => true | _ => false
def isD (x y : PyData) : Option PyData := match y with
  | .none => some (.bool (isND x))
  | .bool b => (match x with | .bool a => some (.bool (decide (a = b))) | _ => none)
  | _ => none
def isNotD (x y : PyData) : Option PyData := match y with
  | .none => some (.bool (!isND x))
  | .bool b => (match x with | .bool a => some (.bool (!decide (a = b))) | _ => none)
  | _ => none
theorem Vw.isN {K : PySem.W.Frag} {v : V} {d : PyData} (h : Vw K H L v d) : decide (v = .non) = isND d := by
  cases h with
  | dat h => cases h <;> first | rfl | exact decide_eq_false (fun z => nomatch z)
  | ob h =>
    rw [decide_eq_false (fun z => nomatch z)]
    cases d <;> first | rfl | exact h.elim
theorem ho_is : OpR X (compareOp .Is) (rD X.K isD) := by
  intro pins s σ H x y v u Q I rx ry hq
  obtain ⟨L, a, b, r, hl, ha, hb, e, q⟩ := hq
  cases b with
  | none =>
    cases e
    have e2 := hb.none_inv
    subst e2
    exact op_isN pins s σ H _ _ v u Q I rx ry ⟨rfl, by rw [ha.isN]; exact q _ _ (fun _ _ z => z) (.bl _)⟩
  | bool b =>
    cases a with
    | bool a =>
      cases e
      have e2 := hb.bl_inv
      have e1 := ha.bl_inv
      subst e1 e2
      exact op_isBl pins s σ H _ _ v u Q I rx ry ⟨a, b, rfl, rfl, q _ _ (fun _ _ z => z) (.bl _)⟩
    | _ => cases e
  | _ => cases e
theorem ho_isNot : OpR X (compareOp .IsNot) (rD X.K isNotD) := by
  intro pins s σ H x y v u Q I rx ry hq
  obtain ⟨L, a, b, r, hl, ha, hb, e, q⟩ := hq
  cases b with
  | none =>
    cases e
    have e2 := hb.none_inv
    subst e2
    exact op_notN pins s σ H _ _ v u Q I rx ry ⟨rfl, by rw [ha.isN]; exact q _ _ (fun _ _ z => z) (.bl _)⟩
  | bool b =>
    cases a with
    | bool a =>
      cases e
      have e2 := hb.bl_inv
      have e1 := ha.bl_inv
      subst e1 e2
      exact op_notBl pins s σ H _ _ v u Q I rx ry ⟨a, b, rfl, rfl, q _ _ (fun _ _ z => z) (.bl _)⟩
    | _ => cases e
  | _ => cases e
end
end DL
namespace DL
open PySem PySem.Spec L2
open PyProof.Rows hiding St
section
variable {X : Cx} {pins : List (Addr × Obj)} {σ : L2.St} {H : Hp} {s : Shared} {L : AdP}
/-! ### a[b] -/
def ixD (c k : PyData) : Option PyData := match c with
  | .list xs => match k with | .int i => atI xs i | _ => none
  | .tuple xs => match k with | .int i => atI xs i | _ => none
  | .str z => match k with | .int i => if z.length ≤ sizeLine then (atI z.cps.toList i).map fun c => .str ⟨#[c]⟩ else none | _ => none
  | .dict dd => if keyOk dd k = true then getK dd k else none
  | _ => none
theorem atI_at {xs : List V} {ds : List PyData} {i : Int} {d : PyData} (r : AtL H L xs ds) (h : atI ds i = some d) : ∃ v, atI xs i = some v ∧ At H L v d := by
  unfold atI at h ⊢
  rw [r.length]
  cases e : ixN ds.length i with
  | none => rw [e] at h; cases h
  | some j =>
    rw [e] at h
    exact r.get h
theorem ix_dict (hu : X.A.units + 1 < cLine) : IxR X (fun x y H Q => ∃ a v, x = .ref a ∧ DGet H a y (some v) ∧ Q v H) := by
  intro value slice pins s σ H x y v u Q I rx ry h hs
  obtain ⟨a, z, rfl, g, q⟩ := h
  cases rx
  have hT := dict_typeIs I g
  unfold subscriptTail
  refine wpAny_bind ?_
  rw [getitemInPython_of_ne hT.not_modules]
  refine wpAny_bind (wpAny_specialOf hT PySem.F.slot_dict_getitem.lookup ?_)
  have fin : wpAny (model X.prog X.w) X.A (subscripted slice false (.ref a) u) (fun r s₃ => wpAny (model X.prog X.w) X.A (letTemporaryGo value (.ref a) r >>= fun _ => pure r) (EP X pins σ Q) X.xe s₃) X.xe s := by
    rw [hs]
    exact wpAny_operating (d_getItem hu I g ry fun w' s' I' rw' => wpAny_bind (wpAny_letTemporaryGo (wpAny_pure ⟨z, H, I', rw', q⟩)))
  first
    | exact wpAny_pure (wpAny_bind fin)
    | exact wpAny_bind (wpAny_pure (wpAny_bind fin))
    | exact wpAny_bind fin
theorem hx_ix (hu : X.A.units + 100 < cLine) : IxR X (rD X.K ixD) := by
  intro value slice pins s σ H x y v u Q I rx ry h hs
  obtain ⟨L, a, b, r, hl, ha, hb, e, q⟩ := h
  unfold ixD at e
  split at e
  · split at e
    · obtain ⟨p, xs, rfl, h1, r1⟩ := ha.list_inv
      have e2 := hb.int_inv
      subst e2
      obtain ⟨w, g1, g2⟩ := atI_at r1 e
      exact ix_list value slice pins s σ H _ _ v u Q I rx ry ⟨p, xs, _, w, rfl, rfl, h1, g1, q _ _ (fun _ _ z => z) g2⟩ hs
    · cases e
  · split at e
    · obtain ⟨p, xs, rfl, h1, r1⟩ := ha.tuple_inv
      have e2 := hb.int_inv
      subst e2
      obtain ⟨w, g1, g2⟩ := atI_at r1 e
      exact ix_tup value slice pins s σ H _ _ v u Q I rx ry ⟨p, xs, _, w, rfl, rfl, h1, g1, q _ _ (fun _ _ z => z) g2⟩ hs
    · cases e
  · split at e
    · split at e
      · rename_i hz
        obtain ⟨c, e1, e2⟩ := Option.map_eq_some_iff.mp e
        subst e2
        have e3 := ha.str_inv
        have e4 := hb.int_inv
        subst e3; subst e4
        exact ix_str value slice pins s σ H _ _ v u Q I rx ry ⟨_, _, c, rfl, rfl, hz, e1, q _ _ (fun _ _ z => z) (.str _)⟩ hs
      · cases e
    · cases e
  · split at e
    · rename_i dd hk
      obtain ⟨p, rfl, g⟩ := dlook ha hb hk
      rw [e] at g
      cases g with
      | some g g2 => exact ix_dict (by omega) value slice pins s σ H _ _ v u Q I rx ry ⟨p, _, rfl, g, q _ _ (fun _ _ z => z) g2⟩ hs
    · cases e
  · cases e

/-! ### slices -/
def sliceD (c : PyData) (lo hi : Option Int) : Option PyData := match c with
  | .tuple xs => some (.tuple ((xs.drop (HT.sIx xs.length 0 lo)).take (HT.sIx xs.length xs.length hi - HT.sIx xs.length 0 lo)))
  | _ => none
def sliceL (c : PyData) (lo hi : Option Int) : Option (List PyData) := match c with
  | .list xs => some ((xs.drop (HT.sIx xs.length 0 lo)).take (HT.sIx xs.length xs.length hi - HT.sIx xs.length 0 lo))
  | _ => none
theorem AtL.cut {xs : List V} {ds : List PyData} (r : AtL H L xs ds) (lo hi : Option Int) : AtL H L (cutV xs lo hi) ((ds.drop (HT.sIx ds.length 0 lo)).take (HT.sIx ds.length ds.length hi - HT.sIx ds.length 0 lo)) := by
  unfold cutV
  rw [r.length]
  exact (r.drop _).take _

/-! ### truth -/
def truthD (d : PyData) : Option Bool := match d with
  | .none => some false
  | .bool b => some b
  | .int i => some (i != 0)
  | .str x => if x.length ≤ sizeLine then some ((x.length : Int) != 0) else none
  | .list xs => some (!xs.isEmpty)
  | .tuple xs => some (!xs.isEmpty)
  | .dict _ => none
theorem isEmpty_len {α β : Type} {xs : List α} {ys : List β} (h : xs.length = ys.length) : xs.isEmpty = ys.isEmpty := by
  cases xs <;> cases ys <;> first | rfl | simp at h
theorem truth_ok {K : PySem.W.Frag} {v : V} {d : PyData} {b : Bool} (h : Vw K H L v d) (e : truthD d = some b) : TruV K v H b := by
  cases d with
  | none => cases h.none_inv; cases e; exact rfl
  | bool => cases h.bl_inv; cases e; exact rfl
  | int => cases h.int_inv; cases e; exact rfl
  | str x =>
    cases h.str_inv
    have e : (if x.length ≤ sizeLine then some ((x.length : Int) != 0) else none) = some b := e
    split at e
    · rename_i hz
      cases e
      exact ⟨hz, rfl⟩
    · cases e
  | list xs =>
    cases e
    obtain ⟨p, ys, rfl, h1, r1⟩ := h.list_inv
    exact .inl ⟨ys, h1, by rw [isEmpty_len r1.length]⟩
  | tuple xs =>
    cases e
    obtain ⟨p, ys, rfl, h1, r1⟩ := h.tuple_inv
    exact .inr (.inl ⟨ys, h1, by rw [isEmpty_len r1.length]⟩)
  | dict => cases e
end
end DL
namespace DL
open PySem PySem.Spec L2
open PyProof.Rows hiding St
section
variable {X : Cx} {pins : List (Addr × Obj)} {σ : L2.St} {H : Hp} {s : Shared} {L : AdP}
inductive VwL (K : PySem.W.Frag) (H : Hp) (L : AdP) : List V → List PyData → Prop
  | nil : VwL K H L [] []
  | cons {v : V} {vs : List V} {d : PyData} {ds : List PyData} : Vw K H L v d → VwL K H L vs ds → VwL K H L (v :: vs) (d :: ds)
abbrev GrL (H : Hp) (L : AdP) (Q : VK) (rs : List PyData) : Prop := ∀ p ws H', H p = none → (∀ a o, H a = some o → H' a = some o) → H' p = some (.lst ws) → AtL H L ws rs → Q (.ref p) H'
def rCD (K : PySem.W.Frag) (op : List PyData → Option PyData) : List V → Hp → VK → Prop := fun vs H Q => ∃ (L : AdP) (ds : List PyData) (r : PyData), (∀ z, L z → H z ≠ none) ∧ VwL K H L vs ds ∧ op ds = some r ∧ Gr H L Q r
def rCL (K : PySem.W.Frag) (op : List PyData → Option (List PyData)) : List V → Hp → VK → Prop := fun vs H Q => ∃ (L : AdP) (ds rs : List PyData), (∀ z, L z → H z ≠ none) ∧ VwL K H L vs ds ∧ op ds = some rs ∧ GrL H L Q rs
theorem VwL.one {K : PySem.W.Frag} {vs : List V} {d : PyData} (h : VwL K H L vs [d]) : ∃ v, vs = [v] ∧ Vw K H L v d := by
  cases h with | cons a b => cases b; exact ⟨_, rfl, a⟩
theorem VwL.two {K : PySem.W.Frag} {vs : List V} {d e : PyData} (h : VwL K H L vs [d, e]) : ∃ v w, vs = [v, w] ∧ Vw K H L v d ∧ Vw K H L w e := by
  cases h with | cons a b => cases b with | cons b c => cases c; exact ⟨_, _, rfl, a, b⟩
theorem Vw.isList (I : Inv X pins σ H s) {v : V} {ds : List PyData} (h : Vw X.K H L v (.list ds)) : ∃ a xs its, v = .ref a ∧ Vals xs its ∧ s.heap.IsList a its.toArray ∧ SqL X.K H a xs ∧ AtL H L xs ds ∧ its.length = ds.length ∧ ds.length ≤ sizeLine := by
  obtain ⟨a, xs, rfl, h1, r1⟩ := h.list_inv
  obtain ⟨its, rv, pl, hz⟩ := I.list h1
  have e1 := rv.length
  have e2 := r1.length
  exact ⟨a, xs, its, rfl, rv, pl.isList, h1, r1, by omega, by omega⟩
theorem Vw.isTup (I : Inv X pins σ H s) {v : V} {ds : List PyData} (h : Vw X.K H L v (.tuple ds)) : ∃ a xs its, v = .ref a ∧ Vals xs its ∧ s.heap.IsTuple a its.toArray ∧ SqT X.K H a xs ∧ AtL H L xs ds ∧ its.length = ds.length ∧ ds.length ≤ sizeLine := by
  obtain ⟨a, xs, rfl, h1, r1⟩ := h.tuple_inv
  obtain ⟨its, rv, pl, hz⟩ := I.tuple h1
  have e1 := rv.length
  have e2 := r1.length
  exact ⟨a, xs, its, rfl, rv, pl, h1, r1, by omega, by omega⟩
theorem AtL.reads (I : Inv X pins σ H s) {xs : List V} {its : List Value} {ds : List PyData} (r : AtL H L xs ds) (rv : Vals xs its) (p : PyData.plainAll ds = true) : ∃ as, ReadsAll s.heap its ds as := Dp.readsAll I ds xs its (AtL.dp ds r p) rv

/-! len -/
def lenD : List PyData → Option PyData
  | [.str x] => if x.length ≤ sizeLine then some (.int (x.length : Nat)) else none
  | [.list xs] => some (.int (xs.length : Nat))
  | [.tuple xs] => some (.int (xs.length : Nat))
  | [.dict dd] => some (.int (dd.length : Nat))
  | _ => none
theorem dT_len {Q : Value → Shared → Prop} {a : Addr} {kvs : List (List Key × V)} {A : Around} {E : Value → Shared → Prop} (I : Inv X pins σ H s) (e : Rd H a (.dT kvs)) (h : ∀ t s', Inv X pins σ H s' → Q (.int kvs.length t) s') : wpAny (model X.prog X.w) A (call (.builtin "len") [.ref a]) Q E s := by
  obtain ⟨hz, hd, xs, rel, dd⟩ := dt_rd I.hok e
  have hl : kvs.length = xs.length := Paired.length rel
  refine call_len_dictH hd dd (by rw [← hl]; rw [sizeLine_eq] at hz; omega) ?_
  rw [← hl]
  exact h _ _ (I.tok _)
theorem hc_len : CallR X (.builtin "len") (rCD X.K lenD) := by
  intro pins s σ H vs us Q I rs h
  obtain ⟨L, ds, r, hl, hv, e, q⟩ := h
  unfold lenD at e
  split at e
  · obtain ⟨v, rfl, h1⟩ := hv.one
    split at e
    · rename_i hz
      cases e
      have e1 := h1.str_inv
      subst e1
      exact call_len pins s σ H _ us Q I rs ⟨_, _, rfl, ⟨hz, rfl⟩, q _ _ (fun _ _ z => z) (.int _)⟩
    · cases e
  · obtain ⟨v, rfl, h1⟩ := hv.one
    cases e
    obtain ⟨a, xs, rfl, h2, r2⟩ := h1.list_inv
    exact call_len pins s σ H _ us Q I rs ⟨_, _, rfl, .inl ⟨xs, h2, rfl⟩, by rw [r2.length]; exact q _ _ (fun _ _ z => z) (.int _)⟩
  · obtain ⟨v, rfl, h1⟩ := hv.one
    cases e
    obtain ⟨a, xs, rfl, h2, r2⟩ := h1.tuple_inv
    exact call_len pins s σ H _ us Q I rs ⟨_, _, rfl, .inr ⟨xs, h2, rfl⟩, by rw [r2.length]; exact q _ _ (fun _ _ z => z) (.int _)⟩
  · obtain ⟨v, rfl, h1⟩ := hv.one
    cases e
    obtain ⟨a, rfl, ⟨kvs, h2, k, r2⟩ | ⟨kvs, h2, k, r2⟩⟩ := h1.dict_inv
    · obtain ⟨u, rfl, ru⟩ := vals1 rs
      cases ru
      have e := congrArg List.length k
      simp only [List.length_map] at e
      refine d_len I h2 fun t s' I' => ⟨.int kvs.length, H, I', ⟨t, rfl⟩, ?_⟩
      rw [← e]
      exact q _ _ (fun _ _ z => z) (.int _)
    · obtain ⟨u, rfl, ru⟩ := vals1 rs
      cases ru
      have e := congrArg List.length k
      simp only [List.length_map] at e
      refine dT_len I h2 fun t s' I' => ⟨.int kvs.length, H, I', ⟨t, rfl⟩, ?_⟩
      rw [← e]
      exact q _ _ (fun _ _ z => z) (.int _)
  · cases e
/-! abs, int, str -/
def absD : List PyData → Option PyData
  | [.int i] => some (.int (if i < 0 then -i else i))
  | _ => none
theorem hc_abs : CallR X (.builtin "abs") (rCD X.K absD) := by
  intro pins s σ H vs us Q I rs h
  obtain ⟨L, ds, r, hl, hv, e, q⟩ := h
  unfold absD at e
  split at e
  · obtain ⟨v, rfl, h1⟩ := hv.one
    cases e
    have e1 := h1.int_inv
    subst e1
    exact call_abs pins s σ H _ us Q I rs ⟨_, rfl, q _ _ (fun _ _ z => z) (.int _)⟩
  · cases e
def intD : List PyData → Option PyData
  | [.int i] => some (.int i)
  | [.bool b] => some (.int (if b then 1 else 0))
  | _ => none
theorem hc_int : CallR X (.type "int") (rCD X.K intD) := by
  intro pins s σ H vs us Q I rs h
  obtain ⟨L, ds, r, hl, hv, e, q⟩ := h
  unfold intD at e
  split at e
  · obtain ⟨v, rfl, h1⟩ := hv.one
    cases e
    have e1 := h1.int_inv
    subst e1
    exact call_int1 pins s σ H _ us Q I rs (.inl ⟨_, rfl, q _ _ (fun _ _ z => z) (.int _)⟩)
  · obtain ⟨v, rfl, h1⟩ := hv.one
    cases e
    have e1 := h1.bl_inv
    subst e1
    exact call_int1 pins s σ H _ us Q I rs (.inr ⟨_, rfl, q _ _ (fun _ _ z => z) (.int _)⟩)
  · cases e
def strD : List PyData → Option PyData
  | [.int i] => if i.natAbs.log2 < 1920 then some (.str (toString i)) else none
  | _ => none
theorem hc_str : CallR X (.type "str") (rCD X.K strD) := by
  intro pins s σ H vs us Q I rs h
  obtain ⟨L, ds, r, hl, hv, e, q⟩ := h
  unfold strD at e
  split at e
  · obtain ⟨v, rfl, h1⟩ := hv.one
    split at e
    · rename_i hz
      cases e
      have e1 := h1.int_inv
      subst e1
      exact call_str_int pins s σ H _ us Q I rs ⟨_, rfl, hz, q _ _ (fun _ _ z => z) (.str _)⟩
    · cases e
  · cases e
/-! sum, any, all -/
def intsD : List PyData → Option (List Int)
  | [] => some []
  | .int i :: ds => (intsD ds).map (i :: ·)
  | _ :: _ => none
theorem intsD_eq : ∀ {ds : List PyData} {ns : List Int}, intsD ds = some ns → ds = ns.map .int
  | [], ns, h => by cases h; rfl
  | d :: ds, ns, h => by
    cases d <;> simp [intsD] at h
    obtain ⟨ms, h1, h2⟩ := h
    subst h2
    rw [intsD_eq h1]; rfl
def bolsD : List PyData → Option (List Bool)
  | [] => some []
  | .bool i :: ds => (bolsD ds).map (i :: ·)
  | _ :: _ => none
theorem bolsD_eq : ∀ {ds : List PyData} {ns : List Bool}, bolsD ds = some ns → ds = ns.map .bool
  | [], ns, h => by cases h; rfl
  | d :: ds, ns, h => by
    cases d <;> simp [bolsD] at h
    obtain ⟨ms, h1, h2⟩ := h
    subst h2
    rw [bolsD_eq h1]; rfl
theorem AtL.inj_bl {H : Hp} {L : AdP} : ∀ {vs : List V} {ns : List Bool}, AtL H L vs (ns.map .bool) → vs = ns.map V.bl
  | _, [], h => by cases h; rfl
  | _, n :: ns, h => by
    cases h with
    | cons a b => cases a; rw [AtL.inj_bl b]; rfl
def sumD : List PyData → Option PyData
  | [.list ds] => (intsD ds).map fun ns => .int ns.sum
  | [.tuple ds] => (intsD ds).map fun ns => .int ns.sum
  | _ => none
theorem sum_rawT {prog : Program} {w : World} {A : Around} {E : Value → Shared → Prop} {s : Shared} {l : Addr} {its : List Value} {ns : List Int} {Q : Value → Shared → Prop} (hh : A.handled = none) (hl : s.heap.IsTuple l its.toArray) (hi : IntsAre its ns)
    (h : ∀ h' tk t', (∀ b o, s.heap.get? b = some o → h'.get? b = some o) → Q (.int ns.sum t') { s with heap := h', toks := tk }) : wpAny (model prog w) A (call (.builtin "sum") [.ref l]) Q E s := by
  obtain ⟨xs, e⟩ := hi.allInts.items
  have hn : PySem.numsOf (intItems xs).toList = ns := by rw [← e]; exact hi.numsOf
  rw [nums_intItems] at hn
  rw [e] at hl
  refine PySem.W.ktm_sumG hh hl fun h' tk t' hk => ?_
  have := h h' tk t' hk
  rw [preSum_eq, List.take_of_length_le (by simp), hn]; exact this
theorem hc_sum (hc : X.calm = true) : CallR X (.builtin "sum") (rCD X.K sumD) := by
  intro pins s σ H vs us Q I rs h
  obtain ⟨L, ds, r, hl, hv, e, q⟩ := h
  unfold sumD at e
  split at e
  · obtain ⟨v, rfl, h1⟩ := hv.one
    obtain ⟨ns, e1, e2⟩ := Option.map_eq_some_iff.mp e
    subst e2
    obtain ⟨a, xs, rfl, h2, r2⟩ := h1.list_inv
    rw [intsD_eq e1] at r2
    rw [r2.inj_int] at h2
    exact cr_sum hc pins s σ H _ us Q I rs ⟨a, ns, rfl, h2, q _ _ (fun _ _ z => z) (.int _)⟩
  · obtain ⟨v, rfl, h1⟩ := hv.one
    obtain ⟨ns, e1, e2⟩ := Option.map_eq_some_iff.mp e
    subst e2
    obtain ⟨a, xs, rfl, h2, r2⟩ := h1.tuple_inv
    rw [intsD_eq e1] at r2
    rw [r2.inj_int] at h2
    obtain ⟨its, rv, hl, _⟩ := I.tuple h2
    rw [Vals.ref1 rs]
    exact sum_rawT (I.ok.hd hc) hl rv.ints fun h' tk t' hk => ⟨.int _, H, I.kept hk, ⟨_, rfl⟩, q _ _ (fun _ _ z => z) (.int _)⟩
  · cases e
def anyD : List PyData → Option PyData
  | [.list ds] => (bolsD ds).map fun ns => .bool (ns.any id)
  | _ => none
theorem hc_any (hc : X.calm = true) : CallR X (.builtin "any") (rCD X.K anyD) := by
  intro pins s σ H vs us Q I rs h
  obtain ⟨L, ds, r, hl, hv, e, q⟩ := h
  unfold anyD at e
  split at e
  · obtain ⟨v, rfl, h1⟩ := hv.one
    obtain ⟨ns, e1, e2⟩ := Option.map_eq_some_iff.mp e
    subst e2
    obtain ⟨a, xs, rfl, h2, r2⟩ := h1.list_inv
    rw [bolsD_eq e1] at r2
    rw [r2.inj_bl] at h2
    exact cr_any hc pins s σ H _ us Q I rs ⟨a, ns, rfl, h2, q _ _ (fun _ _ z => z) (.bl _)⟩
  · cases e
def allD : List PyData → Option PyData
  | [.list ds] => (bolsD ds).map fun ns => .bool (ns.all id)
  | _ => none
theorem hc_all (hc : X.calm = true) : CallR X (.builtin "all") (rCD X.K allD) := by
  intro pins s σ H vs us Q I rs h
  obtain ⟨L, ds, r, hl, hv, e, q⟩ := h
  unfold allD at e
  split at e
  · obtain ⟨v, rfl, h1⟩ := hv.one
    obtain ⟨ns, e1, e2⟩ := Option.map_eq_some_iff.mp e
    subst e2
    obtain ⟨a, xs, rfl, h2, r2⟩ := h1.list_inv
    rw [bolsD_eq e1] at r2
    rw [r2.inj_bl] at h2
    exact cr_all hc pins s σ H _ us Q I rs ⟨a, ns, rfl, h2, q _ _ (fun _ _ z => z) (.bl _)⟩
  · cases e
/-! tuple, list -/
def tupleD : List PyData → Option PyData
  | [.list ds] => some (.tuple ds)
  | [.tuple ds] => some (.tuple ds)
  | _ => none
theorem hc_tuple : CallR X (.type "tuple") (rCD X.K tupleD) := by
  intro pins s σ H vs us Q I rs h
  obtain ⟨L, ds, r, hl, hv, e, q⟩ := h
  unfold tupleD at e
  split at e
  · obtain ⟨v, rfl, h1⟩ := hv.one
    cases e
    obtain ⟨a, xs, rfl, h2, r2⟩ := h1.list_inv
    exact call_tuple_of pins s σ H _ us Q I rs ⟨a, xs, rfl, .inl ⟨h2, fun p hp => q _ _ (upd_grow hp) (.newT hl hp r2)⟩⟩
  · obtain ⟨v, rfl, h1⟩ := hv.one
    cases e
    obtain ⟨a, xs, rfl, h2, r2⟩ := h1.tuple_inv
    exact call_tuple_of pins s σ H _ us Q I rs ⟨a, xs, rfl, .inr ⟨h2, q _ _ (fun _ _ z => z) h1.tuple_at⟩⟩
  · cases e
def listL : List PyData → Option (List PyData)
  | [.list ds] => some ds
  | [.tuple ds] => some ds
  | _ => none
theorem hc_list : CallR X (.type "list") (rCL X.K listL) := by
  intro pins s σ H vs us Q I rs h
  obtain ⟨L, ds, r, hl, hv, e, q⟩ := h
  unfold listL at e
  split at e
  · obtain ⟨v, rfl, h1⟩ := hv.one
    cases e
    obtain ⟨a, xs, rfl, h2, r2⟩ := h1.list_inv
    exact call_list_of pins s σ H _ us Q I rs ⟨a, xs, rfl, .inl h2, fun p hp => q p xs _ hp (upd_grow hp) upd_same r2⟩
  · obtain ⟨v, rfl, h1⟩ := hv.one
    cases e
    obtain ⟨a, xs, rfl, h2, r2⟩ := h1.tuple_inv
    exact call_list_of pins s σ H _ us Q I rs ⟨a, xs, rfl, .inr h2, fun p hp => q p xs _ hp (upd_grow hp) upd_same r2⟩
  · cases e
end
end DL
namespace DL
open PySem PySem.W PySem.SeqAt PyProof.Rows
/-! sorting tuples, empty ones among them -/
def noItem : PyData → Bool
  | .tuple [] => true
  | _ => false
def Srt (ds : List PyData) : Prop := (∀ d, d ∈ ds → ∃ r, d = .tuple r) ∨ ∀ d, d ∈ ds → d ≠ .none ∧ ∀ xs, d ≠ .tuple xs
section
variable {prog : Program} {w : World} {A : Around} {E : Value → Shared → Prop} {s : Shared}
theorem call_tup_lt {Q : Value → Shared → Prop} {l b : Addr} {items items2 : Array Value} {e r : Nat → Bool} (hl : s.heap.IsTuple l items) (hb : s.heap.IsTuple b items2)
    (he : ∀ j (h1 : j < items.size) (h2 : j < items2.size), EqAt A.in1 s items[j] items2[j] (e j)) (hr : ∀ j (h1 : j < items.size) (h2 : j < items2.size), e j = false → RcLt A.in1 s items[j] items2[j] (r j))
    (h : Q (.bool (firstLt e r (decide (items.size < items2.size)) (List.range (min items.size items2.size)))) s) : wpAny (model prog w) A (call (.builtin "tuple.__lt__") [.ref l, .ref b]) Q E s := by
  obtain ⟨⟨c1, d1, t1, p1⟩, ho, e1, n, e2⟩ := id hl
  obtain ⟨⟨c2, d2, t2, p2⟩, ho2, e3, n2, e4⟩ := id hb
  simp only at e1 e2 e3 e4
  subst e1 e2 e3 e4
  exact call_meets F.slot_tuple_lt ⟨_, ho, rfl⟩ F.entry_tuple_lt (F.args_tuple_lt_2 _ _) (tuple_ltAt l b items items2 n n2 d1 d2 p1 p2 e r) ⟨ho, ho2, he, hr, h⟩
theorem oneLt_tup {xs ys : List PyData} {a b : Value} {as bs : List Addr} {Q : Bool → Shared → Prop} (ra : Reads s.heap a (.tuple xs) as) (rb : Reads s.heap b (.tuple ys) bs) (h : alikeAll xs ys = true)
    (hu : A.units + min (PyData.tuple xs).depth (PyData.tuple ys).depth < cLine) (hq : Q (dataLt (.tuple xs) (.tuple ys)) s) : wpAny (model prog w) A (oneLt' true a b) Q E s := by
  cases ra with
  | @tuple l o vs n _ as₁ h1 h2 h3 h4 =>
    cases rb with
    | @tuple l' o' vs' n' _ bs₁ k1 k2 k3 k4 =>
      have n1 : vs.size = xs.length := by simpa using ReadsAll.length _ _ _ h4
      have n2 : vs'.size = ys.length := by simpa using ReadsAll.length _ _ _ k4
      rw [dataLt_tuple, ← firstLt_toks xs ys h, ← n1, ← n2] at hq
      rw [oneLt'_eq]
      simp only [if_true]
      refine wpAny_bind (wpAny_cRoomFor (room_here hu) ?_)
      refine wpAny_bind (wpAny_callSpecialIfBound?_slot (T := "tuple") ⟨_, h1, h2⟩ F.slot_tuple_lt (call_tup_lt (e := pairEq xs ys) (r := fun j => dataLt (xs.getD j .none) (ys.getD j .none)) ⟨_, h1, h2, _, h3⟩ ⟨_, k1, k2, _, k3⟩ (fun j j1 j2 => ?_) (fun j j1 j2 hj => ?_) ?_))
      · have := eqAt_alikeAll xs ys A.in1 s vs.toList vs'.toList _ _ h4 k4 h (room_in hu) j (by simpa using j1) (by simpa using j2)
        simpa using this
      · have := rcLt_alikeAll xs ys A.in1 s vs.toList vs'.toList _ _ h4 k4 h (room_in hu) j (by simpa using j1) (by simpa using j2) hj
        simpa using this
      · exact wpAny_truthy_bool hq
theorem firsts_any : ∀ {vs : List Value} {ds : List PyData} {Q : List (Option Value) → Shared → Prop}, EachIs (fun v d => ∃ as, Reads s.heap v d as) vs ds → (∀ d, d ∈ ds → ∃ r, d = .tuple r) →
    (∀ os : List (Option Value), os.map (·.isSome) = ds.map (fun d => !noItem d) → Q os s) → wpAny (model prog w) A (vs.mapM firstOfTuple') Q E s
  | _, _, Q, .nil, _, h => by rw [List.mapM_nil]; exact wpAny_pure (h [] rfl)
  | _, _, Q, .cons (b := d) ⟨as, r⟩ t, ht, h => by
    rw [List.mapM_cons]
    obtain ⟨xs, rfl⟩ := ht _ List.mem_cons_self
    refine wpAny_bind ?_
    rw [kas_first_eq]
    cases r with
    | @tuple a o its n _ _ ho hc hd hr =>
      refine wpAny_bind (Looks.here (show Looks (model prog w) s.heap (typeOf (.ref a)) o.cls from (Looks.ld ho).andThen .now) ?_)
      rw [hc, if_neg (by first | decide | simp)]
      refine wpAny_bind (listItems_at ho hd (wpAny_pure ?_))
      refine wpAny_bind (firsts_any t (fun d hd => ht d (List.mem_cons_of_mem _ hd)) fun os ho' => wpAny_pure (h (its[0]? :: os) ?_))
      rw [List.map_cons, List.map_cons, ho']
      congr 1
      have hl := ReadsAll.length _ _ _ hr
      cases xs with
      | nil =>
        have : its.size = 0 := by simpa using hl
        simp [noItem, this]
      | cons x xs =>
        have : its.size = xs.length + 1 := by simpa using hl
        simp [noItem, this]
theorem kind_mixed {vs : List Value} {ds : List PyData} {Q : SortKind → Shared → Prop} (e : EachIs (fun v d => ∃ as, Reads s.heap v d as) vs ds) (ht : ∀ d, d ∈ ds → ∃ r, d = .tuple r) {d : PyData} {rest : List PyData} (h0 : ds = d :: rest) (hm : ∃ d, d ∈ ds ∧ noItem d = true)
    (h : Q (if noItem d = true then oneType' else general') s) : wpAny (model prog w) A (keyKind' vs.toArray) Q E s := by
  rw [keyKind'_eq, List.mapM_toArray, map_eq_pure_bind]
  refine wpAny_bind (wpAny_bind (firsts_any e ht fun os hos => wpAny_pure ?_))
  have hne : ¬ (os.toArray.all fun x => x.isSome) = true := by
    rw [List.all_toArray, List.all_eq_true]
    intro z
    obtain ⟨d', h1, h2⟩ := hm
    have : (!noItem d') ∈ os.map (·.isSome) := by rw [hos]; exact List.mem_map.mpr ⟨d', h1, rfl⟩
    obtain ⟨o, ho, e2⟩ := List.mem_map.mp this
    rw [z o ho, h2] at e2
    cases e2
  rw [if_neg hne]
  subst h0
  cases os with
  | nil => simp at hos
  | cons o os =>
    rw [List.map_cons, List.map_cons] at hos
    have ho := (List.cons.inj hos).1
    have hz : ((o :: os).toArray[0]?.bind id) = o := by simp
    rw [hz]
    cases hd : noItem d with
    | false =>
      rw [hd] at h ho
      have ho : o.isSome = true := ho
      rw [if_pos ho]
      exact wpAny_pure h
    | true =>
      rw [hd] at h ho
      have ho : o.isSome = false := ho
      rw [if_neg (by rw [ho]; exact Bool.false_ne_true)]
      rw [oneTypeOnly'_eq, List.mapM_toArray, map_eq_pure_bind]
      have hT : ∀ v ∈ vs, Looks (model prog w) s.heap (typeOf v) (.type "tuple") := fun v hv => by
        obtain ⟨d', hd', as, r⟩ := e.left v hv
        obtain ⟨r', rfl⟩ := ht d' hd'
        exact looks_reads r
      refine wpAny_bind (wpAny_bind (wpAny_bind (kas_mapM (r := Value.type "tuple") _ (fun v hv Q' hq => (hT v hv).here hq) (wpAny_pure ?_))))
      have hlen := e.length
      cases vs with
      | nil => simp at hlen
      | cons v vs =>
        have hall : ((List.map (fun _ => Value.type "tuple") (v :: vs)).toArray.all fun x => x == Value.type "tuple") = true := by
          simp only [List.all_toArray, List.all_map, List.all_eq_true]
          intro _ _
          exact beq_self_eq_true _
        have hf : (List.map (fun _ => Value.type "tuple") (v :: vs)).toArray[0]? = some (Value.type "tuple") := by simp
        rw [hf]
        simp only [hall, if_true]
        exact wpAny_pure (wpAny_pure h)
theorem srt_at {vs : List Value} {ds : List PyData} (e : EachIs (fun v d => ∃ as, Reads s.heap v d as) vs ds) (hal : AllAlike ds) (hk : Srt ds) (hu : ∀ d, d ∈ ds → A.units + d.depth < cLine) : SortsAt prog w A s (dataKind s.heap ds) vs := by
  rcases hk with ht | hn
  · by_cases hm : ∃ d, d ∈ ds ∧ noItem d = true
    · cases ds with
      | nil => obtain ⟨d, hd, _⟩ := hm; cases hd
      | cons d rest =>
        refine ⟨fun v hv => ?_, if noItem d = true then oneType' else general', ?_, fun h2 E Q hq => kind_mixed e ht rfl hm hq⟩
        · obtain ⟨d, hd, as, r⟩ := e.left v hv
          exact ⟨_, dataKind_some hal hd r⟩
        · intro E x y a b Q ha hb hq
          obtain ⟨d1, as, hd1, ra, rfl⟩ := dataKind_inv ha
          obtain ⟨d2, as', hd2, rb, rfl⟩ := dataKind_inv hb
          obtain ⟨r1, rfl⟩ := ht d1 hd1
          obtain ⟨r2, rfl⟩ := ht d2 hd2
          have hroom : A.units + min (PyData.tuple r1).depth (PyData.tuple r2).depth < cLine := Nat.lt_of_le_of_lt (Nat.add_le_add_left (Nat.min_le_left _ _) _) (hu _ hd1)
          split
          · exact oneLt_tup ra rb (by simpa [alike] using hal _ hd1 _ hd2) hroom hq
          · exact oneLt_alike (f := false) (fun z => nomatch z) ra rb (hal _ hd1 _ hd2) (fun z => nomatch z) hroom hq
    · refine SortsAt.data e hal (.inl fun d hd => ?_) hu
      obtain ⟨r, rfl⟩ := ht d hd
      cases r with
      | nil => exact absurd ⟨_, hd, rfl⟩ hm
      | cons x r => exact ⟨x, r, rfl⟩
  · exact SortsAt.data e hal (.inr hn) hu
end
end DL
namespace DL
open PySem PySem.W PySem.Calls PyProof.Rows in
theorem sorted_dataT {prog : Program} {w : World} {A : Around} {E : Value → Shared → Prop} {s : Shared} {vs : List Value} {bs : List PyData} {R : Value → PyData → Prop} {l : Addr} {Q : Value → Shared → Prop} (hl : s.heap.IsTuple l vs.toArray) (e : EachIs R vs bs) (er : EachIs (fun v b => ∃ as, Reads s.heap v b as) vs bs) (hal : AllAlike bs) (hk : Srt bs) (hL : bs.length ≤ sizeLine)
    (hu : ∀ b, b ∈ bs → A.units + 2 + b.depth < cLine) (h : ∀ D h2 out c, (∀ b o, s.heap.get? b = some o → h2.get? b = some o) → s.heap.get? D = none → h2.get? D = some (listOf (List.toArray out) c) → out.length = bs.length → EachIs R out (bs.mergeSort (dataLe false id)) → Q (.ref D) { s with heap := h2 }) :
    wpAny (model prog w) A (call (.builtin "sorted") [.ref l]) Q E s := by
  obtain ⟨o, ho, hc, n, hd⟩ := id hl
  have hlen := e.length
  refine call_function_entry kind_sorted plain_sorted entry_sorted (args_sorted1 _) ?_
  unfold Builtin.«sorted»
  refine wpAny_bind (m := checkCount "sorted" 1 1 _) (wpAny_pure ?_)
  refine wpAny_bind (wpAny_collect_seq l (T := "tuple") (.inr rfl) ho hc hd (fun h' hkp => ?_) (by rw [List.size_toArray]; omega))
  refine wpAny_bind (wpAny_newList ?_ (by simp only [List.toList_toArray]; omega))
  simp only [List.toList_toArray]
  have hD : (h'.push { cls := .type "list", data := .seq vs.toArray }).get? h'.objs.size = some (seqObj "list" vs.toArray 0) := Heap.get?_push_size _ rfl
  have hold : ∀ b o, s.heap.get? b = some o → b ≠ h'.objs.size := fun b o q => Nat.ne_of_lt (Heap.lt_size (hkp b o q))
  have hnone : s.heap.get? h'.objs.size = none := by
    cases q : s.heap.get? h'.objs.size with
    | none => rfl
    | some o => exact absurd rfl (hold _ _ q)
  have er' : EachIs (fun v b => ∃ as, Reads (sortingHeap (h'.push { cls := .type "list", data := .seq vs.toArray }) h'.objs.size vs) v b as) vs bs := er.mono fun _ _ ⟨as, r⟩ => ⟨as, PyProof.Rows.Reads.keeps (fun b o q => (sortingHeap_old (hold b o q) (Heap.get?_push_of_some _ (hkp b o q)))) r⟩
  refine wpAny_bind (wpAny_holding (wpAny_call_entry slot_list_sort ⟨_, hD, rfl⟩ entry_list_sort ?body (args_list_sort _)))
  case body =>
    refine wpAny_mono (list_sort_vals (s := { s with heap := h'.push { cls := .type "list", data := .seq vs.toArray } }) (κ := dataKind (sortingHeap (h'.push { cls := .type "list", data := .seq vs.toArray }) h'.objs.size vs) bs) (P := fun f s' => f = .done (.ret .none) ∧ Q (.ref h'.objs.size) s') hD
      (srt_at (s := { s with heap := sortingHeap (h'.push { cls := .type "list", data := .seq vs.toArray }) h'.objs.size vs }) er' hal hk (by exact hu)) (by omega) ⟨rfl, ?_⟩) (fun f s' hf => ?_) fun _ _ e => e
    · obtain ⟨c, hc2⟩ := sortedHeap_at (out := (sortVals (dataKind (sortingHeap (h'.push { cls := .type "list", data := .seq vs.toArray }) h'.objs.size vs) bs) false vs vs).toArray) hD
      refine h _ _ (sortVals _ false vs vs) c (fun b o q => ?_) hnone hc2 (by rw [sortVals_length false rfl]; exact hlen) (by have q := sortVals_data (enc := id) false e (by simpa using er'); simp only [List.map_id_fun, id] at q; exact q hal)
      rw [sortedHeap_old (hold b o q) (by rw [Heap.size_push]; exact Nat.lt_succ_of_lt (Heap.lt_size (hkp b o q)))]
      exact Heap.get?_push_of_some _ (hkp b o q)
    · obtain ⟨rfl, hq⟩ := hf
      exact ⟨_, rfl, wpAny_pure ⟨_, rfl, hq⟩⟩
open PySem PySem.W PySem.Calls PyProof.Rows in
theorem sorted_dataL {prog : Program} {w : World} {A : Around} {E : Value → Shared → Prop} {s : Shared} {vs : List Value} {bs : List PyData} {R : Value → PyData → Prop} {l : Addr} {Q : Value → Shared → Prop} (hl : s.heap.IsList l vs.toArray) (e : EachIs R vs bs) (er : EachIs (fun v b => ∃ as, Reads s.heap v b as) vs bs) (hal : AllAlike bs) (hk : Srt bs) (hL : bs.length ≤ sizeLine)
    (hu : ∀ b, b ∈ bs → A.units + 2 + b.depth < cLine) (h : ∀ out, out.length = bs.length → EachIs R out (bs.mergeSort (dataLe false id)) → Q (.ref (s.heap.objs.size + 1)) { s with heap := sortedAll s.heap vs (List.toArray out) }) :
    wpAny (model prog w) A (call (.builtin "sorted") [.ref l]) Q E s := by
  have er' : EachIs (fun v b => ∃ as, Reads (sortingHeap (copyHeap s.heap vs) (s.heap.objs.size + 1) vs) v b as) vs bs := er.mono fun _ _ ⟨as, r⟩ => ⟨as, PyProof.Rows.Reads.keeps (fun _ _ => sorting_copy_old) r⟩
  refine sorted_vals hl (srt_at (s := { s with heap := sortingHeap (copyHeap s.heap vs) (s.heap.objs.size + 1) vs }) er' hal hk (by exact hu)) (by rw [e.length]; exact hL) (h _ (by rw [sortVals_length false rfl]; exact e.length) ?_)
  have q := sortVals_data (enc := id) false e (by simpa using er')
  simp only [List.map_id_fun, id] at q
  exact q hal
open PySem PySem.Spec L2
open PyProof.Rows hiding St
section
variable {X : Cx} {pins : List (Addr × Obj)} {σ : L2.St} {H : Hp} {s : Shared} {L : AdP}
/-! min, max -/
def alikeB (ds : List PyData) : Bool := ds.all fun d => (ds.all fun e => PySem.W.alike d e) && !isND d
theorem alikeB_ok {ds : List PyData} (h : alikeB ds = true) : PySem.W.AlikeAll ds := by
  unfold alikeB at h
  rw [List.all_eq_true] at h
  refine ⟨fun x hx y hy => ?_, fun x hx e => ?_⟩
  · have := h x hx
    rw [Bool.and_eq_true, List.all_eq_true] at this
    exact this.1 y hy
  · have := h x hx
    subst e
    simp [isND] at this
theorem minD_mem (x : PyData) (xs : List PyData) : PySem.W.minD x xs ∈ x :: xs := by
  unfold PySem.W.minD
  induction xs generalizing x with
  | nil => simp
  | cons y ys ih =>
    rw [List.foldl_cons]
    have := ih (if PySem.W.dataLt y x = true then y else x)
    split at this <;> (rw [List.mem_cons] at this; rcases this with h | h) <;> simp_all
theorem maxD_mem (x : PyData) (xs : List PyData) : PySem.W.maxD x xs ∈ x :: xs := by
  unfold PySem.W.maxD
  induction xs generalizing x with
  | nil => simp
  | cons y ys ih =>
    rw [List.foldl_cons]
    have := ih (if PySem.W.dataLt x y = true then y else x)
    split at this <;> (rw [List.mem_cons] at this; rcases this with h | h) <;> simp_all
def minI : List Int → Int → Int
  | [], m => m
  | x :: xs, m => minI xs (if x < m then x else m)
def minD : List PyData → Option PyData
  | [.list (d :: ds)] => if (d :: ds).all fit = true ∧ alikeB (d :: ds) = true then some (PySem.W.minD d ds) else none
  | [.tuple (d :: ds)] => if (d :: ds).all fit = true ∧ alikeB (d :: ds) = true then some (PySem.W.minD d ds) else none
  | [.int i, .int j] => some (.int (if j < i then j else i))
  | _ => none
def maxD : List PyData → Option PyData
  | [.list (d :: ds)] => if (d :: ds).all fit = true ∧ alikeB (d :: ds) = true then some (PySem.W.maxD d ds) else none
  | [.tuple (d :: ds)] => if (d :: ds).all fit = true ∧ alikeB (d :: ds) = true then some (PySem.W.maxD d ds) else none
  | [.int i, .int j] => some (.int (if j > i then j else i))
  | _ => none
/-- an item of the values that reads as some datum of the list stands for it -/
theorem pick_at {pins : List (Addr × Obj)} {σ : L2.St} {s : Shared} (I : Inv X pins σ H s) {xs : List V} {its : List Value} {ds : List PyData} (r : AtL H L xs ds) (rv : Vals xs its) (pl : PyData.plainAll ds = true) {i : Nat} {v : Value} {h' : Heap} {d : PyData} {bs : List Addr}
    (hi : its.toArray[i]? = some v) (hk : ∀ b o, s.heap.get? b = some o → h'.get? b = some o) (hr : Reads h' v d bs) (hm : d ∈ ds) : ∃ x, RelV x v ∧ At H L x d := by
  have hi' : its[i]? = some v := by simpa using hi
  have hlt : i < xs.length := by
    have e := rv.length
    have := (List.getElem?_eq_some_iff.mp hi').1
    omega
  obtain ⟨u, hu, ru⟩ := rv.get (List.getElem?_eq_getElem hlt)
  rw [hi'] at hu
  cases hu
  obtain ⟨d', hd', ad⟩ := r.get' (List.getElem?_eq_getElem hlt)
  have pd' : d'.plain = true := PySem.W.plain_mem pl (List.mem_of_getElem? hd')
  have pd : d.plain = true := PySem.W.plain_mem pl hm
  obtain ⟨as, r'⟩ := Dp.reads I d' _ _ (ad.dp d' pd') ru
  have e1 := PySem.SeqAt.readOf_plain pd hr
  have e2 := PySem.SeqAt.readOf_plain pd' (PyProof.Rows.Reads.keeps hk r')
  rw [e1] at e2
  subst e2
  exact ⟨_, ru, ad⟩
theorem hc_min (hc : X.calm = true) (hu : X.A.units + 100 < cLine) : CallR X (.builtin "min") (rCD X.K minD) := by
  intro pins s σ H vs us Q I rs h
  obtain ⟨L, ds, r, hl, hv, e, q⟩ := h
  unfold minD at e
  split at e
  · obtain ⟨v, rfl, h1⟩ := hv.one
    split at e
    · rename_i hc2
      cases e
      obtain ⟨u, rfl, ru⟩ := vals1 rs
      obtain ⟨a, xs, its, rfl, rv, hl', h2, r2, e1, e2⟩ := h1.isList I
      cases ru
      obtain ⟨p1, p2⟩ := fitL_ok hc2.1
      obtain ⟨as, hr⟩ := r2.reads I rv p1
      refine PySem.W.min_list_data (I.ok.hd hc) hl' (by simpa using hr) (alikeB_ok hc2.2) (by omega) fun i v h' tk bs hi hr' hk => ?_
      obtain ⟨x, rx, ax⟩ := pick_at I r2 rv p1 hi hk hr' (minD_mem _ _)
      exact ⟨x, H, I.kept hk, rx, q _ _ (fun _ _ z => z) ax⟩
    · cases e
  · obtain ⟨v, rfl, h1⟩ := hv.one
    split at e
    · rename_i hc2
      cases e
      obtain ⟨u, rfl, ru⟩ := vals1 rs
      obtain ⟨a, xs, its, rfl, rv, hl', h2, r2, e1, e2⟩ := h1.isTup I
      cases ru
      obtain ⟨p1, p2⟩ := fitL_ok hc2.1
      obtain ⟨as, hr⟩ := r2.reads I rv p1
      refine PySem.W.min_tuple_data (I.ok.hd hc) hl' (by simpa using hr) (alikeB_ok hc2.2) (by omega) fun i v h' tk bs hi hr' hk => ?_
      obtain ⟨x, rx, ax⟩ := pick_at I r2 rv p1 hi hk hr' (minD_mem _ _)
      exact ⟨x, H, I.kept hk, rx, q _ _ (fun _ _ z => z) ax⟩
    · cases e
  · obtain ⟨v, w, rfl, h1, h2⟩ := hv.two
    cases e
    have e1 := h1.int_inv
    have e2 := h2.int_inv
    subst e1; subst e2
    exact call_min2 hc pins s σ H _ us Q I rs ⟨_, _, rfl, q _ _ (fun _ _ z => z) (.int _)⟩
  · cases e
theorem hc_max (hc : X.calm = true) (hu : X.A.units + 100 < cLine) : CallR X (.builtin "max") (rCD X.K maxD) := by
  intro pins s σ H vs us Q I rs h
  obtain ⟨L, ds, r, hl, hv, e, q⟩ := h
  unfold maxD at e
  split at e
  · obtain ⟨v, rfl, h1⟩ := hv.one
    split at e
    · rename_i hc2
      cases e
      obtain ⟨u, rfl, ru⟩ := vals1 rs
      obtain ⟨a, xs, its, rfl, rv, hl', h2, r2, e1, e2⟩ := h1.isList I
      cases ru
      obtain ⟨p1, p2⟩ := fitL_ok hc2.1
      obtain ⟨as, hr⟩ := r2.reads I rv p1
      refine PySem.W.max_list_data (I.ok.hd hc) hl' (by simpa using hr) (alikeB_ok hc2.2) (by omega) fun i v h' tk bs hi hr' hk => ?_
      obtain ⟨x, rx, ax⟩ := pick_at I r2 rv p1 hi hk hr' (maxD_mem _ _)
      exact ⟨x, H, I.kept hk, rx, q _ _ (fun _ _ z => z) ax⟩
    · cases e
  · obtain ⟨v, rfl, h1⟩ := hv.one
    split at e
    · rename_i hc2
      cases e
      obtain ⟨u, rfl, ru⟩ := vals1 rs
      obtain ⟨a, xs, its, rfl, rv, hl', h2, r2, e1, e2⟩ := h1.isTup I
      cases ru
      obtain ⟨p1, p2⟩ := fitL_ok hc2.1
      obtain ⟨as, hr⟩ := r2.reads I rv p1
      refine PySem.W.max_tuple_data (I.ok.hd hc) hl' (by simpa using hr) (alikeB_ok hc2.2) (by omega) fun i v h' tk bs hi hr' hk => ?_
      obtain ⟨x, rx, ax⟩ := pick_at I r2 rv p1 hi hk hr' (maxD_mem _ _)
      exact ⟨x, H, I.kept hk, rx, q _ _ (fun _ _ z => z) ax⟩
    · cases e
  · obtain ⟨v, w, rfl, h1, h2⟩ := hv.two
    cases e
    have e1 := h1.int_inv
    have e2 := h2.int_inv
    subst e1; subst e2
    exact call_max2 hc pins s σ H _ us Q I rs ⟨_, _, rfl, q _ _ (fun _ _ z => z) (.int _)⟩
  · cases e
/-! sorted -/
def tupB : PyData → Bool
  | .tuple _ => true
  | _ => false
def ntB : PyData → Bool
  | .none => false
  | .tuple _ => false
  | _ => true
/-- may be sorted -/
def sortB (ds : List PyData) : Bool := ds.all fit && alikeB ds && (ds.all tupB || ds.all ntB)
theorem sortB_ok {ds : List PyData} (h : sortB ds = true) : ds.all fit = true ∧ PySem.W.AllAlike ds ∧ Srt ds := by
  unfold sortB at h
  rw [Bool.and_eq_true, Bool.and_eq_true, Bool.or_eq_true] at h
  obtain ⟨⟨h1, h2⟩, h3⟩ := h
  refine ⟨h1, (alikeB_ok h2).1, ?_⟩
  rcases h3 with h3 | h3
  · refine .inl fun d hd => ?_
    have := List.all_eq_true.mp h3 d hd
    cases d <;> simp [tupB] at this
    exact ⟨_, rfl⟩
  · refine .inr fun d hd => ?_
    have := List.all_eq_true.mp h3 d hd
    cases d <;> simp [ntB] at this <;> exact ⟨(fun z => nomatch z), fun xs z => nomatch z⟩
def sortedL : List PyData → Option (List PyData)
  | [.list ds] => if sortB ds = true then some (ds.mergeSort (PySem.W.dataLe false id)) else none
  | [.tuple ds] => if sortB ds = true then some (ds.mergeSort (PySem.W.dataLe false id)) else none
  | _ => none
theorem each_of_at (I : Inv X pins σ H s) : ∀ {xs : List V} {its : List Value} {ds : List PyData}, AtL H L xs ds → Vals xs its → PySem.W.EachIs (fun v d => ∃ x, RelV x v ∧ At H L x d) its ds
  | _, _, _, .nil, .nil => .nil
  | _, _, _, .cons a b, .cons r t => .cons ⟨_, r, a⟩ (each_of_at I b t)
theorem each_reads (I : Inv X pins σ H s) : ∀ {xs : List V} {its : List Value} {ds : List PyData}, AtL H L xs ds → Vals xs its → PyData.plainAll ds = true → PySem.W.EachIs (fun v d => ∃ as, Reads s.heap v d as) its ds
  | _, _, _, .nil, .nil, _ => .nil
  | _, _, _, .cons a b, .cons r t, p => by
    rw [PyData.plainAll, Bool.and_eq_true] at p
    exact .cons (Dp.reads I _ _ _ (a.dp _ p.1) r) (each_reads I b t p.2)
theorem at_of_each : ∀ {its : List Value} {ds : List PyData}, PySem.W.EachIs (fun v d => ∃ x, RelV x v ∧ At H L x d) its ds → ∃ xs, Vals xs its ∧ AtL H L xs ds
  | _, _, .nil => ⟨[], .nil, .nil⟩
  | _, _, .cons ⟨x, r, a⟩ t => by
    obtain ⟨xs, rv, b⟩ := at_of_each t
    exact ⟨x :: xs, .cons r rv, .cons a b⟩
theorem hc_sorted (hu : X.A.units + 100 < cLine) : CallR X (.builtin "sorted") (rCL X.K sortedL) := by
  intro pins s σ H vs us Q I rs h
  obtain ⟨L, ds, r, hl, hv, e, q⟩ := h
  unfold sortedL at e
  split at e
  · obtain ⟨v, rfl, h1⟩ := hv.one
    split at e
    · rename_i ds hc2
      cases e
      obtain ⟨u, rfl, ru⟩ := vals1 rs
      obtain ⟨a, xs, its, rfl, rv, hl', h2, r2, e1, e2⟩ := h1.isList I
      cases ru
      obtain ⟨f1, al, so⟩ := sortB_ok hc2
      obtain ⟨p1, p2⟩ := fitL_ok f1
      refine sorted_dataL hl' (each_of_at I r2 rv) (each_reads I r2 rv p1) al so e2 (fun b hb => ?_) fun out ho eo => ?_
      · have := (fitN_ok 20 b (List.all_eq_true.mp f1 b hb)).2
        show X.A.units + 2 + b.depth < cLine
        omega
      · obtain ⟨ys, rv', r'⟩ := at_of_each eo
        obtain ⟨c, hc⟩ := PyProof.Rows.sortedAll_at s.heap its out.toArray
        have hz : ys.length ≤ sizeLine := by
          have := rv'.length
          omega
        have hn : H (s.heap.objs.size + 1) = none := I.hok.fresh (Nat.le_succ _)
        exact ⟨.ref (s.heap.objs.size + 1), _, I.laid (t' := s.toks) (fun b o e => PyProof.Rows.sortedAll_old e) (Nat.le_succ _) (show ObjOk X.prog X.w _ _ _ (.lst ys) from ⟨hz, out, c, rv', hc⟩), rfl,
          q _ ys _ hn (upd_grow hn) upd_same r'⟩
    · cases e
  · obtain ⟨v, rfl, h1⟩ := hv.one
    split at e
    · rename_i ds hc2
      cases e
      obtain ⟨u, rfl, ru⟩ := vals1 rs
      obtain ⟨a, xs, its, rfl, rv, hl', h2, r2, e1, e2⟩ := h1.isTup I
      cases ru
      obtain ⟨f1, al, so⟩ := sortB_ok hc2
      obtain ⟨p1, p2⟩ := fitL_ok f1
      refine sorted_dataT hl' (each_of_at I r2 rv) (each_reads I r2 rv p1) al so e2 (fun b hb => ?_) fun D h2 out c hk hn0 hc ho eo => ?_
      · have := (fitN_ok 20 b (List.all_eq_true.mp f1 b hb)).2
        show X.A.units + 2 + b.depth < cLine
        omega
      · obtain ⟨ys, rv', r'⟩ := at_of_each eo
        have hz : ys.length ≤ sizeLine := by
          have := rv'.length
          omega
        have hn : H D = none := I.hok.gone hn0
        exact ⟨.ref D, _, I.laidN (t' := s.toks) hk hn0 hn (show ObjOk X.prog X.w _ _ _ (.lst ys) from ⟨hz, out, c, rv', hc⟩), rfl, q _ ys _ hn (upd_grow hn) upd_same r'⟩
    · cases e
  · cases e
end
end DL
namespace DL
open PySem PySem.Spec L2
open PyProof.Rows hiding St
abbrev Ev := Env' → Sto → Option (D × Sto)
abbrev Tv := Env' → Sto → Option (Bool × Sto)
abbrev Av := Env' → Sto → Option (List D × Sto)
abbrev Lsv := Env' → Sto → Option (List PyData × Sto)
/-- read as data -/
def vw (S : Sto) : D → Option PyData
  | .p d => some d
  | .o m => some m
  | .f m => some m
  | .c k => match S[k]? with | some (some (.d m)) => some m | _ => none
def vws (S : Sto) : List D → Option (List PyData)
  | [] => some []
  | d :: ds => match vw S d, vws S ds with | some x, some xs => some (x :: xs) | _, _ => none

/-- the wish behind an expression -/
abbrev Wi (c : Cxt) (Lf : AdP) (adr : Nat → Addr) (S : Sto) (H : Hp) (Q : VK) (d : D) (S' : Sto) : Prop :=
  ∀ v adr' H', Ext adr S H adr' S' H' → StOk c Lf adr' S' H' → DR c.K H' (Lvv Lf adr' S') Lf (LvC adr' S') adr' S'.length v d → Q v H'
def EvOk (c : Cxt) (t : TE) (f : Ev) : Prop := ∀ Lf adr S σ H ρ d S' (Q : VK), EOk c Lf adr S σ H ρ → f ρ S = some (d, S') → Wi c Lf adr S H Q d S' → t σ H Q
def DE (c : Cxt) (e : Expr) (f : Ev) : Prop := ∃ t, (∀ X, InC c X → PE X e t) ∧ EvOk c t f
def TvOk (c : Cxt) (t : TT) (f : Tv) : Prop := ∀ Lf adr S σ H ρ b S' (Q : Bool → Hp → Prop), EOk c Lf adr S σ H ρ → f ρ S = some (b, S') → (∀ adr' H', Ext adr S H adr' S' H' → StOk c Lf adr' S' H' → Q b H') → t σ H Q
def DT (c : Cxt) (e : Expr) (f : Tv) : Prop := ∃ t, (∀ X, InC c X → PT X e t) ∧ TvOk c t f
def DW (c : Cxt) (e : Expr) (f : Tv) : Prop := ∃ t, (∀ X, InC c X → PW X e t) ∧ TvOk c t f
def AvOk (c : Cxt) (t : TA) (f : Av) : Prop := ∀ Lf adr S σ H ρ ds S' (Q : List V → Hp → Prop), EOk c Lf adr S σ H ρ → f ρ S = some (ds, S') →
  (∀ vs adr' H', Ext adr S H adr' S' H' → StOk c Lf adr' S' H' → DRL c.K H' (Lvv Lf adr' S') Lf (LvC adr' S') adr' S'.length vs ds → Q vs H') → t σ H Q
def DA (c : Cxt) (es : List Expr) (f : Av) : Prop := ∃ t, (∀ X, InC c X → PA X es t) ∧ AvOk c t f
/-- a fresh list -/
abbrev WiL (c : Cxt) (Lf : AdP) (adr : Nat → Addr) (S : Sto) (H : Hp) (Q : VK) (ds : List PyData) (S' : Sto) : Prop :=
  ∀ p ws adr' H', Ext adr S H adr' S' H' → StOk c (fun a => Lf a ∨ a = p) adr' S' H' → H p = none → H' p = some (.lst ws) → AtL H' (Lvv (fun a => Lf a ∨ a = p) adr' S') ws ds → Q (.ref p) H'
def LvOk (c : Cxt) (t : TE) (f : Lsv) : Prop := ∀ Lf adr S σ H ρ ds S' (Q : VK), EOk c Lf adr S σ H ρ → f ρ S = some (ds, S') → WiL c Lf adr S H Q ds S' → t σ H Q
def DLs (c : Cxt) (e : Expr) (f : Lsv) : Prop := ∃ t, (∀ X, InC c X → PE X e t) ∧ LvOk c t f

section
variable {c : Cxt} {Lf : AdP} {adr : Nat → Addr} {S : Sto} {H : Hp} {σ : L2.St} {ρ : Env'}
theorem vw_ok (s : StOk c Lf adr S H) {v : V} {d : D} {m : PyData} (r : DR c.K H (Lvv Lf adr S) Lf (LvC adr S) adr S.length v d) (e : vw S d = some m) : Vw c.K H (Lvv Lf adr S) v m := by
  cases d with
  | p d => cases e; exact .dat r
  | o m' => cases e; obtain ⟨a, rfl, _, h⟩ := r; exact .ob h.r
  | f m' => cases e; obtain ⟨a, rfl, h⟩ := r; exact .ob h.r
  | c k =>
    obtain ⟨rfl, hk⟩ := r
    have e : (match S[k]? with | some (some (.d m)) => some m | _ => none) = some m := e
    split at e
    · rename_i m' hm
      cases e
      exact .ob (Ob.r (s.ob k _ hm))
    · cases e
theorem vws_ok (s : StOk c Lf adr S H) : ∀ {vs : List V} {ds : List D} {ms : List PyData}, DRL c.K H (Lvv Lf adr S) Lf (LvC adr S) adr S.length vs ds → vws S ds = some ms → VwL c.K H (Lvv Lf adr S) vs ms
  | _, [], _, r, e => by cases e; cases r; exact .nil
  | _, d :: ds, _, r, e => by
    unfold vws at e
    split at e
    · rename_i h1 h2
      cases e
      cases r with
      | cons a b => exact .cons (vw_ok s a h1) (vws_ok s b h2)
    · cases e
/-- the heap has grown: the wish of data -/
theorem wi_gr (s : StOk c Lf adr S H) {Q : VK} {r : PyData} (w : Wi c Lf adr S H Q (.p r) S) : Gr H (Lvv Lf adr S) Q r := fun w' H' k a =>
  w w' adr H' (.grow k) (s.grow k fun z hz => ⟨.inl hz, (s.lfo z hz).keep (k z)⟩) a
theorem wi_grL (s : StOk c Lf adr S H) {Q : VK} {r : List PyData} (w : WiL c Lf adr S H Q r S) : GrL H (Lvv Lf adr S) Q r := fun p ws H' hp k e a => by
  have k' : ∀ z, H z ≠ none → H' z ≠ none := fun z h => by
    cases q : H z with
    | none => exact absurd q h
    | some o => rw [k z o q]; exact fun z => nomatch z
  refine w p ws adr H' (.grow k) (s.grow k fun z hz => ?_) hp e (a.tr fun z h1 h2 => ⟨.of fun o q => k z o q, fun h3 => ?_⟩)
  · rcases hz with hz | hz
    · exact ⟨.inl hz, (s.lfo z hz).keep (k z)⟩
    · subst hz
      exact ⟨.inr hp, _, e, fun _ z => nomatch z⟩
  · rcases h3 with (h3 | h3) | h3
    · exact h2 (.inl h3)
    · subst h3
      exact h1 hp
    · exact h2 (.inr h3)
end
end DL
namespace DL
open PySem PySem.Spec L2
open PyProof.Rows hiding St
section
variable {c : Cxt} {Lf : AdP} {adr : Nat → Addr} {S : Sto} {H : Hp} {σ : L2.St} {ρ : Env'} {a b : Expr} {fa fb : Ev} {pos : Pos}
theorem Wi.trans {adr1 : Nat → Addr} {S1 S' : Sto} {H1 : Hp} {Q : VK} {d : D} (x : Ext adr S H adr1 S1 H1) (w : Wi c Lf adr S H Q d S') : Wi c Lf adr1 S1 H1 Q d S' := fun v adr' H' x' s' r => w v adr' H' (x.trans x') s' r
theorem WiL.trans {adr1 : Nat → Addr} {S1 S' : Sto} {H1 : Hp} {Q : VK} {d : List PyData} (x : Ext adr S H adr1 S1 H1) (w : WiL c Lf adr S H Q d S') : WiL c Lf adr1 S1 H1 Q d S' := fun p ws adr' H' x' s' n e r => by
  refine w p ws adr' H' (x.trans x') s' ?_ e r
  cases q : H p with
  | none => rfl
  | some o => exact absurd n (x.trk p (by rw [q]; exact fun z => nomatch z))
theorem InC.un {X : Cx} (h : InC c X) : X.A.units + 100 < cLine := by have := h.room.un; omega
theorem DR.ext0 {adr' : Nat → Addr} {S' : Sto} {H' : Hp} (s : StOk c Lf adr S H) (x : Ext adr S H adr' S' H') {v : V} {d : D} (h : DR c.K H (Lvv Lf adr S) Lf (LvC adr S) adr S.length v d) : DR c.K H' (Lvv Lf adr' S') Lf (LvC adr' S') adr' S'.length v d :=
  h.ext x (fun _ z => .inl z) (fun _ z => z) s.disj
theorem DRL.ext0 {adr' : Nat → Addr} {S' : Sto} {H' : Hp} (s : StOk c Lf adr S H) (x : Ext adr S H adr' S' H') {v : List V} {d : List D} (h : DRL c.K H (Lvv Lf adr S) Lf (LvC adr S) adr S.length v d) : DRL c.K H' (Lvv Lf adr' S') Lf (LvC adr' S') adr' S'.length v d :=
  h.ext x (fun _ z => .inl z) (fun _ z => z) s.disj

/-! ### names, constants -/
def eVar (i : Nat) : Ev := fun ρ S => match ρ[i]? with | some (some d) => some (d, S) | _ => none
def eC (d : PyData) : Ev := fun _ S => some (.p d, S)
theorem de_var {i : Nat} {x : Str} (hN : c.N[i]? = some x) (hv : Vis c.sc x) (hd : (x == ("__debug__" : Str)) = false) (hcd : (x == ("__classdict__" : Str)) = false) : DE c (.Name x pos) (eVar i) := by
  refine ⟨tVar i, fun X hX => pe_var (by rw [hX.N]; exact hN) (by rw [hX.sc]; exact hv) hd hcd, fun Lf adr S σ H ρ d S' Q I e w => ?_⟩
  unfold eVar at e
  split at e
  · rename_i d' hd'
    cases e
    obtain ⟨v, h1, h2⟩ := I.slot i _ hd'
    exact ⟨v, h1, w v adr H .refl I.sto h2⟩
  · cases e
theorem ev_const {v : V} {d : PyData} (h : ∀ H L, At H L v d) : EvOk c (tC v) (eC d) := fun Lf adr S σ H ρ d' S' Q I e w => by
  cases e
  exact w v adr H .refl I.sto (h H _)
theorem de_int {i : Int} {j : Nat} : DE c (.Constant (.int i) j pos) (eC (.int i)) := ⟨_, fun X _ => pe_int, ev_const fun _ _ => .int _⟩
theorem de_str {i : Str} {j : Nat} : DE c (.Constant (.str i) j pos) (eC (.str i)) := ⟨_, fun X _ => pe_str, ev_const fun _ _ => .str _⟩
theorem de_bl {i : Bool} {j : Nat} : DE c (.Constant (.bool i) j pos) (eC (.bool i)) := ⟨_, fun X _ => pe_bl, ev_const fun _ _ => .bl _⟩
theorem de_non {j : Nat} : DE c (.Constant .none j pos) (eC .none) := ⟨_, fun X _ => pe_non, ev_const fun _ _ => .non⟩
/-- a global text -/
theorem de_gstr {x : Str} {z : Str} (hg : c.sc.names.lookup x = some .globalImplicit) (hm : ∃ t, c.mg x = some (.str z t)) (hd : (x == ("__debug__" : Str)) = false) : DE c (.Name x pos) (eC (.str z)) := by
  obtain ⟨t, hm⟩ := hm
  exact ⟨_, fun X hX => pe_glob (v := .str z) (by show X.env.scope.names.lookup x = _; rw [hX.sc]; exact hg) (by rw [hX.mg]; exact hm) ⟨t, rfl⟩ hd, ev_const fun _ _ => .str _⟩

/-! ### operators -/
def e2 (f : PyData → PyData → Option PyData) (fa fb : Ev) : Ev := fun ρ S => (fa ρ S).bind fun p => (fb ρ p.2).bind fun q => (vw q.2 p.1).bind fun a => (vw q.2 q.1).bind fun b => (f a b).bind fun r => some (.p r, q.2)
theorem ev_e2 {f : PyData → PyData → Option PyData} {ta tb : TE} (ha : EvOk c ta fa) (hb : EvOk c tb fb) : EvOk c (tOp (rD c.K f) ta tb) (e2 f fa fb) := fun Lf adr S σ H ρ d S' Q I e w => by
  unfold e2 at e
  simp only [Option.bind_eq_some_iff] at e
  obtain ⟨⟨x, S1⟩, e1, ⟨y, S2⟩, e2, m, e3, n, e4, r, e5, e6⟩ := e
  cases e6
  refine ha Lf adr S σ H ρ x S1 _ I e1 fun v adr1 H1 x1 s1 r1 => ?_
  refine hb Lf adr1 S1 σ H1 ρ y S2 _ (I.ext x1 s1) e2 fun u adr2 H2 x2 s2 r2 => ?_
  exact ⟨_, m, n, r, fun z => s2.lvv, vw_ok s2 (r1.ext0 s1 x2) e3, vw_ok s2 r2 e4, e5, wi_gr s2 (w.trans (x1.trans x2))⟩
theorem de_op {op : Operator} {f : PyData → PyData → Option PyData} (ho : ∀ X, InC c X → OpR X (binaryOp op) (rD X.K f)) (ha : DE c a fa) (hb : DE c b fb) : DE c (.BinOp a op b pos) (e2 f fa fb) := by
  obtain ⟨ta, pa, va⟩ := ha
  obtain ⟨tb, pb, vb⟩ := hb
  exact ⟨_, fun X hX => by have h := pe_op (pos := pos) (ho X hX) (pa X hX) (pb X hX); rw [hX.K] at h; exact h, ev_e2 va vb⟩
theorem de_cmp {op : CmpOp} {f : PyData → PyData → Option PyData} (ho : ∀ X, InC c X → OpR X (compareOp op) (rD X.K f)) (ha : DE c a fa) (hb : DE c b fb) (hm : behindInMarks op b = false) : DE c (.Compare a [op] [b] pos) (e2 f fa fb) := by
  obtain ⟨ta, pa, va⟩ := ha
  obtain ⟨tb, pb, vb⟩ := hb
  exact ⟨_, fun X hX => by have h := pe_cmpR (pos := pos) (ho X hX) (pa X hX) (pb X hX) hm; rw [hX.K] at h; exact h, ev_e2 va vb⟩
/-- a bool, as a test -/
def tB (f : Ev) : Tv := fun ρ S => (f ρ S).bind fun p => match p.1 with | .p (.bool b) => some (b, p.2) | _ => none
theorem tv_bool {t : TE} {t' : TT} {f : Ev} (h : EvOk c t f) (ht : ∀ σ H Q, (t σ H fun x H1 => ∃ k, x = .bl k ∧ Q k H1) → t' σ H Q) : TvOk c t' (tB f) := fun Lf adr S σ H ρ b S' Q I e w => by
  unfold tB at e
  simp only [Option.bind_eq_some_iff] at e
  obtain ⟨⟨x, S1⟩, e1, e2⟩ := e
  refine ht σ H Q ?_
  cases x with
  | p d =>
    cases d with
    | bool k =>
      simp only [Option.some.injEq, Prod.mk.injEq] at e2
      obtain ⟨rfl, rfl⟩ := e2
      refine h Lf adr S σ H ρ _ _ _ I e1 fun v adr1 H1 x1 s1 r1 => ?_
      have r1 : At H1 _ v (.bool k) := r1
      cases r1
      exact ⟨k, rfl, w adr1 H1 x1 s1⟩
    | _ => cases e2
  | _ => cases e2
theorem dt_cmp {op : CmpOp} {f : PyData → PyData → Option PyData} (ho : ∀ X, InC c X → OpR X (compareOp op) (rD X.K f)) (ha : DE c a fa) (hb : DE c b fb) (hm : behindInMarks op b = false) : DT c (.Compare a [op] [b] pos) (tB (e2 f fa fb)) := by
  obtain ⟨ta, pa, va⟩ := ha
  obtain ⟨tb, pb, vb⟩ := hb
  exact ⟨_, fun X hX => by have h := pt_cmpR (pos := pos) (ho X hX) (pa X hX) (pb X hX) hm; rw [hX.K] at h; exact h, tv_bool (ev_e2 va vb) fun σ H Q h => h⟩
/-- any bool expression, as a test -/
theorem dt_val {e : Expr} {f : Ev} (h : DE c e f) (he : ∀ X, InC c X → ∀ whole, isTrue e X.env whole = (do let v ← whole; standAt e.pos; holding [v] (truthy v))) : DT c e (tB f) := by
  obtain ⟨t, p, v⟩ := h
  exact ⟨_, fun X hX => pt_val (p X hX) (he X hX), tv_bool v fun σ H Q h => h⟩
/-- by its truth -/
def tTr (f : Ev) : Tv := fun ρ S => (f ρ S).bind fun p => (vw p.2 p.1).bind fun d => (truthD d).bind fun b => some (b, p.2)
theorem dt_truth {e : Expr} {f : Ev} (h : DE c e f) (he : ∀ X, InC c X → ∀ whole, isTrue e X.env whole = (do let v ← whole; standAt e.pos; holding [v] (truthy v))) : DT c e (tTr f) := by
  obtain ⟨t, p, v⟩ := h
  refine ⟨fun σ H Q => t σ H fun x H' => ∃ k, TruV c.K x H' k ∧ Q k H', fun X hX => by have h := pt_truth (p X hX) (he X hX); rw [hX.K] at h; exact h, fun Lf adr S σ H ρ b S' Q I e w => ?_⟩
  unfold tTr at e
  simp only [Option.bind_eq_some_iff] at e
  obtain ⟨⟨x, S1⟩, e1, d, e2, k, e3, e4⟩ := e
  cases e4
  refine v Lf adr S σ H ρ _ _ _ I e1 fun v adr1 H1 x1 s1 r1 => ?_
  exact ⟨_, truth_ok (vw_ok s1 r1 e2) e3, w adr1 H1 x1 s1⟩

/-! ### and, or, not, if -/
variable {tA tB' : Tv} {rest : List Expr}
def tAnd (t u : Tv) : Tv := fun ρ S => (t ρ S).bind fun p => if p.1 = true then u ρ p.2 else some (false, p.2)
def tOr (t u : Tv) : Tv := fun ρ S => (t ρ S).bind fun p => if p.1 = true then some (true, p.2) else u ρ p.2
def tNot (t : Tv) : Tv := fun ρ S => (t ρ S).bind fun p => some (!p.1, p.2)
theorem dw_and1 (h : DT c a tA) : DW c (.BoolOp .And [a] pos) tA := let ⟨t, p, v⟩ := h; ⟨t, fun X hX => pw_and1 (p X hX), v⟩
theorem dw_or1 (h : DT c a tA) : DW c (.BoolOp .Or [a] pos) tA := let ⟨t, p, v⟩ := h; ⟨t, fun X hX => pw_or1 (p X hX), v⟩
theorem dw_and (h : DT c a tA) (h' : DW c (.BoolOp .And (b :: rest) pos) tB') : DW c (.BoolOp .And (a :: b :: rest) pos) (tAnd tA tB') := by
  obtain ⟨ta, pa, va⟩ := h
  obtain ⟨tb, pb, vb⟩ := h'
  refine ⟨_, fun X hX => pw_and (pa X hX) (pb X hX), fun Lf adr S σ H ρ b S' Q I e w => ?_⟩
  unfold tAnd at e
  simp only [Option.bind_eq_some_iff] at e
  obtain ⟨⟨k, S1⟩, e1, e2⟩ := e
  refine va Lf adr S σ H ρ _ _ _ I e1 fun adr1 H1 x1 s1 => ?_
  cases k with
  | true => exact iteT (vb Lf adr1 S1 σ H1 ρ _ _ _ (I.ext x1 s1) e2 fun adr2 H2 x2 s2 => w adr2 H2 (x1.trans x2) s2)
  | false =>
    cases e2
    exact iteF (w adr1 H1 x1 s1)
theorem dw_or (h : DT c a tA) (h' : DW c (.BoolOp .Or (b :: rest) pos) tB') : DW c (.BoolOp .Or (a :: b :: rest) pos) (tOr tA tB') := by
  obtain ⟨ta, pa, va⟩ := h
  obtain ⟨tb, pb, vb⟩ := h'
  refine ⟨_, fun X hX => pw_or (pa X hX) (pb X hX), fun Lf adr S σ H ρ b S' Q I e w => ?_⟩
  unfold tOr at e
  simp only [Option.bind_eq_some_iff] at e
  obtain ⟨⟨k, S1⟩, e1, e2⟩ := e
  refine va Lf adr S σ H ρ _ _ _ I e1 fun adr1 H1 x1 s1 => ?_
  cases k with
  | false => exact iteF (vb Lf adr1 S1 σ H1 ρ _ _ _ (I.ext x1 s1) e2 fun adr2 H2 x2 s2 => w adr2 H2 (x1.trans x2) s2)
  | true =>
    cases e2
    exact iteT (w adr1 H1 x1 s1)
theorem dt_w {e : Expr} (h : DW c e tA) : DT c e tA := let ⟨t, p, v⟩ := h; ⟨t, fun X hX => (p X hX).pt, v⟩
theorem dt_not (h : DT c a tA) : DT c (.UnaryOp .Not a pos) (tNot tA) := by
  obtain ⟨ta, pa, va⟩ := h
  refine ⟨_, fun X hX => pt_not (pa X hX), fun Lf adr S σ H ρ b S' Q I e w => ?_⟩
  unfold tNot at e
  simp only [Option.bind_eq_some_iff] at e
  obtain ⟨⟨k, S1⟩, e1, e2⟩ := e
  cases e2
  exact va Lf adr S σ H ρ _ _ _ I e1 fun adr1 H1 x1 s1 => w adr1 H1 x1 s1
/-- .. as values: bools -/
def eAnd (fa fb : Ev) : Ev := fun ρ S => (fa ρ S).bind fun p => match p.1 with | .p (.bool b) => if b = true then fb ρ p.2 else some (.p (.bool false), p.2) | _ => none
def eOr (fa fb : Ev) : Ev := fun ρ S => (fa ρ S).bind fun p => match p.1 with | .p (.bool b) => if b = true then some (.p (.bool true), p.2) else fb ρ p.2 | _ => none
def eNot (fa : Ev) : Ev := fun ρ S => (fa ρ S).bind fun p => match p.1 with | .p (.bool b) => some (.p (.bool (!b)), p.2) | _ => none
theorem de_one {op : BoolOp} (h : DE c a fa) : DE c (.BoolOp op [a] pos) fa := let ⟨t, p, v⟩ := h; ⟨t, fun X hX => pe_one (p X hX), v⟩
theorem bool_at {H : Hp} {L : AdP} {v : V} {b : Bool} (h : At H L v (.bool b)) : v = .bl b := by cases h; rfl
theorem de_and (ha : DE c a fa) (hb : DE c (.BoolOp .And (b :: rest) pos) fb) : DE c (.BoolOp .And (a :: b :: rest) pos) (eAnd fa fb) := by
  obtain ⟨ta, pa, va⟩ := ha
  obtain ⟨tb, pb, vb⟩ := hb
  refine ⟨_, fun X hX => pe_and (pa X hX) (pb X hX), fun Lf adr S σ H ρ d S' Q I e w => ?_⟩
  unfold eAnd at e
  simp only [Option.bind_eq_some_iff] at e
  obtain ⟨⟨x, S1⟩, e1, e2⟩ := e
  refine va Lf adr S σ H ρ _ _ _ I e1 fun v adr1 H1 x1 s1 r1 => ?_
  cases x with
  | p d =>
    cases d with
    | bool k =>
      refine ⟨k, bool_at r1, ?_⟩
      cases k with
      | true => exact iteT (vb Lf adr1 S1 σ H1 ρ _ _ _ (I.ext x1 s1) e2 (w.trans x1))
      | false => cases e2; exact iteF (w _ adr1 H1 x1 s1 (.bl false))
    | _ => cases e2
  | _ => cases e2
theorem de_or (ha : DE c a fa) (hb : DE c (.BoolOp .Or (b :: rest) pos) fb) : DE c (.BoolOp .Or (a :: b :: rest) pos) (eOr fa fb) := by
  obtain ⟨ta, pa, va⟩ := ha
  obtain ⟨tb, pb, vb⟩ := hb
  refine ⟨_, fun X hX => pe_or (pa X hX) (pb X hX), fun Lf adr S σ H ρ d S' Q I e w => ?_⟩
  unfold eOr at e
  simp only [Option.bind_eq_some_iff] at e
  obtain ⟨⟨x, S1⟩, e1, e2⟩ := e
  refine va Lf adr S σ H ρ _ _ _ I e1 fun v adr1 H1 x1 s1 r1 => ?_
  cases x with
  | p d =>
    cases d with
    | bool k =>
      refine ⟨k, bool_at r1, ?_⟩
      cases k with
      | false => exact iteF (vb Lf adr1 S1 σ H1 ρ _ _ _ (I.ext x1 s1) e2 (w.trans x1))
      | true => cases e2; exact iteT (w _ adr1 H1 x1 s1 (.bl true))
    | _ => cases e2
  | _ => cases e2
theorem de_not (ha : DE c a fa) : DE c (.UnaryOp .Not a pos) (eNot fa) := by
  obtain ⟨ta, pa, va⟩ := ha
  refine ⟨_, fun X hX => pe_not (pa X hX), fun Lf adr S σ H ρ d S' Q I e w => ?_⟩
  unfold eNot at e
  simp only [Option.bind_eq_some_iff] at e
  obtain ⟨⟨x, S1⟩, e1, e2⟩ := e
  refine va Lf adr S σ H ρ _ _ _ I e1 fun v adr1 H1 x1 s1 r1 => ?_
  cases x with
  | p d =>
    cases d with
    | bool k =>
      cases e2
      exact ⟨k, bool_at r1, w _ adr1 H1 x1 s1 (.bl _)⟩
    | _ => cases e2
  | _ => cases e2
/-- -a -/
def eNeg (fa : Ev) : Ev := fun ρ S => (fa ρ S).bind fun p => match p.1 with | .p (.int i) => some (.p (.int (-i)), p.2) | _ => none
theorem de_neg (ha : DE c a fa) : DE c (.UnaryOp .USub a pos) (eNeg fa) := by
  obtain ⟨ta, pa, va⟩ := ha
  refine ⟨_, fun X hX => pe_un un_neg (pa X hX), fun Lf adr S σ H ρ d S' Q I e w => ?_⟩
  unfold eNeg at e
  simp only [Option.bind_eq_some_iff] at e
  obtain ⟨⟨x, S1⟩, e1, e2⟩ := e
  refine va Lf adr S σ H ρ _ _ _ I e1 fun v adr1 H1 x1 s1 r1 => ?_
  cases x with
  | p d =>
    cases d with
    | int k =>
      cases e2
      have r1 : At H1 _ v (.int k) := r1
      cases r1
      exact ⟨k, rfl, w _ adr1 H1 x1 s1 (.int _)⟩
    | _ => cases e2
  | _ => cases e2
def eIf (t : Tv) (fa fb : Ev) : Ev := fun ρ S => (t ρ S).bind fun p => if p.1 = true then fa ρ p.2 else fb ρ p.2
theorem de_if {t : Expr} (ht : DT c t tA) (ha : DE c a fa) (hb : DE c b fb) : DE c (.IfExp t a b pos) (eIf tA fa fb) := by
  obtain ⟨tt, pt, vt⟩ := ht
  obtain ⟨ta, pa, va⟩ := ha
  obtain ⟨tb, pb, vb⟩ := hb
  refine ⟨_, fun X hX => pe_ifExp (pt X hX) (pa X hX) (pb X hX), fun Lf adr S σ H ρ d S' Q I e w => ?_⟩
  unfold eIf at e
  simp only [Option.bind_eq_some_iff] at e
  obtain ⟨⟨k, S1⟩, e1, e2⟩ := e
  refine vt Lf adr S σ H ρ _ _ _ I e1 fun adr1 H1 x1 s1 => ?_
  cases k with
  | true => exact iteT (va Lf adr1 S1 σ H1 ρ _ _ _ (I.ext x1 s1) e2 (w.trans x1))
  | false => exact iteF (vb Lf adr1 S1 σ H1 ρ _ _ _ (I.ext x1 s1) e2 (w.trans x1))
/-- a test whose value is told by a bool of a value expression -/
def eT (t : Tv) : Ev := fun ρ S => (t ρ S).bind fun p => some (.p (.bool p.1), p.2)

/-! ### arguments, tuples, calls -/
def noStar : List Expr → Bool
  | [] => true
  | .Starred _ _ :: _ => false
  | _ :: r => noStar r
theorem star_cons {e : Expr} {es : List Expr} {env : Env} (h : noStar (e :: es) = true) : starEach (e :: es) env = (false, eval e env) :: starEach es env := by
  cases e <;> first | rfl | (simp [noStar] at h)
theorem star_tl {e : Expr} {es : List Expr} (h : noStar (e :: es) = true) : noStar es = true := by
  cases e <;> first | exact h | (simp [noStar] at h)
theorem star_any {pos : Pos} {env : Env} : ∀ {es : List Expr}, noStar es = true → (backTo pos (starEach es env)).any (·.1) = false
  | [], _ => rfl
  | e :: es, h => by
    rw [star_cons h]
    have := star_any (pos := pos) (env := env) (star_tl h)
    simpa [backTo] using this
variable {es : List Expr} {fs : Av}
def aNil : Av := fun _ S => some ([], S)
def aCons (fa : Ev) (fs : Av) : Av := fun ρ S => (fa ρ S).bind fun p => (fs ρ p.2).bind fun q => some (p.1 :: q.1, q.2)
theorem da_nil : DA c [] aNil := ⟨_, fun X _ => pa_nil, fun Lf adr S σ H ρ ds S' Q I e w => by cases e; exact w [] adr H .refl I.sto .nil⟩
theorem da_cons (ha : DE c a fa) (hs : DA c es fs) (hst : noStar (a :: es) = true) : DA c (a :: es) (aCons fa fs) := by
  obtain ⟨ta, pa, va⟩ := ha
  obtain ⟨ts, ps, vs⟩ := hs
  refine ⟨_, fun X hX => pa_cons (pa X hX) (ps X hX) (star_cons hst), fun Lf adr S σ H ρ ds S' Q I e w => ?_⟩
  unfold aCons at e
  simp only [Option.bind_eq_some_iff] at e
  obtain ⟨⟨x, S1⟩, e1, ⟨y, S2⟩, e2, e3⟩ := e
  cases e3
  refine va Lf adr S σ H ρ _ _ _ I e1 fun v adr1 H1 x1 s1 r1 => ?_
  refine vs Lf adr1 S1 σ H1 ρ _ _ _ (I.ext x1 s1) e2 fun us adr2 H2 x2 s2 r2 => ?_
  exact w _ adr2 H2 (x1.trans x2) s2 (.cons (r1.ext0 s1 x2) r2)
/-- all are data -/
def pvs : List D → Option (List PyData)
  | [] => some []
  | .p d :: ds => (pvs ds).map (d :: ·)
  | _ :: _ => none
theorem pvs_ok {K : PySem.W.Frag} {L C : AdP} {n : Nat} : ∀ {vs : List V} {ds : List D} {ms : List PyData}, DRL K H L Lf C adr n vs ds → pvs ds = some ms → AtL H L vs ms
  | _, [], _, r, e => by cases e; cases r; exact .nil
  | _, d :: ds, _, r, e => by
    cases r with
    | cons a b =>
      cases d with
      | p d =>
        obtain ⟨ms, e1, e2⟩ := Option.map_eq_some_iff.mp (show (pvs ds).map (d :: ·) = _ from e)
        subst e2
        exact .cons a (pvs_ok b e1)
      | _ => cases e
def eTup (fs : Av) : Ev := fun ρ S => (fs ρ S).bind fun p => (pvs p.1).bind fun ds => if ds.length ≤ 10000 then some (.p (.tuple ds), p.2) else none
theorem de_tup {k : Nat} (hs : DA c es fs) : DE c (.Tuple es k pos) (eTup fs) := by
  obtain ⟨ts, ps, vs⟩ := hs
  refine ⟨_, fun X hX => pe_tup (ps X hX), fun Lf adr S σ H ρ d S' Q I e w => ?_⟩
  unfold eTup at e
  simp only [Option.bind_eq_some_iff] at e
  obtain ⟨⟨x, S1⟩, e1, ds, e2, e3⟩ := e
  split at e3
  · rename_i hz
    cases e3
    refine vs Lf adr S σ H ρ _ _ _ I e1 fun us adr1 H1 x1 s1 r1 => ?_
    have r := pvs_ok r1 e2
    refine ⟨by rw [r.length, sizeLine_eq]; omega, fun p hp => ?_⟩
    exact wi_gr s1 (w.trans x1) _ _ (upd_grow hp) (.newT (fun z => s1.lvv) hp r)
  · cases e3
/-- a built-in by data -/
def eB (f : List PyData → Option PyData) (fs : Av) : Ev := fun ρ S => (fs ρ S).bind fun p => (vws p.2 p.1).bind fun ds => (f ds).bind fun r => some (.p r, p.2)
theorem ev_cb {f : List PyData → Option PyData} {t : TA} (h : AvOk c t fs) : EvOk c (tCB (rCD c.K f) t) (eB f fs) := fun Lf adr S σ H ρ d S' Q I e w => by
  unfold eB at e
  simp only [Option.bind_eq_some_iff] at e
  obtain ⟨⟨x, S1⟩, e1, ds, e2, r, e3, e4⟩ := e
  cases e4
  refine h Lf adr S σ H ρ _ _ _ I e1 fun us adr1 H1 x1 s1 r1 => ?_
  exact ⟨_, ds, r, fun z => s1.lvv, vws_ok s1 r1 e2, e3, wi_gr s1 (w.trans x1)⟩
theorem de_callB {id : String} {f : List PyData → Option PyData} {x : Str} {p : Pos} {e : Expr} (hc : ∀ X, InC c X → CallR X (.builtin id) (rCD X.K f)) (hg : c.sc.names.lookup x = some .globalImplicit) (hm : c.mg x = none) (hv : bootBuiltins x = some (.builtin id)) (ha : DA c (e :: es) fs)
    (hn : x ≠ "__name__") (hdb : (x == ("__debug__" : Str)) = false) (hst : noStar (e :: es) = true) : DE c (.Call (.Name x p) (e :: es) [] pos) (eB f fs) := by
  obtain ⟨t, pa, va⟩ := ha
  exact ⟨_, fun X hX => by
    have h := pe_callB (p := p) (pos := pos) (hc X hX) (show Gl X x by show X.env.scope.names.lookup x = _; rw [hX.sc]; exact hg) (by rw [hX.mg]; exact hm) hv (pa X hX) hn hdb (star_cons hst) (star_any (star_tl hst))
    rw [hX.K] at h
    exact h, ev_cb va⟩
theorem de_callTy {T : String} {f : List PyData → Option PyData} {x : Str} {p : Pos} {e : Expr} (hc : ∀ X, InC c X → CallR X (.type T) (rCD X.K f)) (hg : c.sc.names.lookup x = some .globalImplicit) (hm : c.mg x = none) (hv : bootBuiltins x = some (.type T)) (ha : DA c (e :: es) fs)
    (hn : x ≠ "__name__") (hdb : (x == ("__debug__" : Str)) = false) (hst : noStar (e :: es) = true) : DE c (.Call (.Name x p) (e :: es) [] pos) (eB f fs) := by
  obtain ⟨t, pa, va⟩ := ha
  exact ⟨_, fun X hX => by
    have h := pe_callTy (p := p) (pos := pos) (hc X hX) (show Gl X x by show X.env.scope.names.lookup x = _; rw [hX.sc]; exact hg) (by rw [hX.mg]; exact hm) hv (pa X hX) hn hdb (star_cons hst) (star_any (star_tl hst))
    rw [hX.K] at h
    exact h, ev_cb va⟩
end
end DL
namespace DL
open PySem PySem.Spec L2
open PyProof.Rows hiding St
section
variable {c : Cxt} {Lf : AdP} {adr : Nat → Addr} {S : Sto} {H : Hp} {σ : L2.St} {ρ : Env'} {a b d' : Expr} {fa fb fd : Ev} {pos : Pos} {es : List Expr} {fs : Av}
/-! ### a < b < c -/
def e3 (f g : PyData → PyData → Option PyData) (fa fb fc : Ev) : Ev := fun ρ S => (fa ρ S).bind fun p => (fb ρ p.2).bind fun q => (vw q.2 p.1).bind fun a => (vw q.2 q.1).bind fun b => (f a b).bind fun r =>
  match r with
  | .bool k => if k = true then (fc ρ q.2).bind fun w => (vw w.2 q.1).bind fun b' => (vw w.2 w.1).bind fun c => (g b' c).bind fun r => some (.p r, w.2) else some (.p (.bool false), q.2)
  | _ => none
theorem grow_ok {H' : Hp} (s : StOk c Lf adr S H) (k : ∀ a o, H a = some o → H' a = some o) : StOk c Lf adr S H' := s.grow k fun z hz => ⟨.inl hz, (s.lfo z hz).keep (k z)⟩
theorem ev_e3 {f g : PyData → PyData → Option PyData} {ta tb td : TE} (va : EvOk c ta fa) (vb : EvOk c tb fb) (vd : EvOk c td fd) : EvOk c (tChain (rD c.K f) (rD c.K g) ta tb td) (e3 f g fa fb fd) := fun Lf adr S σ H ρ d S' Q I e w => by
  unfold e3 at e
  simp only [Option.bind_eq_some_iff] at e
  obtain ⟨⟨x, S1⟩, e1, ⟨y, S2⟩, e2, m, e3, n, e4, r, e5, e6⟩ := e
  refine va Lf adr S σ H ρ x S1 _ I e1 fun v adr1 H1 x1 s1 r1 => ?_
  have I1 := I.ext x1 s1
  refine vb Lf adr1 S1 σ H1 ρ y S2 _ I1 e2 fun u adr2 H2 x2 s2 r2 => ?_
  refine ⟨_, m, n, r, fun z => s2.lvv, vw_ok s2 (r1.ext0 s1 x2) e3, vw_ok s2 r2 e4, e5, fun z H3 k3 a3 => ?_⟩
  have s3 := grow_ok s2 k3
  have x3 : Ext adr2 S2 H2 adr2 S2 H3 := .grow k3
  cases r with
  | bool k =>
    refine ⟨k, bool_at a3, ?_⟩
    cases k with
    | false =>
      cases e6
      exact iteF (w _ adr2 H3 (x1.trans (x2.trans x3)) s3 (.bl false))
    | true =>
      simp only [if_pos, Option.bind_eq_some_iff] at e6
      obtain ⟨⟨z', S3⟩, e7, m', e8, n', e9, r', e10, e11⟩ := e6
      cases e11
      refine iteT (vd Lf adr2 S2 σ H3 ρ z' S3 _ ((I1.ext x2 s2).ext x3 s3) e7 fun u4 adr4 H4 x4 s4 r4 => ?_)
      exact ⟨_, m', n', r', fun z => s4.lvv, vw_ok s4 (r2.ext0 s2 (x3.trans x4)) e8, vw_ok s4 r4 e9, e10, wi_gr s4 (w.trans (x1.trans (x2.trans (x3.trans x4))))⟩
  | _ => cases e6
theorem de_chain {op op' : CmpOp} {f g : PyData → PyData → Option PyData} (ho : ∀ X, InC c X → OpR X (compareOp op) (rD X.K f)) (ho' : ∀ X, InC c X → OpR X (compareOp op') (rD X.K g)) (ha : DE c a fa) (hb : DE c b fb) (hd : DE c d' fd) (hm : lastMarks [op, op'] [b, d'] = false) :
    DE c (.Compare a [op, op'] [b, d'] pos) (e3 f g fa fb fd) := by
  obtain ⟨ta, pa, va⟩ := ha
  obtain ⟨tb, pb, vb⟩ := hb
  obtain ⟨td, pd, vd⟩ := hd
  exact ⟨_, fun X hX => by have h := pe_chain (pos := pos) (ho X hX) (ho' X hX) (pa X hX) (pb X hX) (pd X hX) hm; rw [hX.K] at h; exact h, ev_e3 va vb vd⟩
theorem dt_chain {op op' : CmpOp} {f g : PyData → PyData → Option PyData} (ho : ∀ X, InC c X → OpR X (compareOp op) (rD X.K f)) (ho' : ∀ X, InC c X → OpR X (compareOp op') (rD X.K g)) (ha : DE c a fa) (hb : DE c b fb) (hd : DE c d' fd) (hm : lastMarks [op, op'] [b, d'] = false) :
    DT c (.Compare a [op, op'] [b, d'] pos) (tB (e3 f g fa fb fd)) := by
  obtain ⟨ta, pa, va⟩ := ha
  obtain ⟨tb, pb, vb⟩ := hb
  obtain ⟨td, pd, vd⟩ := hd
  exact ⟨_, fun X hX => by have h := pt_chain (pos := pos) (ho X hX) (ho' X hX) (pa X hX) (pb X hX) (pd X hX) hm; rw [hX.K] at h; exact h, tv_bool (ev_e3 va vb vd) fun σ H Q h => h⟩

/-! ### subscripts -/
theorem de_ix (ha : DE c a fa) (hb : DE c b fb) (hs : PlainIx b) : DE c (.Subscript a b pos) (e2 ixD fa fb) := by
  obtain ⟨ta, pa, va⟩ := ha
  obtain ⟨tb, pb, vb⟩ := hb
  exact ⟨_, fun X hX => by have h := pe_ix (pos := pos) (hx_ix hX.un) (pa X hX) (pb X hX) hs; rw [hX.K] at h; exact h, ev_e2 va vb⟩
/-- a slice's end -/
abbrev Ov := Env' → Sto → Option (Option Int × Sto)
def OvOk (c : Cxt) (t : TO) (f : Ov) : Prop := ∀ Lf adr S σ H ρ o S' (Q : Option Int → Hp → Prop), EOk c Lf adr S σ H ρ → f ρ S = some (o, S') → (∀ adr' H', Ext adr S H adr' S' H' → StOk c Lf adr' S' H' → Q o H') → t σ H Q
def DO (c : Cxt) (e : Option Expr) (f : Ov) : Prop := ∃ t, (∀ X, InC c X → PO X e t) ∧ OvOk c t f
def oNone : Ov := fun _ S => some (none, S)
def oSome (fa : Ev) : Ov := fun ρ S => (fa ρ S).bind fun p => match p.1 with | .p (.int i) => some (some i, p.2) | _ => none
theorem do_none : DO c none oNone := ⟨_, fun X _ => po_none, fun Lf adr S σ H ρ o S' Q I e w => by cases e; exact w adr H .refl I.sto⟩
theorem do_some (ha : DE c a fa) : DO c (some a) (oSome fa) := by
  obtain ⟨ta, pa, va⟩ := ha
  refine ⟨_, fun X hX => po_some (pa X hX), fun Lf adr S σ H ρ o S' Q I e w => ?_⟩
  unfold oSome at e
  simp only [Option.bind_eq_some_iff] at e
  obtain ⟨⟨x, S1⟩, e1, e2⟩ := e
  refine va Lf adr S σ H ρ _ _ _ I e1 fun v adr1 H1 x1 s1 r1 => ?_
  cases x with
  | p d =>
    cases d with
    | int k =>
      cases e2
      have r1 : At H1 _ v (.int k) := r1
      cases r1
      exact ⟨k, rfl, w adr1 H1 x1 s1⟩
    | _ => cases e2
  | _ => cases e2
variable {lo hi : Option Expr} {fl fh : Ov} {p2 : Pos}
def eSl (fa : Ev) (fl fh : Ov) : Ev := fun ρ S => (fa ρ S).bind fun p => (fl ρ p.2).bind fun q => (fh ρ q.2).bind fun r => (vw r.2 p.1).bind fun d => (sliceD d q.1 r.1).bind fun z => some (.p z, r.2)
theorem de_slT (ha : DE c a fa) (hl : DO c lo fl) (hh : DO c hi fh) : DE c (.Subscript a (.Slice lo hi none p2) pos) (eSl fa fl fh) := by
  obtain ⟨ta, pa, va⟩ := ha
  obtain ⟨tl, pl, vl⟩ := hl
  obtain ⟨th, ph, vh⟩ := hh
  refine ⟨_, fun X hX => by have h := pe_slice (pos := pos) (p2 := p2) sl_tupA (pa X hX) (pl X hX) (ph X hX); rw [hX.K] at h; exact h, fun Lf adr S σ H ρ d S' Q I e w => ?_⟩
  unfold eSl at e
  simp only [Option.bind_eq_some_iff] at e
  obtain ⟨⟨x, S1⟩, e1, ⟨l, S2⟩, e2, ⟨u, S3⟩, e3, m, e4, z, e5, e6⟩ := e
  cases e6
  refine va Lf adr S σ H ρ _ _ _ I e1 fun v adr1 H1 x1 s1 r1 => ?_
  have I1 := I.ext x1 s1
  refine vl Lf adr1 S1 σ H1 ρ _ _ _ I1 e2 fun adr2 H2 x2 s2 => ?_
  have I2 := I1.ext x2 s2
  refine vh Lf adr2 S2 σ H2 ρ _ _ _ I2 e3 fun adr3 H3 x3 s3 => ?_
  have r := vw_ok s3 (r1.ext0 s1 (x2.trans x3)) e4
  cases m with
  | tuple ds =>
    cases e5
    obtain ⟨b, xs, rfl, h1, r1'⟩ := r.tuple_inv
    have g := wi_gr s3 (w.trans (x1.trans (x2.trans x3)))
    refine ⟨b, xs, rfl, h1, fun hw => ?_, fun _ p hp => ?_⟩
    · refine g _ _ (fun _ _ q => q) ?_
      have e : (ds.drop (HT.sIx ds.length 0 l)).take (HT.sIx ds.length ds.length u - HT.sIx ds.length 0 l) = ds := by
        rw [r1'.length] at hw
        rw [hw.1, hw.2]
        simp
      rw [e]
      exact r.tuple_at
    · exact g _ _ (upd_grow hp) (.newT (fun z => s3.lvv) hp (r1'.cut l u))
  | _ => cases e5
/-- a list's slice: a fresh list -/
def lSl (fa : Ev) (fl fh : Ov) : Lsv := fun ρ S => (fa ρ S).bind fun p => (fl ρ p.2).bind fun q => (fh ρ q.2).bind fun r => (vw r.2 p.1).bind fun d => (sliceL d q.1 r.1).bind fun z => some (z, r.2)
theorem dl_sl (ha : DE c a fa) (hl : DO c lo fl) (hh : DO c hi fh) : DLs c (.Subscript a (.Slice lo hi none p2) pos) (lSl fa fl fh) := by
  obtain ⟨ta, pa, va⟩ := ha
  obtain ⟨tl, pl, vl⟩ := hl
  obtain ⟨th, ph, vh⟩ := hh
  refine ⟨_, fun X hX => by have h := pe_slice (pos := pos) (p2 := p2) sl_list (pa X hX) (pl X hX) (ph X hX); rw [hX.K] at h; exact h, fun Lf adr S σ H ρ d S' Q I e w => ?_⟩
  unfold lSl at e
  simp only [Option.bind_eq_some_iff] at e
  obtain ⟨⟨x, S1⟩, e1, ⟨l, S2⟩, e2, ⟨u, S3⟩, e3, m, e4, z, e5, e6⟩ := e
  cases e6
  refine va Lf adr S σ H ρ _ _ _ I e1 fun v adr1 H1 x1 s1 r1 => ?_
  have I1 := I.ext x1 s1
  refine vl Lf adr1 S1 σ H1 ρ _ _ _ I1 e2 fun adr2 H2 x2 s2 => ?_
  have I2 := I1.ext x2 s2
  refine vh Lf adr2 S2 σ H2 ρ _ _ _ I2 e3 fun adr3 H3 x3 s3 => ?_
  have r := vw_ok s3 (r1.ext0 s1 (x2.trans x3)) e4
  cases m with
  | list ds =>
    cases e5
    obtain ⟨b, xs, rfl, h1, r1'⟩ := r.list_inv
    exact ⟨b, xs, rfl, h1, fun p hp => wi_grL s3 (w.trans (x1.trans (x2.trans x3))) p _ _ hp (upd_grow hp) upd_same (r1'.cut l u)⟩
  | _ => cases e5

/-! ### fresh lists -/
def eL (f : Lsv) : Ev := fun ρ S => (f ρ S).bind fun p => some (.p (.list p.1), p.2)
theorem ev_l {t : TE} {f : Lsv} (v : LvOk c t f) : EvOk c t (eL f) := fun Lf adr S σ H ρ d S' Q I e w => by
  unfold eL at e
  simp only [Option.bind_eq_some_iff] at e
  obtain ⟨⟨ds, S1⟩, e1, e2⟩ := e
  cases e2
  refine v Lf adr S σ H ρ _ _ _ I e1 fun p ws adr' H' x s n hp r => ?_
  have nl : ¬ Lf p := fun z => I.sto.lf p z n
  have nc : ¬ LvC adr' S1 p := fun z => s.disj p z (.inr rfl)
  refine w _ adr' H' x (s.weak fun a z => .inl z) (.lst (fun z => z.elim nl nc) hp (r.tr fun z h1 h2 => ⟨.of fun o q => q, fun h3 => ?_⟩))
  exact h2 (h3.imp .inl id)
theorem de_l {e : Expr} {f : Lsv} (h : DLs c e f) : DE c e (eL f) := let ⟨t, p, v⟩ := h; ⟨t, p, ev_l v⟩
def lDisp (fs : Av) : Lsv := fun ρ S => (fs ρ S).bind fun p => (pvs p.1).bind fun ds => if ds.length ≤ 10000 then some (ds, p.2) else none
theorem dl_disp (hs : DA c es fs) : DLs c (.List es pos) (lDisp fs) := by
  obtain ⟨ts, ps, vs⟩ := hs
  refine ⟨_, fun X hX => pe_lst (ps X hX), fun Lf adr S σ H ρ d S' Q I e w => ?_⟩
  unfold lDisp at e
  simp only [Option.bind_eq_some_iff] at e
  obtain ⟨⟨x, S1⟩, e1, ds, e2, e3⟩ := e
  split at e3
  · rename_i hz
    cases e3
    refine vs Lf adr S σ H ρ _ _ _ I e1 fun us adr1 H1 x1 s1 r1 => ?_
    have r := pvs_ok r1 e2
    exact ⟨by rw [r.length, sizeLine_eq]; omega, fun p hp => wi_grL s1 (w.trans x1) p us _ hp (upd_grow hp) upd_same r⟩
  · cases e3
def lB (f : List PyData → Option (List PyData)) (fs : Av) : Lsv := fun ρ S => (fs ρ S).bind fun p => (vws p.2 p.1).bind fun ds => (f ds).bind fun r => some (r, p.2)
theorem lv_cb {f : List PyData → Option (List PyData)} {t : TA} (h : AvOk c t fs) : LvOk c (tCB (rCL c.K f) t) (lB f fs) := fun Lf adr S σ H ρ d S' Q I e w => by
  unfold lB at e
  simp only [Option.bind_eq_some_iff] at e
  obtain ⟨⟨x, S1⟩, e1, ds, e2, r, e3, e4⟩ := e
  cases e4
  refine h Lf adr S σ H ρ _ _ _ I e1 fun us adr1 H1 x1 s1 r1 => ?_
  exact ⟨_, ds, _, fun z => s1.lvv, vws_ok s1 r1 e2, e3, wi_grL s1 (w.trans x1)⟩
theorem dl_callB {id : String} {f : List PyData → Option (List PyData)} {x : Str} {p : Pos} {e : Expr} (hc : ∀ X, InC c X → CallR X (.builtin id) (rCL X.K f)) (hg : c.sc.names.lookup x = some .globalImplicit) (hm : c.mg x = none) (hv : bootBuiltins x = some (.builtin id)) (ha : DA c (e :: es) fs)
    (hn : x ≠ "__name__") (hdb : (x == ("__debug__" : Str)) = false) (hst : noStar (e :: es) = true) : DLs c (.Call (.Name x p) (e :: es) [] pos) (lB f fs) := by
  obtain ⟨t, pa, va⟩ := ha
  exact ⟨_, fun X hX => by
    have h := pe_callB (p := p) (pos := pos) (hc X hX) (show Gl X x by show X.env.scope.names.lookup x = _; rw [hX.sc]; exact hg) (by rw [hX.mg]; exact hm) hv (pa X hX) hn hdb (star_cons hst) (star_any (star_tl hst))
    rw [hX.K] at h
    exact h, lv_cb va⟩
theorem dl_callTy {T : String} {f : List PyData → Option (List PyData)} {x : Str} {p : Pos} {e : Expr} (hc : ∀ X, InC c X → CallR X (.type T) (rCL X.K f)) (hg : c.sc.names.lookup x = some .globalImplicit) (hm : c.mg x = none) (hv : bootBuiltins x = some (.type T)) (ha : DA c (e :: es) fs)
    (hn : x ≠ "__name__") (hdb : (x == ("__debug__" : Str)) = false) (hst : noStar (e :: es) = true) : DLs c (.Call (.Name x p) (e :: es) [] pos) (lB f fs) := by
  obtain ⟨t, pa, va⟩ := ha
  exact ⟨_, fun X hX => by
    have h := pe_callTy (p := p) (pos := pos) (hc X hX) (show Gl X x by show X.env.scope.names.lookup x = _; rw [hX.sc]; exact hg) (by rw [hX.mg]; exact hm) hv (pa X hX) hn hdb (star_cons hst) (star_any (star_tl hst))
    rw [hX.K] at h
    exact h, lv_cb va⟩
end
end DL
namespace DL
open PySem PySem.Spec L2
open PyProof.Rows hiding St
/-! ### targets -/
abbrev Gv := PyData → Env' → Option Env'
/-- only the slots at is change; nothing new is owned -/
structure Chg (is : List Nat) (σ σ' : L2.St) (ρ ρ' : Env') : Prop where
  lenσ : σ'.length = σ.length
  lenρ : ρ'.length = ρ.length
  eσ : ∀ (i : Nat), i ∉ is → σ'[i]? = σ[i]?
  eρ : ∀ (i : Nat), i ∉ is → ρ'[i]? = ρ[i]?
  no : ∀ (i : Nat) (m : PyData), ρ'[i]? = some (some (.o m)) → ρ[i]? = some (some (.o m)) ∧ σ'[i]? = σ[i]?
theorem Chg.refl {is : List Nat} {σ : L2.St} {ρ : Env'} : Chg is σ σ ρ ρ := ⟨rfl, rfl, fun _ _ => rfl, fun _ _ => rfl, fun _ _ h => ⟨h, rfl⟩⟩
theorem Chg.trans {is js : List Nat} {σ σ1 σ2 : L2.St} {ρ ρ1 ρ2 : Env'} (x : Chg is σ σ1 ρ ρ1) (y : Chg js σ1 σ2 ρ1 ρ2) : Chg (is ++ js) σ σ2 ρ ρ2 where
  lenσ := y.lenσ.trans x.lenσ
  lenρ := y.lenρ.trans x.lenρ
  eσ := fun i h => (y.eσ i fun z => h (List.mem_append_right _ z)).trans (x.eσ i fun z => h (List.mem_append_left _ z))
  eρ := fun i h => (y.eρ i fun z => h (List.mem_append_right _ z)).trans (x.eρ i fun z => h (List.mem_append_left _ z))
  no := fun i m h => let ⟨a, b⟩ := y.no i m h; let ⟨c, d⟩ := x.no i m a; ⟨c, b.trans d⟩
def GvOk (c : Cxt) (is : List Nat) (g : TG) (f : Gv) : Prop := ∀ Lf adr S σ H ρ v d ρ' (Q : L2.St → Hp → Prop), EOk c Lf adr S σ H ρ → At H (Lvv Lf adr S) v d → f d ρ = some ρ' →
  (∀ σ', EOk c Lf adr S σ' H ρ' → Chg is σ σ' ρ ρ' → Q σ' H) → g v σ H Q
def DG (c : Cxt) (is : List Nat) (e : Expr) (f : Gv) : Prop := ∃ g, (∀ X, InC c X → PG X e g) ∧ GvOk c is g f
abbrev Gsv := List PyData → Env' → Option Env'
def GsvOk (c : Cxt) (is : List Nat) (g : TGs) (f : Gsv) : Prop := ∀ Lf adr S σ H ρ vs ds ρ' (Q : L2.St → Hp → Prop), EOk c Lf adr S σ H ρ → AtL H (Lvv Lf adr S) vs ds → f ds ρ = some ρ' →
  (∀ σ', EOk c Lf adr S σ' H ρ' → Chg is σ σ' ρ ρ' → Q σ' H) → g vs σ H Q
def DGs (c : Cxt) (is : List Nat) (es : List Expr) (f : Gsv) : Prop := ∃ g, (∀ X, InC c X → PGs X es g) ∧ GsvOk c is g f
def gN (i : Nat) : Gv := fun d ρ => if i < ρ.length then some (ρ.set i (some (.p d))) else none
def gNil : Gsv := fun ds ρ => match ds with | [] => some ρ | _ => none
def gCons (f : Gv) (fs : Gsv) : Gsv := fun ds ρ => match ds with | d :: ds => (f d ρ).bind fun ρ1 => fs ds ρ1 | [] => none
def gT (fs : Gsv) : Gv := fun d ρ => match d with | .tuple ds => fs ds ρ | _ => none
section
variable {c : Cxt} {Lf : AdP} {adr : Nat → Addr} {S : Sto} {H : Hp} {σ : L2.St} {ρ : Env'} {pos : Pos}
theorem EOk.set {v : V} {d : D} (I : EOk c Lf adr S σ H ρ) (i : Nat) (h : DR c.K H (Lvv Lf adr S) Lf (LvC adr S) adr S.length v d) : EOk c Lf adr S (σ.set i (some v)) H (ρ.set i (some d)) := by
  refine ⟨fun j d' e => ?_, I.sto, by simp [I.len]⟩
  by_cases hj : j = i
  · subst hj
    by_cases hl : j < ρ.length
    · rw [List.getElem?_set_self hl] at e
      cases e
      exact ⟨v, List.getElem?_set_self (by rw [I.len]; exact hl), h⟩
    · rw [List.getElem?_eq_none (by simpa using hl)] at e
      cases e
  · rw [List.getElem?_set_ne (Ne.symm hj)] at e
    rw [List.getElem?_set_ne (Ne.symm hj)]
    exact I.slot j d' e
theorem chg_set {i : Nat} {v : V} {d : D} (hd : ∀ m, d ≠ .o m) (hl : i < ρ.length) : Chg [i] σ (σ.set i (some v)) ρ (ρ.set i (some d)) := by
  refine ⟨by simp, by simp, fun j hj => ?_, fun j hj => ?_, fun j m e => ?_⟩
  · rw [List.getElem?_set_ne (fun z => hj (by simp [z]))]
  · rw [List.getElem?_set_ne (fun z => hj (by simp [z]))]
  · by_cases hj : j = i
    · subst hj
      rw [List.getElem?_set_self hl] at e
      cases e
      exact absurd rfl (hd m)
    · rw [List.getElem?_set_ne (Ne.symm hj)] at e
      exact ⟨e, List.getElem?_set_ne (Ne.symm hj)⟩
theorem dg_name {i : Nat} {x : Str} (hN : c.N.Nodup) (hi : c.N[i]? = some x) (hx : Loc c.sc x) (hf : c.fn x = true ∨ c.sc.names.lookup x = some .local) : DG c [i] (.Name x pos) (gN i) := by
  refine ⟨gName i, fun X hX => pg_name (by rw [hX.N]; exact hN) (by rw [hX.N]; exact hi) (by rw [hX.sc]; exact hx) (by rw [hX.fn, hX.sc]; exact hf), fun Lf adr S σ H ρ v d ρ' Q I r e w => ?_⟩
  unfold gN at e
  split at e
  · rename_i hl
    cases e
    exact w _ (I.set i (d := .p d) r) (chg_set (fun m z => nomatch z) hl)
  · cases e
theorem dgs_nil : DGs c [] [] gNil := by
  refine ⟨L2.gNil, fun X hX => pgs_nil, fun Lf adr S σ H ρ vs ds ρ' Q I r e w => ?_⟩
  cases r with
  | nil => cases e; exact ⟨rfl, w σ I .refl⟩
  | cons _ _ => cases e
theorem dgs_cons {is js : List Nat} {e : Expr} {es : List Expr} {f : Gv} {fs : Gsv} (h : DG c is e f) (hs : DGs c js es fs) (ht : ∀ X, InC c X → (assignEach (e :: es) X.env).map (·.2) = assign e X.env :: (assignEach es X.env).map (·.2)) : DGs c (is ++ js) (e :: es) (gCons f fs) := by
  obtain ⟨g, pg, vg⟩ := h
  obtain ⟨gs, pgs, vgs⟩ := hs
  refine ⟨L2.gCons g gs, fun X hX => pgs_cons (pg X hX) (pgs X hX) (ht X hX), fun Lf adr S σ H ρ vs ds ρ' Q I r e w => ?_⟩
  cases r with
  | nil => cases e
  | cons r1 r2 =>
    obtain ⟨ρ1, e1, e2⟩ := Option.bind_eq_some_iff.mp (show (f _ ρ).bind (fun ρ1 => fs _ ρ1) = _ from e)
    refine ⟨_, _, rfl, vg Lf adr S σ H ρ _ _ ρ1 _ I r1 e1 fun σ1 I1 c1 => ?_⟩
    exact vgs Lf adr S σ1 H ρ1 _ _ ρ' _ I1 r2 e2 fun σ2 I2 c2 => w σ2 I2 (c1.trans c2)
theorem dg_tup {is : List Nat} {es : List Expr} {fs : Gsv} {k n : Nat} (h : DGs c is es fs) (hn : ∀ X, InC c X → (assignEach es X.env).length = n) (hst : ∀ X, InC c X → (assignEach es X.env).findIdx? (·.1) = none) (hl : ∀ ds ρ ρ', fs ds ρ = some ρ' → ds.length = n) : DG c is (.Tuple es k pos) (gT fs) := by
  obtain ⟨gs, pgs, vgs⟩ := h
  refine ⟨gTup c.K n gs, fun X hX => by have h := pg_tup (pos := pos) (k := k) hX.calm (pgs X hX) (hn X hX) (hst X hX); rw [hX.K] at h; exact h, fun Lf adr S σ H ρ v d ρ' Q I r e w => ?_⟩
  cases d with
  | tuple ds =>
    have e : fs ds ρ = some ρ' := e
    cases r with
    | tup n h1 h2 =>
      exact ⟨_, _, rfl, .of h1, by rw [h2.length]; exact hl _ _ _ e, vgs Lf adr S σ H ρ _ _ ρ' _ I h2 e w⟩
  | _ => cases e
theorem gs_len0 {ds : List PyData} {ρ ρ' : Env'} (h : gNil ds ρ = some ρ') : ds.length = 0 := by
  cases ds with
  | nil => rfl
  | cons _ _ => cases h
theorem gs_lenS {f : Gv} {fs : Gsv} {n : Nat} (ih : ∀ (ds : List PyData) (ρ ρ' : Env'), fs ds ρ = some ρ' → ds.length = n) (ds : List PyData) (ρ ρ' : Env') (h : gCons f fs ds ρ = some ρ') : ds.length = n + 1 := by
  cases ds with
  | nil => cases h
  | cons d ds =>
    obtain ⟨ρ1, e1, e2⟩ := Option.bind_eq_some_iff.mp (show (f _ ρ).bind (fun ρ1 => fs _ ρ1) = _ from h)
    rw [List.length_cons, ih ds ρ1 ρ' e2]

/-! ### what is walked -/
/-- now it gives the items -/
structure ItNow (H : Hp) (L : AdP) (J : It) (ds : List PyData) : Prop where
  go : ∀ (i : Nat) (d : PyData), ds[i]? = some d → J.go i H
  yld : ∀ (i : Nat) (d : PyData) x H', ds[i]? = some d → J.yld i H x H' → (∀ a o, H a = some o → H' a = some o) ∧ ((∀ a, L a → Nt H a) → At H' L x d)
  stop : J.stop ds.length H
/-- .. while data stands (and what was owned at the start, Lf, stands, where b is false) -/
def ItOk (b : Bool) (Lf : AdP) (H : Hp) (L : AdP) (J : It) (ds : List PyData) : Prop := ∀ H' L', Tr H L H' L' → (b = false → ∀ a o, Lf a → H a = some o → H' a = some o) → ItNow H' L' J ds
/-- b: an iterator that stands whatever happens to what is owned -/
def IvOk (c : Cxt) (b : Bool) (wi : TI) (f : Lsv) : Prop := ∀ Lf adr S σ H ρ ds S' (R : It → Hp → Prop), EOk c Lf adr S σ H ρ → f ρ S = some (ds, S') →
  (∀ J adr' H', Ext adr S H adr' S' H' → StOk c Lf adr' S' H' → ItOk b Lf H' (Lvv Lf adr' S') J ds → ds.length ≤ sizeLine → R J H') → wi σ H R
def DI (c : Cxt) (b : Bool) (tg e : Expr) (f : Lsv) : Prop := ∃ wi, (∀ X, InC c X → PI X tg e wi) ∧ IvOk c b wi f
/-- a list, a tuple -/
def iSeq (K : PySem.W.Frag) (tl : TE) : TI := fun σ H R => tl σ H fun x H1 => ∃ a, x = .ref a ∧ (((∃ xs, SqL K H1 a xs) ∧ R (Itl K a) H1) ∨ ((∃ xs, SqT K H1 a xs) ∧ R (Itt K a) H1))
theorem pi_seq {X : Cx} {tg l : Expr} {tl : TE} (hl : PE X l tl) : PI X tg l (iSeq X.K tl) := by
  refine ⟨fun pins s σ H R I h => ?_⟩
  refine thn (hl.run pins s σ H _ I h) fun v s1 ⟨x, H1, I1, r1, q1⟩ => ?_
  obtain ⟨a, e, ⟨⟨xs, hq⟩, q⟩ | ⟨⟨xs, hq⟩, q⟩⟩ := q1
  · subst e
    cases r1
    obtain ⟨its, rv, p, hz⟩ := I1.list hq
    refine wpAny_pyIter_list p.isList ?_
    refine ⟨s1.heap.objs.size, [s1.heap.objs.size], _, _, H1, rfl, I1.kept (t' := s1.toks) fun b o e => Heap.get?_push_of_some _ e, turn_list a _, ⟨_, Heap.get?_push_size _ rfl, rfl, rfl⟩, fun b hb => ?_, q⟩
    have e : b = s1.heap.objs.size := by simpa using hb
    subst e
    exact I1.fpOk (Nat.le_refl _) (I1.hok.fresh (Nat.le_refl _))
  · subst e
    cases r1
    obtain ⟨its, rv, p, hz⟩ := I1.tuple hq
    refine wpAny_pyIter_tuple (show s1.heap.IsTuple a its.toArray from p) ?_
    refine ⟨s1.heap.objs.size, [s1.heap.objs.size], _, _, H1, rfl, I1.kept (t' := s1.toks) fun b o e => Heap.get?_push_of_some _ e, turn_tuple a _, ⟨_, Heap.get?_push_size _ rfl, rfl, rfl⟩, fun b hb => ?_, q⟩
    have e : b = s1.heap.objs.size := by simpa using hb
    subst e
    exact I1.fpOk (Nat.le_refl _) (I1.hok.fresh (Nat.le_refl _))
/-- data to be walked -/
def iP (fa : Ev) : Lsv := fun ρ S => (fa ρ S).bind fun p => match p.1 with
  | .p (.list ds) => if ds.length ≤ sizeLine then some (ds, p.2) else none
  | .p (.tuple ds) => if ds.length ≤ sizeLine then some (ds, p.2) else none
  | _ => none
theorem now_list {K : PySem.W.Frag} {H' : Hp} {L' : AdP} {a : Addr} {xs : List V} {ds : List PyData} (h : H' a = some (.lst xs)) (r : AtL H' L' xs ds) : ItNow H' L' (Itl K a) ds := by
  refine ⟨fun i d e => ?_, fun i d x H2 e y => ?_, ⟨xs, .of h, by rw [r.length]; exact Nat.le_refl _⟩⟩
  · obtain ⟨v, e1, e2⟩ := r.get e
    exact ⟨xs, v, .of h, e1⟩
  · obtain ⟨rfl, y⟩ := y
    obtain ⟨v, e1, e2⟩ := r.get e
    have q := y xs (.of h)
    rw [e1] at q
    cases q
    exact ⟨fun _ _ z => z, fun _ => e2⟩
theorem now_tup {K : PySem.W.Frag} {H' : Hp} {L' : AdP} {a : Addr} {xs : List V} {ds : List PyData} (h : H' a = some (.tup xs)) (r : AtL H' L' xs ds) : ItNow H' L' (Itt K a) ds := by
  refine ⟨fun i d e => ?_, fun i d x H2 e y => ?_, ⟨xs, .of h, by rw [r.length]; exact Nat.le_refl _⟩⟩
  · obtain ⟨v, e1, e2⟩ := r.get e
    exact ⟨xs, v, .of h, e1⟩
  · obtain ⟨rfl, y⟩ := y
    obtain ⟨v, e1, e2⟩ := r.get e
    have q := y xs (.of h)
    rw [e1] at q
    cases q
    exact ⟨fun _ _ z => z, fun _ => e2⟩
theorem di_p {tg a : Expr} {fa : Ev} (ha : DE c a fa) : DI c true tg a (iP fa) := by
  obtain ⟨ta, pa, va⟩ := ha
  refine ⟨_, fun X hX => by have h := pi_seq (tg := tg) (pa X hX); rw [hX.K] at h; exact h, fun Lf adr S σ H ρ ds S' R I e w => ?_⟩
  unfold iP at e
  simp only [Option.bind_eq_some_iff] at e
  obtain ⟨⟨x, S1⟩, e1, e2⟩ := e
  refine va Lf adr S σ H ρ _ _ _ I e1 fun v adr1 H1 x1 s1 r1 => ?_
  cases x with
  | p d =>
    cases d with
    | list ds =>
      simp only at e2
      split at e2
      · rename_i hz
        cases e2
        have r1 : At H1 _ v (.list ds) := r1
        cases r1 with
        | lst n h1 h2 =>
          refine ⟨_, rfl, .inl ⟨⟨_, .of h1⟩, w _ adr1 H1 x1 s1 (fun H' L' t _ => ?_) hz⟩⟩
          have q := t _ (by rw [h1]; exact fun z => nomatch z) n
          exact now_list (q.1.1 _ h1) (h2.tr t)
      · cases e2
    | tuple ds =>
      simp only at e2
      split at e2
      · rename_i hz
        cases e2
        have r1 : At H1 _ v (.tuple ds) := r1
        cases r1 with
        | tup n h1 h2 =>
          refine ⟨_, rfl, .inr ⟨⟨_, .of h1⟩, w _ adr1 H1 x1 s1 (fun H' L' t _ => ?_) hz⟩⟩
          have q := t _ (by rw [h1]; exact fun z => nomatch z) n
          exact now_tup (q.1.2.1 _ h1) (h2.tr t)
      · cases e2
    | _ => cases e2
  | _ => cases e2
/-- .. or an owned list (where nothing owned changes) -/
def iPO (fa : Ev) : Lsv := fun ρ S => (fa ρ S).bind fun p => match p.1 with
  | .p (.list ds) => if ds.length ≤ sizeLine then some (ds, p.2) else none
  | .p (.tuple ds) => if ds.length ≤ sizeLine then some (ds, p.2) else none
  | .o (.list ds) => if ds.length ≤ sizeLine then some (ds, p.2) else none
  | _ => none
theorem di_po {tg a : Expr} {fa : Ev} (ha : DE c a fa) : DI c false tg a (iPO fa) := by
  obtain ⟨ta, pa, va⟩ := ha
  refine ⟨_, fun X hX => by have h := pi_seq (tg := tg) (pa X hX); rw [hX.K] at h; exact h, fun Lf adr S σ H ρ ds S' R I e w => ?_⟩
  unfold iPO at e
  simp only [Option.bind_eq_some_iff] at e
  obtain ⟨⟨x, S1⟩, e1, e2⟩ := e
  refine va Lf adr S σ H ρ _ _ _ I e1 fun v adr1 H1 x1 s1 r1 => ?_
  cases x with
  | p d =>
    cases d with
    | list ds =>
      simp only at e2
      split at e2
      · rename_i hz
        cases e2
        have r1 : At H1 _ v (.list ds) := r1
        cases r1 with
        | lst n h1 h2 =>
          refine ⟨_, rfl, .inl ⟨⟨_, .of h1⟩, w _ adr1 H1 x1 s1 (fun H' L' t _ => ?_) hz⟩⟩
          have q := t _ (by rw [h1]; exact fun z => nomatch z) n
          exact now_list (q.1.1 _ h1) (h2.tr t)
      · cases e2
    | tuple ds =>
      simp only at e2
      split at e2
      · rename_i hz
        cases e2
        have r1 : At H1 _ v (.tuple ds) := r1
        cases r1 with
        | tup n h1 h2 =>
          refine ⟨_, rfl, .inr ⟨⟨_, .of h1⟩, w _ adr1 H1 x1 s1 (fun H' L' t _ => ?_) hz⟩⟩
          have q := t _ (by rw [h1]; exact fun z => nomatch z) n
          exact now_tup (q.1.2.1 _ h1) (h2.tr t)
      · cases e2
    | _ => cases e2
  | o d =>
    cases d with
    | list ds =>
      simp only at e2
      split at e2
      · rename_i hz
        cases e2
        obtain ⟨a, rfl, l, xs, h1, h2⟩ := r1
        refine ⟨_, rfl, .inl ⟨⟨_, .of h1⟩, w _ adr1 H1 x1 s1 (fun H' L' t k => ?_) hz⟩⟩
        exact now_list (k rfl _ _ l h1) (h2.tr t)
      · cases e2
    | _ => cases e2
  | _ => cases e2
theorem DI.any {b : Bool} {tg a : Expr} {f : Lsv} (h : DI c true tg a f) : DI c b tg a f := by
  obtain ⟨wi, p, v⟩ := h
  exact ⟨wi, p, fun Lf adr S σ H ρ ds S' R I e w => v Lf adr S σ H ρ ds S' R I e fun J adr' H' x s i hz => w J adr' H' x s (fun H2 L2 t _ => i H2 L2 t fun z => nomatch z) hz⟩
/-! range -/
def rngD (lo : Int) (n : Nat) : List PyData := (List.range n).map fun i => .int (lo + (i : Nat))
def iR (fs : Av) : Lsv := fun ρ S => (fs ρ S).bind fun p => match p.1 with
  | [.p (.int j)] => if j ≤ 16777216 ∧ -4611686018427387904 ≤ j then some (rngD 0 j.toNat, p.2) else none
  | [.p (.int i), .p (.int j)] => if -4611686018427387904 ≤ i ∧ i < 4611686018427387904 ∧ -4611686018427387904 ≤ j ∧ j < 4611686018427387904 ∧ (j - i).toNat ≤ 16777216 then some (rngD i (j - i).toNat, p.2) else none
  | _ => none
theorem now_rng {H' : Hp} {L' : AdP} {lo : Int} {n : Nat} : ItNow H' L' (Itr lo n) (rngD lo n) := by
  have hl : (rngD lo n).length = n := by unfold rngD; simp
  refine ⟨fun i d e => ?_, fun i d x H2 e y => ?_, by rw [hl]; exact Nat.le_refl n⟩
  · have := (List.getElem?_eq_some_iff.mp e).1
    rw [hl] at this
    exact this
  · obtain ⟨rfl, rfl⟩ := y
    have hi := (List.getElem?_eq_some_iff.mp e).1
    rw [hl] at hi
    unfold rngD at e
    rw [List.getElem?_map, List.getElem?_range hi] at e
    cases e
    exact ⟨fun _ _ z => z, fun _ => .int _⟩
theorem di_r1 {tg a : Expr} {fa : Ev} {p : Pos} (hg : c.sc.names.lookup ("range" : Str) = some .globalImplicit) (hm : c.mg ("range" : Str) = none) (ha : DA c [a] (aCons fa aNil)) (hst : noStar [a] = true) : DI c true tg (.Call (.Name "range" p) [a] [] pos) (iR (aCons fa aNil)) := by
  obtain ⟨ta, pa, va⟩ := ha
  refine ⟨_, fun X hX => pi_range1 (by show X.env.scope.names.lookup _ = _; rw [hX.sc]; exact hg) (by rw [hX.mg]; exact hm) (pa X hX) (star_cons hst), fun Lf adr S σ H ρ ds S' R I e w => ?_⟩
  unfold iR at e
  simp only [Option.bind_eq_some_iff] at e
  obtain ⟨⟨x, S1⟩, e1, e2⟩ := e
  have hx : ∃ d, x = [d] := by
    unfold aCons aNil at e1
    simp only [Option.bind_eq_some_iff] at e1
    obtain ⟨q, _, q2, h, e⟩ := e1
    cases h
    cases e
    exact ⟨_, rfl⟩
  refine va Lf adr S σ H ρ _ _ _ I e1 fun vs adr1 H1 x1 s1 r1 => ?_
  obtain ⟨d, rfl⟩ := hx
  cases r1 with
  | cons r rr =>
    cases rr
    cases d with
    | p d =>
      cases d with
      | int j =>
        simp only at e2
        split at e2
        · rename_i hz
          cases e2
          have r : At H1 _ _ (.int j) := r
          cases r
          exact ⟨j, rfl, by omega, by omega, w _ adr1 H1 x1 s1 (fun H' L' t _ => now_rng) (by rw [sizeLine_eq]; unfold rngD; simp; omega)⟩
        · cases e2
      | _ => cases e2
    | _ => cases e2
theorem di_r2 {tg a b : Expr} {fa fb : Ev} {p : Pos} (hg : c.sc.names.lookup ("range" : Str) = some .globalImplicit) (hm : c.mg ("range" : Str) = none) (ha : DA c [a, b] (aCons fa (aCons fb aNil))) (hst : noStar [a, b] = true) : DI c true tg (.Call (.Name "range" p) [a, b] [] pos) (iR (aCons fa (aCons fb aNil))) := by
  obtain ⟨ta, pa, va⟩ := ha
  refine ⟨_, fun X hX => pi_range2 (by show X.env.scope.names.lookup _ = _; rw [hX.sc]; exact hg) (by rw [hX.mg]; exact hm) (pa X hX) (by rw [star_cons hst, star_cons (star_tl hst)]; rfl) (by rw [star_cons (star_tl hst)]; rfl), fun Lf adr S σ H ρ ds S' R I e w => ?_⟩
  unfold iR at e
  simp only [Option.bind_eq_some_iff] at e
  obtain ⟨⟨x, S1⟩, e1, e2⟩ := e
  have hx : ∃ d d', x = [d, d'] := by
    unfold aCons aNil at e1
    simp only [Option.bind_eq_some_iff] at e1
    obtain ⟨q, _, q2, ⟨q3, _, q4, h, e⟩, e'⟩ := e1
    cases h
    cases e
    cases e'
    exact ⟨_, _, rfl⟩
  refine va Lf adr S σ H ρ _ _ _ I e1 fun vs adr1 H1 x1 s1 r1 => ?_
  obtain ⟨d, d', rfl⟩ := hx
  cases r1 with
  | cons r rr =>
    cases rr with
    | cons r' rr =>
      cases rr
      cases d with
      | p d =>
        cases d with
        | int i =>
          cases d' with
          | p d' =>
            cases d' with
            | int j =>
              simp only at e2
              split at e2
              · rename_i hz
                cases e2
                have r : At H1 _ _ (.int i) := r
                have r' : At H1 _ _ (.int j) := r'
                cases r
                cases r'
                exact ⟨i, j, rfl, by omega, w _ adr1 H1 x1 s1 (fun H' L' t _ => now_rng) (by rw [sizeLine_eq]; unfold rngD; simp; omega)⟩
              · cases e2
            | _ => cases e2
          | _ => cases e2
        | _ => cases e2
      | _ => cases e2
end
end DL
namespace DL
open PySem PySem.Spec L2
open PyProof.Rows hiding St
/-! ### comprehensions -/
/-- the block's context -/
def Cxt.blk (c : Cxt) (scope : Scope) : Cxt := { c with sc := relS scope c.sc, fn := fun x => scope.names.lookup x == some .cell }
theorem InC.blk {c : Cxt} {X : Cx} (h : InC c X) (s : Shared) (H : Hp) (scope : Scope) (C : Addr) (cl : List (Str × Addr)) (fp : List Addr) : InC (c.blk scope) (X.blk s H scope (compEnvC scope cl C X.env) fp) where
  prog := h.prog
  w := h.w
  K := h.K
  mg := h.mg
  base := h.base
  N := h.N
  sc := by
    show relabel scope X.env = relS scope c.sc
    rw [← h.sc]
    rfl
  fn := rfl
  calm := h.calm
  room := h.room
  xe := rfl
def DTs (c : Cxt) (es : List Expr) (f : Tv) : Prop := ∃ t, (∀ X, InC c X → PTs X es t) ∧ TvOk c t f
def tYes : Tv := fun _ S => some (true, S)
section
variable {c : Cxt} {Lf : AdP} {adr : Nat → Addr} {S : Sto} {H : Hp} {σ : L2.St} {ρ : Env'} {pos : Pos}
theorem dts_nil : DTs c [] tYes := ⟨_, fun X _ => pts_nil, fun Lf adr S σ H ρ b S' Q I e w => by cases e; exact w adr H .refl I.sto⟩
theorem dts_one {e : Expr} {f : Tv} (h : DT c e f) : DTs c [e] f := let ⟨t, p, v⟩ := h; ⟨t, fun X hX => pts_one (p X hX), v⟩
/-- the slots is forgotten -/
def wipeE (ρ : Env') : List Nat → Env'
  | [] => ρ
  | i :: is => (wipeE ρ is).set i none
theorem wipeE_len (ρ : Env') : ∀ is, (wipeE ρ is).length = ρ.length
  | [] => rfl
  | i :: is => by rw [wipeE, List.length_set, wipeE_len ρ is]
theorem wipeE_get {ρ : Env'} {i : Nat} {d : D} : ∀ {is : List Nat}, (wipeE ρ is)[i]? = some (some d) → ρ[i]? = some (some d) ∧ i ∉ is
  | [], h => ⟨h, by simp⟩
  | j :: is, h => by
    rw [wipeE] at h
    by_cases hj : j = i
    · subst hj
      by_cases hl : j < (wipeE ρ is).length
      · rw [List.getElem?_set_self hl] at h; cases h
      · rw [List.getElem?_eq_none (by simpa using hl)] at h; cases h
    · rw [List.getElem?_set_ne hj] at h
      obtain ⟨h1, h2⟩ := wipeE_get h
      exact ⟨h1, by simp only [List.mem_cons, not_or]; exact ⟨fun e => hj e.symm, h2⟩⟩
theorem wipe_get {σ : L2.St} {i : Nat} : ∀ {is : List Nat}, i ∉ is → (wipe σ is)[i]? = σ[i]?
  | [], _ => rfl
  | j :: is, h => by
    simp only [List.mem_cons, not_or] at h
    unfold wipe
    rw [List.getElem?_set_ne (Ne.symm h.1), wipe_get h.2]
theorem EOk.wipe (I : EOk c Lf adr S σ H ρ) (is : List Nat) : EOk c Lf adr S (wipe σ is) H (wipeE ρ is) := by
  refine ⟨fun i d e => ?_, I.sto, by rw [wipe_length, wipeE_len, I.len]⟩
  obtain ⟨h1, h2⟩ := wipeE_get e
  rw [wipe_get h2]
  exact I.slot i d h1
/-- states that agree off is are wiped to one -/
theorem wipe_eq {σ σ' : L2.St} {is : List Nat} (hl : σ'.length = σ.length) (h : ∀ (i : Nat), i ∉ is → σ'[i]? = σ[i]?) : wipe σ' is = wipe σ is := by
  have at_ : ∀ (σ : L2.St) (k : Nat), (wipe σ is)[k]? = if k ∈ is then (if k < σ.length then some none else none) else σ[k]? := by
    intro σ k
    clear h hl
    induction is with
    | nil => rfl
    | cons j is ih =>
      unfold L2.wipe
      by_cases hj : j = k
      · subst hj
        rw [List.getElem?_set, if_pos rfl, if_pos (List.mem_cons_self)]
        rw [wipe_length]
      · rw [List.getElem?_set_ne hj, ih]
        have : (k ∈ j :: is) = (k ∈ is) := by
          rw [List.mem_cons]
          exact propext ⟨fun z => z.elim (fun e => absurd e.symm hj) id, .inr⟩
        simp only [this]
  apply List.ext_getElem?
  intro k
  rw [at_, at_]
  split
  · rw [hl]
  · rename_i hk
    exact h k hk
/-- item by item -/
def compL (g : Gv) (t : Tv) (f : Ev) (ρ : Env') : List PyData → Sto → Option (List PyData × Sto)
  | [], S => some ([], S)
  | d :: ds, S => (g d ρ).bind fun ρ1 => (t ρ1 S).bind fun b =>
    if b.1 = true then (f ρ1 b.2).bind fun r => match r.1 with
      | .p x => (compL g t f ρ ds r.2).bind fun q => some (x :: q.1, q.2)
      | _ => none
    else compL g t f ρ ds b.2
def lComp (is : List Nat) (it : Lsv) (g : Gv) (t : Tv) (f : Ev) : Lsv := fun ρ S => (it ρ S).bind fun p => compL g t f (wipeE ρ is) p.1 p.2

theorem StOk.cx {c' : Cxt} (hK : c'.K = c.K) (hm : c'.mg = c.mg) (s : StOk c Lf adr S H) : StOk c' Lf adr S H := by
  refine ⟨s.inj, fun k mo e => ?_, s.disj, s.lfo⟩
  have h := s.ob k mo e
  cases mo with
  | d m => exact h
  | ls ds => exact h
  | dc kvs => exact h
  | ins x fs =>
    obtain ⟨C', dx, gs, h1, r⟩ := h
    exact ⟨C', dx, gs, by rw [hm]; exact h1, r⟩
theorem EOk.cx {c' : Cxt} (hK : c'.K = c.K) (hm : c'.mg = c.mg) (I : EOk c Lf adr S σ H ρ) : EOk c' Lf adr S σ H ρ := ⟨fun i d e => by rw [hK]; exact I.slot i d e, I.sto.cx hK hm, I.len⟩
variable {g : Gv} {t : Tv} {f : Ev} {it : Lsv}
theorem lv_comp_at {is vs : List Nat} {wi : TI} {gg : TG} {tt : TT} {te : TE} {scope : Scope} {items ds : List PyData} {S1 S' : Sto} {Q : VK} (I : EOk c Lf adr S σ H ρ)
    (hv : ∀ R : It → Hp → Prop, (∀ J adr' H', Ext adr S H adr' S1 H' → StOk c Lf adr' S1 H' → ItOk false Lf H' (Lvv Lf adr' S1) J items → items.length ≤ sizeLine → R J H') → wi σ H R)
    (vg : GvOk (c.blk scope) is gg g) (vt : TvOk (c.blk scope) tt t) (ve : EvOk (c.blk scope) te f) (his : ∀ i ∈ is, i ∈ vs) (e2 : compL g t f (wipeE ρ vs) items S1 = some (ds, S')) (w : WiL c Lf adr S H Q ds S') : tLc wi gg tt te vs σ H Q := by
  refine hv _ fun J adr1 H1 x1 s1 J1 hz D hD => ?_
  have hHD : H D = none := by
    cases q : H D with
    | none => rfl
    | some o => exact absurd hD (x1.trk D (by rw [q]; exact fun z => nomatch z))
  -- the owned, and the new list
  have hl1 : ∀ a, (Lf a ∨ a = D) → Lf a ∨ H1 a = none := fun a z => z.imp id fun q => by rw [q]; exact hD
  have hl0 : ∀ a, (Lf a ∨ a = D) → Lf a ∨ H a = none := fun a z => z.imp id fun q => by rw [q]; exact hHD
  have nLD : ¬ Lf D := fun z => I.sto.lf D z hHD
  refine ⟨fun i m Hc => m = items.length - i ∧ i ≤ items.length ∧ ∃ adrc Sc accV accD rest, Ext adr1 S1 H1 adrc Sc Hc ∧ StOk c (fun a => Lf a ∨ a = D) adrc Sc Hc ∧ Hc D = some (.lst accV) ∧
    AtL Hc (Lvv (fun a => Lf a ∨ a = D) adrc Sc) accV accD ∧ compL g t f (wipeE ρ vs) (items.drop i) Sc = some (rest, S') ∧ accD ++ rest = ds ∧ accD.length ≤ i, ⟨items.length, by simp, Nat.zero_le _, adr1, S1, [], [], ds, ?_⟩, fun i m Hc hW => ?_⟩
  · refine ⟨.grow (upd_grow hD), s1.grow (upd_grow hD) fun z hz => ?_, upd_same, .nil, e2, rfl, Nat.le_refl _⟩
    refine ⟨hl1 z hz, ?_⟩
    rcases hz with hz | rfl
    · exact (s1.lfo z hz).keep (upd_grow hD z)
    · exact ⟨_, upd_same, fun _ z => nomatch z⟩
  · obtain ⟨rfl, hi, adrc, Sc, accV, accD, rest, xc, sc, hDc, rc, ec, ed, hlen⟩ := hW
    have now := J1 Hc (Lvv (fun a => Lf a ∨ a = D) adrc Sc) (xc.tr hl1) fun _ a o l q => xc.keep a o q fun z => s1.disj a z l
    by_cases hlt : i < items.length
    · have hdr : items.drop i = items[i] :: items.drop (i + 1) := List.drop_eq_getElem_cons hlt
      have hget : items[i]? = some items[i] := List.getElem?_eq_getElem hlt
      rw [hdr] at ec
      simp only [compL, Option.bind_eq_some_iff] at ec
      obtain ⟨ρ1, eg, ⟨b, S5⟩, et, er⟩ := ec
      refine .inr ⟨now.go i _ hget, fun Hn => ∃ adrc Sc accV accD rest, Ext adr1 S1 H1 adrc Sc Hn ∧ StOk c (fun a => Lf a ∨ a = D) adrc Sc Hn ∧ Hn D = some (.lst accV) ∧
        AtL Hn (Lvv (fun a => Lf a ∨ a = D) adrc Sc) accV accD ∧ compL g t f (wipeE ρ vs) (items.drop (i + 1)) Sc = some (rest, S') ∧ accD ++ rest = ds ∧ accD.length ≤ i + 1, fun Hn hn => ⟨items.length - (i + 1), by omega, rfl, hlt, hn⟩, fun x H' hy => ?_⟩
      obtain ⟨kH', aH'⟩ := now.yld i _ x H' hget hy
      have a3 := aH' fun a z => sc.lvo z
      have s3 := grow_ok sc kH'
      have x3 : Ext adr1 S1 H1 adrc Sc H' := xc.trans (.grow kH')
      have I3 : EOk (c.blk scope) (fun a => Lf a ∨ a = D) adrc Sc (wipe σ vs) H' (wipeE ρ vs) := EOk.cx (c := c) rfl rfl ((I.ext' (x1.trans x3) s3 hl0 fun a z => .inl z).wipe vs)
      refine vg _ adrc Sc (wipe σ vs) H' (wipeE ρ vs) x items[i] ρ1 _ I3 a3 eg fun σ2 I4 ch => ⟨?_, ?_⟩
      · have : wipe σ2 vs = wipe (wipe σ vs) vs := wipe_eq ch.lenσ fun j hj => ch.eσ j fun z => hj (his j z)
        rw [this]
        exact wipe_eq (wipe_length _ _) fun j hj => wipe_get hj
      refine vt _ adrc Sc σ2 H' ρ1 b S5 _ I4 et fun adr5 H5 x5 s5 => ?_
      have keepD : ∀ {o : HO}, H' D = some o → H5 D = some o := fun {o} q => x5.keep D o q fun z => s3.disj D z (.inr rfl)
      have hD' : H' D = some (.lst accV) := kH' D _ hDc
      cases b with
      | false =>
        refine iteF ⟨adr5, S5, accV, accD, rest, x3.trans x5, StOk.cx (c := c.blk scope) rfl rfl s5, keepD hD', (rc.grow kH').tr (x5.tr fun a z => .inl z), er, ed, Nat.le_succ_of_le hlen⟩
      | true =>
        simp only [if_pos, Option.bind_eq_some_iff] at er
        obtain ⟨⟨r, S6⟩, er1, er2⟩ := er
        refine iteT (ve _ adr5 S5 σ2 H5 ρ1 r S6 _ (I4.ext x5 s5) er1 fun y adr6 H6 x6 s6 r6 => ?_)
        cases r with
        | p xd =>
          simp only [Option.bind_eq_some_iff] at er2
          obtain ⟨⟨q, S7⟩, eq1, eq2⟩ := er2
          cases eq2
          have hD6 : H6 D = some (.lst accV) := x6.keep D _ (keepD hD') fun z => s5.disj D z (.inr rfl)
          have r6 : At H6 (Lvv (fun a => Lf a ∨ a = D) adr6 S6) y xd := r6
          have rc6 : AtL H6 (Lvv (fun a => Lf a ∨ a = D) adr6 S6) accV accD := (rc.grow kH').tr ((x5.trans x6).tr fun a z => .inl z)
          have tr7 : Tr H6 (Lvv (fun a => Lf a ∨ a = D) adr6 S6) (upd H6 D (.lst (accV ++ [y]))) (Lvv (fun a => Lf a ∨ a = D) adr6 S6) := fun a h n => ⟨.of fun u q => by rw [upd_ne (fun z => n (.inl (.inr z)))]; exact q, n⟩
          have x7 : Ext adr1 S1 H1 adr6 S6 H6 := x3.trans (x5.trans x6)
          refine ⟨accV, hD6, by rw [rc.length]; omega, adr6, S6, accV ++ [y], accD ++ [xd], q, ⟨x7.len, x7.ad, fun a o q n => ?_, fun a h => ?_, x7.live⟩, StOk.cx (c := c.blk scope) rfl rfl (s6.updO (.inr rfl)), upd_same, (rc6.append (.cons r6 .nil)).tr tr7, eq1, by simpa using ed, by simp; omega⟩
          · rw [upd_ne (ne_of_none q hD)]
            exact x7.keep a o q n
          · by_cases hh : a = D
            · rw [hh, upd_same]; exact fun z => nomatch z
            · rw [upd_ne hh]; exact x7.trk a h
        | _ => cases er2
    · have hi' : i = items.length := by omega
      subst hi'
      rw [List.drop_length] at ec
      simp only [compL, Option.some.injEq, Prod.mk.injEq] at ec
      obtain ⟨rfl, rfl⟩ := ec
      rw [List.append_nil] at ed
      subst ed
      exact .inl ⟨now.stop, w D accV adrc Hc (x1.trans xc) sc hHD hDc rc⟩
theorem lv_comp {is vs : List Nat} {wi : TI} {gg : TG} {tt : TT} {te : TE} {scope : Scope} (vi : IvOk c false wi it) (vg : GvOk (c.blk scope) is gg g) (vt : TvOk (c.blk scope) tt t) (ve : EvOk (c.blk scope) te f) (his : ∀ i ∈ is, i ∈ vs) : LvOk c (tLc wi gg tt te vs) (lComp vs it g t f) := fun Lf adr S σ H ρ ds S' Q I e w => by
  unfold lComp at e
  simp only [Option.bind_eq_some_iff] at e
  obtain ⟨⟨items, S1⟩, e1, e2⟩ := e
  exact lv_comp_at I (fun R hR => vi Lf adr S σ H ρ items S1 R I e1 hR) vg vt ve his e2 w
theorem dl_comp {is : List Nat} {tg iter elt : Expr} {ifs : List Expr} {scope : Scope} {own : List (Str × Nat)} (hN : c.N.Nodup) (hi : DI c false tg iter it) (ok : BlkOk c.N c.sc scope own) (hg : DG (c.blk scope) is tg g) (ht : DTs (c.blk scope) ifs t) (he : DE (c.blk scope) elt f)
    (his : ∀ i ∈ is, i ∈ own.map (·.2)) (hs : ∀ X, InC c X → ∀ x, foldedSetIterable iter X.env x = pure x) : DLs c (.ListComp elt [⟨tg, iter, ifs, 0⟩] scope pos) (lComp (own.map (·.2)) it g t f) := by
  obtain ⟨wi, pi, vi⟩ := hi
  obtain ⟨gg, pg, vg⟩ := hg
  obtain ⟨tt, pt, vt⟩ := ht
  obtain ⟨te, pe, ve⟩ := he
  exact ⟨_, fun X hX => pe_lc hX.calm (by rw [hX.N]; exact hN) (pi X hX) (by rw [hX.N, hX.sc]; exact ok) (fun s H C cl fp => pg _ (hX.blk s H scope C cl fp)) (fun s H C cl fp => pt _ (hX.blk s H scope C cl fp)) (fun s H C cl fp => pe _ (hX.blk s H scope C cl fp)) (hs X hX), lv_comp vi vg vt ve his⟩
end
end DL
namespace DL
open PySem PySem.Spec L2
open PyProof.Rows hiding St
/-! ### statements -/
/-- the entry of a def -/
structure En where
  Lf : AdP
  adr : Nat → Addr
  S : Sto
  H : Hp
  bH : Hp
  bL : AdP
def ownA (σ : L2.St) (ρ : Env') : AdP := fun a => ∃ (i : Nat) (m : PyData), ρ[i]? = some (some (D.o m)) ∧ σ[i]? = some (some (V.ref a))
abbrev LfN (e : En) (σ : L2.St) (ρ : Env') : AdP := fun a => e.Lf a ∨ ownA σ ρ a
/-- read only, an object of the module -/
def FrW (c : Cxt) (e : En) (a : Addr) : PyData → Prop
  | .list ds => ∃ xs, WrL c.K a xs ∧ AtL e.H (Lvv e.Lf e.adr e.S) xs ds
  | _ => False
structure Ok (c : Cxt) (e : En) (adr : Nat → Addr) (S : Sto) (σ : L2.St) (H : Hp) (ρ : Env') : Prop where
  eok : EOk c (LfN e σ ρ) adr S σ H ρ
  ext : Ext e.adr e.S e.H adr S H
  fresh : ∀ a, ownA σ ρ a → e.H a = none
  inj : ∀ (i j : Nat) (m m' : PyData) (a : Addr), ρ[i]? = some (some (D.o m)) → ρ[j]? = some (some (D.o m')) → σ[i]? = some (some (V.ref a)) → σ[j]? = some (some (V.ref a)) → i = j
  frz : ∀ (i : Nat) (m : PyData) (a : Addr), ρ[i]? = some (some (D.f m)) → σ[i]? = some (some (V.ref a)) → e.H a ≠ none ∨ FrW c e a m
  lf0 : ∀ a, e.Lf a → e.H a ≠ none
  base : Tr e.bH e.bL H (Lvv (LfN e σ ρ) adr S)
inductive Out where
  | nx (ρ : Env') (S : Sto) | rt (d : D) (S : Sto) | bk (ρ : Env') (S : Sto) | ct (ρ : Env') (S : Sto)
abbrev Sv := Env' → Sto → Option Out
def OutOk (c : Cxt) (e : En) (D : Ends) : Out → Prop
  | .nx ρ S => ∀ adr σ H, Ok c e adr S σ H ρ → D.nx σ H
  | .bk ρ S => ∀ adr σ H, Ok c e adr S σ H ρ → D.bk σ H
  | .ct ρ S => ∀ adr σ H, Ok c e adr S σ H ρ → D.ct σ H
  | .rt d S => ∀ v adr H, Ext e.adr e.S e.H adr S H → StOk c e.Lf adr S H → Tr e.bH e.bL H (Lvv e.Lf adr S) → DR c.K H (Lvv e.Lf adr S) e.Lf (LvC adr S) adr S.length v d → D.rt v H
def SvOk (c : Cxt) (t : TS) (f : Sv) : Prop := ∀ e adr S σ H ρ o (D : Ends), Ok c e adr S σ H ρ → f ρ S = some o → OutOk c e D o → t D σ H
def DS (c : Cxt) (st : Stmt) (f : Sv) : Prop := ∃ t, (∀ X, InC c X → PS X st t) ∧ SvOk c t f
def DSs (c : Cxt) (st : List Stmt) (f : Sv) : Prop := ∃ t, (∀ X, InC c X → PSs X st t) ∧ SvOk c t f
section
variable {c : Cxt} {e : En} {Lf : AdP} {adr : Nat → Addr} {S : Sto} {H : Hp} {σ : L2.St} {ρ : Env'} {pos : Pos}
theorem Ok.extE {adr' : Nat → Addr} {S' : Sto} {H' : Hp} (I : Ok c e adr S σ H ρ) (x : Ext adr S H adr' S' H') (s : StOk c (LfN e σ ρ) adr' S' H') : Ok c e adr' S' σ H' ρ :=
  ⟨I.eok.ext x s, I.ext.trans x, I.fresh, I.inj, I.frz, I.lf0, I.base.trans (x.tr fun _ z => .inl z)⟩
theorem EOk.reown {Lf' : AdP} (I : EOk c Lf adr S σ H ρ) (h : ∀ a, Lf' a → Lf a) (ho : ∀ (i : Nat) (m : PyData) (a : Addr), ρ[i]? = some (some (D.o m)) → σ[i]? = some (some (V.ref a)) → Lf' a) : EOk c Lf' adr S σ H ρ := by
  have t : Tr H (Lvv Lf adr S) H (Lvv Lf' adr S) := fun a _ n => ⟨.of fun _ q => q, fun z => n (z.imp (h a) id)⟩
  refine ⟨fun i d q => ?_, I.sto.weak h, I.len⟩
  obtain ⟨v, h1, h2⟩ := I.slot i d q
  refine ⟨v, h1, ?_⟩
  cases d with
  | p d => exact At.tr t d h2
  | c k => exact h2
  | o m =>
    obtain ⟨a, rfl, _, hb⟩ := h2
    exact ⟨a, rfl, ho i m a q h1, hb.tr t fun _ q => q⟩
  | f m =>
    obtain ⟨a, e, hb⟩ := h2
    exact ⟨a, e, hb.ext (adr := adr) (adr' := adr) (S := S) (S' := S) .refl fun a z => .inl (h a z)⟩
theorem tr_less {L L' : AdP} (h : ∀ a, L' a → L a) : Tr H L H L' := fun a _ n => ⟨.of fun _ q => q, fun z => n (h a z)⟩
/-- the slots change, nothing new is owned -/
theorem Ok.chg {is : List Nat} {σ' : L2.St} {ρ' : Env'} (I : Ok c e adr S σ H ρ) (I' : EOk c (LfN e σ ρ) adr S σ' H ρ') (ch : Chg is σ σ' ρ ρ') (nf : ∀ (i : Nat) (m : PyData), ρ'[i]? = some (some (D.f m)) → ρ[i]? = some (some (D.f m)) ∧ σ'[i]? = σ[i]?) : Ok c e adr S σ' H ρ' := by
  have own : ∀ a, ownA σ' ρ' a → ownA σ ρ a := fun a ⟨i, m, h1, h2⟩ => by
    obtain ⟨q1, q2⟩ := ch.no i m h1
    exact ⟨i, m, q1, by rw [← q2]; exact h2⟩
  refine ⟨I'.reown (fun a z => z.imp id (own a)) fun i m a h1 h2 => .inr ⟨i, m, h1, h2⟩, I.ext, fun a z => I.fresh a (own a z), fun i j m m' a h1 h2 h3 h4 => ?_, fun i m a h1 h2 => ?_, I.lf0, I.base.trans (tr_less fun a z => z.imp (fun z => z.imp id (own a)) id)⟩
  · obtain ⟨q1, q2⟩ := ch.no i m h1
    obtain ⟨q3, q4⟩ := ch.no j m' h2
    exact I.inj i j m m' a q1 q3 (by rw [← q2]; exact h3) (by rw [← q4]; exact h4)
  · obtain ⟨q1, q2⟩ := nf i m h1
    exact I.frz i m a q1 (by rw [← q2]; exact h2)
theorem chg_nf {i : Nat} {v : V} {d : D} (hd : ∀ m, d ≠ .f m) (hl : i < ρ.length) (j : Nat) (m : PyData) (e : (ρ.set i (some d))[j]? = some (some (D.f m))) : ρ[j]? = some (some (D.f m)) ∧ (σ.set i (some v))[j]? = σ[j]? := by
  by_cases hj : j = i
  · subst hj
    rw [List.getElem?_set_self hl] at e
    cases e
    exact absurd rfl (hd m)
  · rw [List.getElem?_set_ne (Ne.symm hj)] at e
    exact ⟨e, List.getElem?_set_ne (Ne.symm hj)⟩
theorem Ok.set {v : V} {d : D} (I : Ok c e adr S σ H ρ) (i : Nat) (hl : i < ρ.length) (h : DR c.K H (Lvv (LfN e σ ρ) adr S) (LfN e σ ρ) (LvC adr S) adr S.length v d) (h1 : ∀ m, d ≠ .o m) (h2 : ∀ m, d ≠ .f m) : Ok c e adr S (σ.set i (some v)) H (ρ.set i (some d)) :=
  I.chg (I.eok.set i h) (chg_set h1 hl) (chg_nf h2 hl)

/-! ### blocks -/
variable {st : Stmt} {rest : List Stmt} {f g : Sv}
/-- the state as a base -/
def En.at (e : En) (H : Hp) (L : AdP) : En := { e with bH := H, bL := L }
theorem Ok.into (I : Ok c e adr S σ H ρ) : Ok c (e.at H (Lvv (LfN e σ ρ) adr S)) adr S σ H ρ := ⟨I.eok, I.ext, I.fresh, I.inj, I.frz, I.lf0, .refl⟩
theorem Ok.back {H1 : Hp} {L1 : AdP} (I : Ok c (e.at H1 L1) adr S σ H ρ) (t : Tr e.bH e.bL H1 L1) : Ok c e adr S σ H ρ := ⟨I.eok, I.ext, I.fresh, I.inj, I.frz, I.lf0, t.trans I.base⟩
theorem OutOk.back {D : Ends} {H1 : Hp} {L1 : AdP} (t : Tr e.bH e.bL H1 L1) {o : Out} (w : OutOk c e D o) : OutOk c (e.at H1 L1) D o := by
  cases o with
  | nx ρ S => exact fun adr σ H I => w adr σ H (I.back t)
  | bk ρ S => exact fun adr σ H I => w adr σ H (I.back t)
  | ct ρ S => exact fun adr σ H I => w adr σ H (I.back t)
  | rt d S => exact fun v adr H x s b r => w v adr H x s (t.trans b) r
def sNx : Sv := fun ρ S => some (.nx ρ S)
def sSeq (f g : Sv) : Sv := fun ρ S => (f ρ S).bind fun o => match o with | .nx ρ' S' => g ρ' S' | o => some o
theorem dss_nil : DSs c [] sNx := ⟨_, fun X _ => pss_nil, fun e adr S σ H ρ o D I h w => by cases h; exact w adr σ H I⟩
theorem dss_cons (h1 : DS c st f) (h2 : DSs c rest g) : DSs c (st :: rest) (sSeq f g) := by
  obtain ⟨t, p, v⟩ := h1
  obtain ⟨u, q, w⟩ := h2
  refine ⟨_, fun X hX => pss_cons (p X hX) (q X hX), fun e adr S σ H ρ o D I h z => ?_⟩
  unfold sSeq at h
  obtain ⟨o1, e1, e2⟩ := Option.bind_eq_some_iff.mp h
  refine v e adr S σ H ρ o1 _ I e1 ?_
  cases o1 with
  | nx ρ' S' => exact fun adr' σ' H' I' => w e adr' S' σ' H' ρ' o D I' e2 z
  | rt d S' => cases e2; exact z
  | bk ρ' S' => cases e2; exact z
  | ct ρ' S' => cases e2; exact z
theorem dss_one (h1 : DS c st f) : DSs c [st] f := let ⟨t, p, v⟩ := h1; ⟨t, fun X hX => pss_one (p X hX), v⟩
theorem ds_pass : DS c (.Pass pos) sNx := ⟨_, fun X _ => ps_pass, fun e adr S σ H ρ o D I h w => by cases h; exact w adr σ H I⟩
def sBk : Sv := fun ρ S => some (.bk ρ S)
def sCt : Sv := fun ρ S => some (.ct ρ S)
theorem ds_break : DS c (.Break pos) sBk := ⟨_, fun X _ => ps_break, fun e adr S σ H ρ o D I h w => by cases h; exact w adr σ H I⟩
theorem ds_continue : DS c (.Continue pos) sCt := ⟨_, fun X _ => ps_continue, fun e adr S σ H ρ o D I h w => by cases h; exact w adr σ H I⟩
/-- return e -/
def sRet (fa : Ev) : Sv := fun ρ S => (fa ρ S).bind fun p => match p.1 with
  | .o _ => none
  | .f _ => none
  | d => some (.rt d p.2)
theorem StOk.ret (s : StOk c (LfN e σ ρ) adr S H) : StOk c e.Lf adr S H := s.weak fun a z => .inl z
theorem lvv_ret : ∀ a, Lvv e.Lf adr S a → Lvv (LfN e σ ρ) adr S a := fun a z => z.imp .inl id
theorem tr_ret : Tr H (Lvv (LfN e σ ρ) adr S) H (Lvv e.Lf adr S) := fun a _ n => ⟨.of fun _ q => q, fun z => n (lvv_ret a z)⟩
theorem ds_ret {a : Expr} {fa : Ev} (ha : DE c a fa) : DS c (.Return (some a) pos) (sRet fa) := by
  obtain ⟨ta, pa, va⟩ := ha
  refine ⟨_, fun X hX => ps_ret (pa X hX), fun e adr S σ H ρ o D I h w => ?_⟩
  unfold sRet at h
  obtain ⟨⟨x, S1⟩, e1, e2⟩ := Option.bind_eq_some_iff.mp h
  refine va _ adr S σ H ρ x S1 _ I.eok e1 fun v adr1 H1 x1 s1 r1 => ?_
  have I1 := I.extE x1 s1
  cases x with
  | p d =>
    cases e2
    exact w v adr1 H1 I1.ext s1.ret (I1.base.trans tr_ret) (At.tr tr_ret d r1)
  | c k =>
    cases e2
    exact w v adr1 H1 I1.ext s1.ret (I1.base.trans tr_ret) r1
  | o m => cases e2
  | f m => cases e2
/-- what is owned is data from now on -/
theorem Ok.own_at (I : Ok c e adr S σ H ρ) {i : Nat} {m : PyData} {a : Addr} (h1 : ρ[i]? = some (some (D.o m))) (h2 : σ[i]? = some (some (V.ref a))) : Ob H (Lvv (LfN e σ ρ) adr S) a m := by
  obtain ⟨v, e1, b, e2, _, ob⟩ := I.eok.slot i _ h1
  rw [h2] at e1
  cases e1
  cases e2
  exact ob
theorem Ok.own_not (I : Ok c e adr S σ H ρ) {a : Addr} (h : ownA σ ρ a) : ¬ Lvv e.Lf adr S a := fun z => by
  rcases z with z | z
  · exact I.lf0 a z (I.fresh a h)
  · exact I.eok.sto.disj a z (.inr h)
theorem ob_at {L : AdP} {a : Addr} {m : PyData} (n : ¬ L a) (h : Ob H L a m) : At H L (.ref a) m := by
  cases m with
  | list ds => obtain ⟨xs, h, r⟩ := h; exact .lst n h r
  | dict dd =>
    rcases h with ⟨kvs, h, k, r⟩ | ⟨kvs, h, k, r⟩
    · exact .dK n (.inl h) k r
    · exact .dT n (.inl h) k r
  | none => exact h.elim
  | bool => exact h.elim
  | int => exact h.elim
  | str => exact h.elim
  | tuple => exact h.elim
/-- return x, x owned -/
def sRetV (i : Nat) : Sv := fun ρ S => match ρ[i]? with
  | some (some (.o m)) => some (.rt (.p m) S)
  | some (some (.p d)) => some (.rt (.p d) S)
  | some (some (.c k)) => some (.rt (.c k) S)
  | _ => none
theorem ds_retV {i : Nat} {x : Str} {p : Pos} (hN : c.N[i]? = some x) (hv : Vis c.sc x) (hd : (x == ("__debug__" : Str)) = false) (hcd : (x == ("__classdict__" : Str)) = false) : DS c (.Return (some (.Name x p)) pos) (sRetV i) := by
  refine ⟨_, fun X hX => ps_ret (pe_var (by rw [hX.N]; exact hN) (by rw [hX.sc]; exact hv) hd hcd), fun e adr S σ H ρ o D I h w => ?_⟩
  unfold sRetV at h
  split at h
  · rename_i m hm
    cases h
    obtain ⟨v, e1, a, rfl, _, ob⟩ := I.eok.slot i _ hm
    exact ⟨_, e1, w _ adr H I.ext I.eok.sto.ret (I.base.trans tr_ret) (ob_at (I.own_not ⟨i, m, hm, e1⟩) (ob.tr tr_ret fun _ q => q))⟩
  · rename_i d hm
    cases h
    obtain ⟨v, e1, r⟩ := I.eok.slot i _ hm
    exact ⟨_, e1, w _ adr H I.ext I.eok.sto.ret (I.base.trans tr_ret) (At.tr tr_ret d r)⟩
  · rename_i k hm
    cases h
    obtain ⟨v, e1, r⟩ := I.eok.slot i _ hm
    exact ⟨_, e1, w _ adr H I.ext I.eok.sto.ret (I.base.trans tr_ret) r⟩
  · cases h
def sRetN : Sv := fun _ S => some (.rt (.p .none) S)
theorem ds_retN : DS c (.Return none pos) sRetN := ⟨_, fun X _ => ps_retN, fun e adr S σ H ρ o D I h w => by
  cases h
  exact w .non adr H I.ext I.eok.sto.ret (I.base.trans tr_ret) .non⟩

/-! ### if -/
def sIf (t : Tv) (f g : Sv) : Sv := fun ρ S => (t ρ S).bind fun p => if p.1 = true then f ρ p.2 else g ρ p.2
theorem ds_if {t : Expr} {tt : Tv} {as bs : List Stmt} (ht : DT c t tt) (ha : DSs c as f) (hb : DSs c bs g) : DS c (.If t as bs pos) (sIf tt f g) := by
  obtain ⟨t', pt, vt⟩ := ht
  obtain ⟨ta, pa, va⟩ := ha
  obtain ⟨tb, pb, vb⟩ := hb
  refine ⟨_, fun X hX => ps_if (pt X hX) (pa X hX) (pb X hX), fun e adr S σ H ρ o D I h w => ?_⟩
  unfold sIf at h
  obtain ⟨⟨k, S1⟩, e1, e2⟩ := Option.bind_eq_some_iff.mp h
  refine vt _ adr S σ H ρ k S1 _ I.eok e1 fun adr1 H1 x1 s1 => ?_
  cases k with
  | true => exact iteT (va e adr1 S1 σ H1 ρ o D (I.extE x1 s1) e2 w)
  | false => exact iteF (vb e adr1 S1 σ H1 ρ o D (I.extE x1 s1) e2 w)

/-! ### assignments -/
/-- target = data -/
def sAsg (fa : Ev) (g : Gv) : Sv := fun ρ S => (fa ρ S).bind fun p => match p.1 with | .p d => (g d ρ).bind fun ρ' => some (.nx ρ' p.2) | _ => none
/-- a target's slots hold data -/
def GvNf (g : Gv) : Prop := ∀ d ρ ρ', g d ρ = some ρ' → ∀ (i : Nat) (m : PyData), ρ'[i]? = some (some (D.f m)) → ρ[i]? = some (some (D.f m))
theorem sv_asg {ta : TE} {fa : Ev} {gg : TG} {g : Gv} {is : List Nat} (va : EvOk c ta fa) (vg : GvOk c is gg g)
    (nf : ∀ d ρ ρ', g d ρ = some ρ' → ∀ (i : Nat) (m : PyData), ρ'[i]? = some (some (D.f m)) → i ∉ is) : SvOk c (tAsg ta gg) (sAsg fa g) := fun e adr S σ H ρ o D I h w => by
  unfold sAsg at h
  obtain ⟨⟨x, S1⟩, e1, e2⟩ := Option.bind_eq_some_iff.mp h
  refine va _ adr S σ H ρ x S1 _ I.eok e1 fun v adr1 H1 x1 s1 r1 => ?_
  have I1 := I.extE x1 s1
  cases x with
  | p d =>
    obtain ⟨ρ', e3, e4⟩ := Option.bind_eq_some_iff.mp e2
    cases e4
    refine vg _ adr1 S1 σ H1 ρ v d ρ' _ I1.eok r1 e3 fun σ' I2 ch => ?_
    refine w adr1 σ' H1 (I1.chg I2 ch fun i m q => ?_)
    have hi := nf d ρ ρ' e3 i m q
    exact ⟨by rw [← ch.eρ i hi]; exact q, ch.eσ i hi⟩
  | _ => cases e2
def GNf (is : List Nat) (g : Gv) : Prop := ∀ d ρ ρ', g d ρ = some ρ' → ∀ (i : Nat) (m : PyData), ρ'[i]? = some (some (D.f m)) → i ∉ is
def GsNf (is : List Nat) (g : Gsv) : Prop := ∀ d ρ ρ', g d ρ = some ρ' → ∀ (i : Nat) (m : PyData), ρ'[i]? = some (some (D.f m)) → i ∉ is
theorem gnf_name (i : Nat) : GNf [i] (gN i) := fun d ρ ρ' h j m e z => by
  have hj : j = i := by simpa using z
  subst hj
  unfold gN at h
  split at h
  · rename_i hl
    cases h
    rw [List.getElem?_set_self hl] at e
    cases e
  · cases h
theorem ds_asg {tg a : Expr} {fa : Ev} {g : Gv} {is : List Nat} (ha : DE c a fa) (hg : DG c is tg g) (nf : GNf is g) (hs : ∀ X, InC c X → swapsWithSole [tg] a pos.line X.env = pure false) (hw : ∀ X, InC c X → swappedStores [tg] a X.env = pure none)
    (h1 : ∀ X, InC c X → (assignEach [tg] X.env).map (·.2) = [assign tg X.env]) : DS c (.Assign [tg] a pos) (sAsg fa g) := by
  obtain ⟨ta, pa, va⟩ := ha
  obtain ⟨gg, pg, vg⟩ := hg
  exact ⟨_, fun X hX => ps_asg (pa X hX) (pg X hX) (hs X hX) (hw X hX) (h1 X hX), sv_asg va vg nf⟩
/-- x = e -/
theorem ds_set {i : Nat} {x : Str} {a : Expr} {fa : Ev} {p : Pos} (hN : c.N.Nodup) (hi : c.N[i]? = some x) (hx : Loc c.sc x) (hf : c.fn x = true ∨ c.sc.names.lookup x = some .local) (ha : DE c a fa) (hs : ∀ X, InC c X → swapsWith a (some (.Name x p)) pos.line X.env = pure false) :
    DS c (.Assign [.Name x p] a pos) (sAsg fa (gN i)) := by
  obtain ⟨ta, pa, va⟩ := ha
  obtain ⟨gg, pg, vg⟩ := dg_name (pos := p) hN hi hx hf
  refine ⟨tAsg ta (gName i), fun X hX => ps_set (by rw [hX.N]; exact hN) (by rw [hX.N]; exact hi) (by rw [hX.sc]; exact hx) (pa X hX) (hs X hX) (by rw [hX.fn, hX.sc]; exact hf), sv_asg va (fun Lf adr S σ H ρ v d ρ' Q I r e w => ?_) (gnf_name i)⟩
  unfold gN at e
  split at e
  · rename_i hl
    cases e
    exact w _ (I.set i (d := .p d) r) (chg_set (fun m z => nomatch z) hl)
  · cases e
theorem gv_name {i : Nat} : GvOk c [i] (gName i) (gN i) := fun Lf adr S σ H ρ v d ρ' Q I r e w => by
  unfold gN at e
  split at e
  · rename_i hl
    cases e
    exact w _ (I.set i (d := .p d) r) (chg_set (fun m z => nomatch z) hl)
  · cases e
/-- x = a fresh list, owned from now on -/
def sOwn (i : Nat) (fl : Lsv) : Sv := fun ρ S => (fl ρ S).bind fun p => if i < ρ.length then some (.nx (ρ.set i (some (.o (.list p.1)))) p.2) else none
/-- a new object is owned -/
theorem Ok.own {H' : Hp} {adr' : Nat → Addr} {S' : Sto} {i : Nat} {p : Addr} {m : PyData} (I : Ok c e adr S σ H ρ) (x : Ext adr S H adr' S' H') (s : StOk c (fun a => LfN e σ ρ a ∨ a = p) adr' S' H') (hp : H p = none) (ob : Ob H' (Lvv (fun a => LfN e σ ρ a ∨ a = p) adr' S') p m) (hl : i < ρ.length) :
    Ok c e adr' S' (σ.set i (some (.ref p))) H' (ρ.set i (some (.o m))) := by
  have hl0 : ∀ a, (LfN e σ ρ a ∨ a = p) → LfN e σ ρ a ∨ H a = none := fun a z => z.imp id fun q => by rw [q]; exact hp
  have hσ : i < σ.length := by rw [I.eok.len]; exact hl
  have I1 := (I.eok.ext' x s hl0 fun a z => .inl z).set i (v := .ref p) (d := .o m) ⟨p, rfl, .inr rfl, ob⟩
  have own : ∀ a, ownA (σ.set i (some (.ref p))) (ρ.set i (some (.o m))) a → ownA σ ρ a ∨ a = p := fun a ⟨j, m', h1, h2⟩ => by
    by_cases hj : j = i
    · subst hj
      rw [List.getElem?_set_self hσ] at h2
      cases h2
      exact .inr rfl
    · rw [List.getElem?_set_ne (Ne.symm hj)] at h1 h2
      exact .inl ⟨j, m', h1, h2⟩
  have np : ∀ (j : Nat) (m' : PyData), ρ[j]? = some (some (D.o m')) → σ[j]? = some (some (V.ref p)) → False := fun j m' h1 h2 => I.eok.sto.lf p (.inr ⟨j, m', h1, h2⟩) hp
  refine ⟨I1.reown (fun a z => ?_) fun j m' a h1 h2 => .inr ⟨j, m', h1, h2⟩, I.ext.trans x, fun a z => ?_, fun j k m1 m2 a h1 h2 h3 h4 => ?_, fun j m' a h1 h2 => ?_, I.lf0, I.base.trans ((x.tr hl0).trans (tr_less fun a z => z.imp (fun z => z.elim (fun q => .inl (.inl q)) fun q => (own a q).imp .inr id) id))⟩
  · rcases z with z | z
    · exact .inl (.inl z)
    · exact (own a z).imp .inr id
  · rcases own a z with z | z
    · exact I.fresh a z
    · subst z
      cases q : e.H a with
      | none => rfl
      | some o => exact absurd hp (I.ext.trk a (by rw [q]; exact fun z => nomatch z))
  · by_cases hj : j = i
    · by_cases hk : k = i
      · rw [hj, hk]
      · subst hj
        rw [List.getElem?_set_self hσ] at h3
        cases h3
        rw [List.getElem?_set_ne (Ne.symm hk)] at h2 h4
        exact (np k m2 h2 h4).elim
    · by_cases hk : k = i
      · subst hk
        rw [List.getElem?_set_self hσ] at h4
        cases h4
        rw [List.getElem?_set_ne (Ne.symm hj)] at h1 h3
        exact (np j m1 h1 h3).elim
      · rw [List.getElem?_set_ne (Ne.symm hj)] at h1 h3
        rw [List.getElem?_set_ne (Ne.symm hk)] at h2 h4
        exact I.inj j k m1 m2 a h1 h2 h3 h4
  · by_cases hj : j = i
    · subst hj
      rw [List.getElem?_set_self hl] at h1
      cases h1
    · rw [List.getElem?_set_ne (Ne.symm hj)] at h1 h2
      exact I.frz j m' a h1 h2
theorem sv_own {i : Nat} {tl : TE} {fl : Lsv} (v : LvOk c tl fl) : SvOk c (tAsg tl (gName i)) (sOwn i fl) := fun e adr S σ H ρ o D I h w => by
  unfold sOwn at h
  obtain ⟨⟨ds, S1⟩, e1, e2⟩ := Option.bind_eq_some_iff.mp h
  split at e2
  · rename_i hl
    cases e2
    refine v _ adr S σ H ρ ds S1 _ I.eok e1 fun p ws adr' H' x s hp hw r => ?_
    exact w adr' _ H' (I.own x s hp ⟨ws, hw, r⟩ hl)
  · cases e2
theorem ds_own {i : Nat} {x : Str} {a : Expr} {fl : Lsv} {p : Pos} (hN : c.N.Nodup) (hi : c.N[i]? = some x) (hx : Loc c.sc x) (hf : c.fn x = true ∨ c.sc.names.lookup x = some .local) (ha : DLs c a fl) (hs : ∀ X, InC c X → swapsWith a (some (.Name x p)) pos.line X.env = pure false) :
    DS c (.Assign [.Name x p] a pos) (sOwn i fl) := by
  obtain ⟨ta, pa, va⟩ := ha
  exact ⟨tAsg ta (gName i), fun X hX => ps_set (by rw [hX.N]; exact hN) (by rw [hX.N]; exact hi) (by rw [hX.sc]; exact hx) (pa X hX) (hs X hX) (by rw [hX.fn, hX.sc]; exact hf), sv_own va⟩
/-- x = [..] (a comprehension on the name's line) -/
theorem ds_lc {i : Nat} {y : Str} {py : Pos} {is : List Nat} {tg iter elt : Expr} {ifs : List Expr} {scope : Scope} {own : List (Str × Nat)} {lpos : Pos} {it : Lsv} {g : Gv} {t : Tv} {f : Ev} (hN : c.N.Nodup) (hy : c.N[i]? = some y) (hyl : c.sc.names.lookup y = some .local)
    (hsw : ∀ X, InC c X → swapsWith (.ListComp elt [⟨tg, iter, ifs, 0⟩] scope lpos) (some (.Name y py)) pos.line X.env = pure true)
    (hi : DI c false tg iter it) (ok : BlkOk c.N c.sc scope own) (hg : DG (c.blk scope) is tg g) (ht : DTs (c.blk scope) ifs t) (he : DE (c.blk scope) elt f)
    (his : ∀ i ∈ is, i ∈ own.map (·.2)) (hs : ∀ X, InC c X → ∀ x, foldedSetIterable iter X.env x = pure x) : ∃ tl, (∀ X, InC c X → PS X (.Assign [.Name y py] (.ListComp elt [⟨tg, iter, ifs, 0⟩] scope lpos) pos) (tAsg tl (gName i))) ∧ LvOk c tl (lComp (own.map (·.2)) it g t f) := by
  obtain ⟨wi, pi, vi⟩ := hi
  obtain ⟨gg, pg, vg⟩ := hg
  obtain ⟨tt, pt, vt⟩ := ht
  obtain ⟨te, pe, ve⟩ := he
  exact ⟨_, fun X hX => ps_setLc hX.calm (by rw [hX.N]; exact hN) (by rw [hX.N]; exact hy) (by rw [hX.sc]; exact hyl) (hsw X hX) (pi X hX) (by rw [hX.N, hX.sc]; exact ok) (fun s H C cl fp => pg _ (hX.blk s H scope C cl fp)) (fun s H C cl fp => pt _ (hX.blk s H scope C cl fp)) (fun s H C cl fp => pe _ (hX.blk s H scope C cl fp)) (hs X hX), lv_comp vi vg vt ve his⟩
theorem ds_setC {i : Nat} {st : Stmt} {fl : Lsv} (h : ∃ tl, (∀ X, InC c X → PS X st (tAsg tl (gName i))) ∧ LvOk c tl fl) : DS c st (sAsg (eL fl) (gN i)) := let ⟨tl, p, v⟩ := h; ⟨_, p, sv_asg (ev_l v) gv_name (gnf_name i)⟩
theorem ds_ownC {i : Nat} {st : Stmt} {fl : Lsv} (h : ∃ tl, (∀ X, InC c X → PS X st (tAsg tl (gName i))) ∧ LvOk c tl fl) : DS c st (sOwn i fl) := let ⟨tl, p, v⟩ := h; ⟨_, p, sv_own v⟩

/-! ### what is owned changes -/
theorem Ok.upd {i : Nat} {p : Addr} {m m' : PyData} {o : HO} (I : Ok c e adr S σ H ρ) (h1 : ρ[i]? = some (some (D.o m))) (h2 : σ[i]? = some (some (V.ref p))) (ob : Ob (upd H p o) (Lvv (LfN e σ ρ) adr S) p m') : Ok c e adr S σ (upd H p o) (ρ.set i (some (.o m'))) := by
  have hp : ownA σ ρ p := ⟨i, m, h1, h2⟩
  have hl : i < ρ.length := (List.getElem?_eq_some_iff.mp h1).1
  have t : Tr H (Lvv (LfN e σ ρ) adr S) (L2.upd H p o) (Lvv (LfN e σ ρ) adr S) := fun a h n => ⟨.of fun u q => by rw [upd_ne (fun z => n (.inl (.inr (by rw [z]; exact hp))))]; exact q, n⟩
  have own : ∀ a, ownA σ (ρ.set i (some (.o m'))) a ↔ ownA σ ρ a := fun a => by
    constructor
    · rintro ⟨j, m2, q1, q2⟩
      by_cases hj : j = i
      · subst hj; exact ⟨j, m, h1, q2⟩
      · rw [List.getElem?_set_ne (Ne.symm hj)] at q1; exact ⟨j, m2, q1, q2⟩
    · rintro ⟨j, m2, q1, q2⟩
      by_cases hj : j = i
      · subst hj; exact ⟨j, m', List.getElem?_set_self hl, q2⟩
      · exact ⟨j, m2, by rw [List.getElem?_set_ne (Ne.symm hj)]; exact q1, q2⟩
  have lf : LfN e σ (ρ.set i (some (.o m'))) = LfN e σ ρ := funext fun a => propext (or_congr Iff.rfl (own a))
  have sto' : StOk c (LfN e σ ρ) adr S (L2.upd H p o) := I.eok.sto.updO (.inr hp) (by
    obtain ⟨o', e1, n⟩ := ob.nt
    rw [upd_same] at e1
    cases e1
    exact n)
  have ep : e.H p = none := I.fresh p hp
  have ext' : Ext e.adr e.S e.H adr S (L2.upd H p o) := by
    refine ⟨I.ext.len, I.ext.ad, fun a u q n => ?_, fun a h => ?_, I.ext.live⟩
    · rw [upd_ne (ne_of_none q ep)]; exact I.ext.keep a u q n
    · by_cases hh : a = p
      · rw [hh, upd_same]; exact fun z => nomatch z
      · rw [upd_ne hh]; exact I.ext.trk a h
  refine ⟨?_, ext', fun a z => I.fresh a ((own a).mp z), fun j k m1 m2 a q1 q2 q3 q4 => ?_, fun j m2 a q1 q2 => ?_, I.lf0, by rw [lf]; exact I.base.trans t⟩
  · rw [lf]
    refine ⟨fun j d q => ?_, sto', by simp [I.eok.len]⟩
    by_cases hj : j = i
    · subst hj
      rw [List.getElem?_set_self hl] at q
      cases q
      exact ⟨_, h2, p, rfl, .inr hp, ob⟩
    · rw [List.getElem?_set_ne (Ne.symm hj)] at q
      obtain ⟨v, e1, r⟩ := I.eok.slot j d q
      refine ⟨v, e1, ?_⟩
      cases d with
      | p d => exact At.tr t d r
      | c k => exact r
      | o m2 =>
        obtain ⟨a, rfl, l, b⟩ := r
        refine ⟨a, rfl, l, b.tr t fun u z => ?_⟩
        rw [upd_ne]
        · exact z
        · intro z2
          subst z2
          exact hj (I.inj j i m2 m a q h1 e1 h2)
      | f m2 =>
        obtain ⟨a, rfl, r⟩ := r
        refine ⟨a, rfl, ?_⟩
        rcases I.frz j m2 a q e1 with z | z
        · have ne : a ≠ p := fun z2 => z (by rw [z2]; exact ep)
          have kr : ∀ u, Rd H a u → Rd (L2.upd H p o) a u := fun u q => rd_keep (fun u q => by rw [upd_ne ne]; exact q) q
          cases m2 with
          | list ds => obtain ⟨xs, h, r⟩ := r; exact ⟨xs, h.imp (fun q => ⟨q.1, kr _ q.2⟩) id, r.tr t⟩
          | dict dd =>
            obtain ⟨n, ⟨kvs, h, k, r⟩ | ⟨kvs, h, k, r⟩⟩ := r
            · exact ⟨n, .inl ⟨kvs, kr _ h, k, AtL.tr2 t _ r⟩⟩
            · exact ⟨n, .inr ⟨kvs, kr _ h, k, AtL.tr2 t _ r⟩⟩
          | _ => exact r.elim
        · cases m2 with
          | list ds =>
            obtain ⟨xs, h, r'⟩ := z
            refine ⟨xs, .inr h, r'.tr (ext'.tr fun b z2 => z2.imp id fun z3 => I.fresh b z3)⟩
          | _ => exact z.elim
  · obtain ⟨m3, w1⟩ : ∃ m3, ρ[j]? = some (some (D.o m3)) := by
      by_cases hj : j = i
      · subst hj; exact ⟨m, h1⟩
      · rw [List.getElem?_set_ne (Ne.symm hj)] at q1; exact ⟨m1, q1⟩
    obtain ⟨m4, w2⟩ : ∃ m3, ρ[k]? = some (some (D.o m3)) := by
      by_cases hj : k = i
      · subst hj; exact ⟨m, h1⟩
      · rw [List.getElem?_set_ne (Ne.symm hj)] at q2; exact ⟨m2, q2⟩
    exact I.inj j k m3 m4 a w1 w2 q3 q4
  · by_cases hj : j = i
    · subst hj
      rw [List.getElem?_set_self hl] at q1
      cases q1
    · rw [List.getElem?_set_ne (Ne.symm hj)] at q1
      exact I.frz j m2 a q1 q2
/-- a cell changes -/
theorem Ok.updC {k : Nat} {mo mo' : MO} {o : HO} (I : Ok c e adr S σ H ρ) (h1 : S[k]? = some (some mo)) (ob : MOb c (L2.upd H (adr k) o) (Lvv (LfN e σ ρ) adr S) adr S.length (adr k) mo') : Ok c e adr (S.set k (some mo')) σ (L2.upd H (adr k) o) ρ := by
  have hk : k < S.length := (List.getElem?_eq_some_iff.mp h1).1
  have hlv : LvC adr S (adr k) := ⟨k, mo, h1, rfl⟩
  have lv : ∀ a, LvC adr (S.set k (some mo')) a ↔ LvC adr S a := fun a => by
    constructor
    · rintro ⟨j, m2, q1, q2⟩
      by_cases hj : j = k
      · subst hj; exact ⟨j, mo, h1, q2⟩
      · rw [List.getElem?_set_ne (Ne.symm hj)] at q1; exact ⟨j, m2, q1, q2⟩
    · rintro ⟨j, m2, q1, q2⟩
      by_cases hj : j = k
      · subst hj; exact ⟨j, mo', List.getElem?_set_self hk, q2⟩
      · exact ⟨j, m2, by rw [List.getElem?_set_ne (Ne.symm hj)]; exact q1, q2⟩
  have lvE : LvC adr (S.set k (some mo')) = LvC adr S := funext fun a => propext (lv a)
  have x : Ext adr S H adr (S.set k (some mo')) (L2.upd H (adr k) o) := by
    refine ⟨by simp, fun _ _ => rfl, fun a u q n => ?_, fun a h => ?_, fun a z => .inl ((lv a).mp z)⟩
    · rw [upd_ne fun z => n (by rw [z]; exact hlv)]; exact q
    · by_cases hh : a = adr k
      · rw [hh, upd_same]; exact fun z => nomatch z
      · rw [upd_ne hh]; exact h
  have t : Tr H (Lvv (LfN e σ ρ) adr S) (L2.upd H (adr k) o) (Lvv (LfN e σ ρ) adr S) := fun a h n => ⟨.of fun u q => by rw [upd_ne (fun z => n (.inr (by rw [z]; exact hlv)))]; exact q, n⟩
  refine I.extE x ⟨fun i j m1 m2 q1 q2 q3 => ?_, fun i m1 q1 => ?_, fun a z => I.eok.sto.disj a ((lv a).mp z), fun a z => (I.eok.sto.lfo a z).keep fun o q => x.keep a o q fun n => I.eok.sto.disj a n z⟩
  · have g : ∀ (i : Nat) (m1 : MO), (S.set k (some mo'))[i]? = some (some m1) → ∃ m, S[i]? = some (some m) := fun i m1 q => by
      by_cases hj : i = k
      · subst hj; exact ⟨mo, h1⟩
      · rw [List.getElem?_set_ne (Ne.symm hj)] at q; exact ⟨m1, q⟩
    obtain ⟨a1, w1⟩ := g i m1 q1
    obtain ⟨a2, w2⟩ := g j m2 q2
    exact I.eok.sto.inj i j a1 a2 w1 w2 q3
  · have e1 : Lvv (LfN e σ ρ) adr (S.set k (some mo')) = Lvv (LfN e σ ρ) adr S := by unfold Lvv; rw [lvE]
    rw [e1, List.length_set]
    by_cases hj : i = k
    · subst hj
      rw [List.getElem?_set_self hk] at q1
      cases q1
      exact ob
    · rw [List.getElem?_set_ne (Ne.symm hj)] at q1
      refine MOb.tr t (Nat.le_refl _) (fun _ _ => rfl) (fun u q => ?_) (I.eok.sto.ob i m1 q1)
      rw [upd_ne fun z => hj (I.eok.sto.inj i k m1 mo q1 h1 z)]
      exact q
end
end DL
namespace DL
open PySem PySem.AutoSeq1 in
theorem list_extend_tup (l : Addr) (items : Array Value) (n : Nat) (b : Addr) (items2 : Array Value) (n2 : Nat) (dd : Option Addr) (sl : Array (Option Value)) (hs0 : ¬(!items.isEmpty && Builtin.List.listTooLong (items.size + items2.size)) = true) (hs1 : items.size ≤ sizeLine) (hs2 : items.size + items2.size ≤ sizeLine + 1) :
    Meets (Builtin.«list.extend» ⟨[.ref l, .ref b], []⟩) (fun _ R s => s.heap.get? l = some { cls := .type "list", dict := none, data := .seq items n, slots := #[] } ∧ s.heap.get? b = some { cls := .type "tuple", dict := dd, data := .seq items2 n2, slots := sl } ∧ R (.ok (.ret Value.none)) { s with heap := s.heap.update l (Obj.mapSeq fun x => x ++ items2), toks := s.toks }) :=
  .of_wp fun prog w A R s h => by
    obtain ⟨hp, g, d, tk, os⟩ := s; obtain ⟨hl, hb, h⟩ := h; have f1 := idx_int; have f2 := sub_tuple_tuple; have f3 := sub_list_list; have f4 := sub_tuple_list; have f5 := sub_list_tuple;
    have hz' : (items ++ items2).size ≤ sizeLine + 1 := by rw [Array.size_append]; exact hs2
    wp_walk using (wpAny_updateSeq hl rfl (hz := hs1) (_hz' := hz')), wpAny_loadPart' hl, wpAny_loadPart' hb; exact ⟨_, rfl, h⟩
open PySem PySem.Spec L2
open PyProof.Rows hiding St
/-! ### methods that change a list: by data -/
/-- the list at p (not data) becomes hh of it and of the argument's data -/
def rMut (K : PySem.W.Frag) (hh : PyData → PyData → Option PyData) : V → List V → Hp → VK → Prop := fun x vs H Q => ∃ (L : AdP) (p : Addr) (v : V) (m d m' : PyData), x = .ref p ∧ vs = [v] ∧ L p ∧ Ob H L p m ∧ At H L v d ∧ hh m d = some m' ∧ ∀ o, Ob (L2.upd H p o) L p m' → Q .non (L2.upd H p o)
def appD (m d : PyData) : Option PyData := match m with | .list ds => if ds.length < sizeLine then some (.list (ds ++ [d])) else none | _ => none
def extD (m d : PyData) : Option PyData := match m with
  | .list ds => (match d with
    | .list es => if ds.length + es.length ≤ sizeLine then some (.list (ds ++ es)) else none
    | .tuple es => if ds.length + es.length ≤ sizeLine then some (.list (ds ++ es)) else none
    | _ => none)
  | _ => none
theorem tr_upd {H : Hp} {L : AdP} {p : Addr} {o : HO} (hp : L p) : Tr H L (L2.upd H p o) L := fun a h n => ⟨.of fun u q => by rw [upd_ne (fun z => n (by rw [z]; exact hp))]; exact q, n⟩
section
variable {X : Cx}
theorem hm_app : MtR X "list.append" (rMut X.K appD) := by
  intro pins s σ H x vs v us Q I rx rv h
  obtain ⟨L, p, y, m, d, m', rfl, rfl, hL, ob, a, e, q⟩ := h
  unfold appD at e
  split at e
  · split at e
    · rename_i ds hz
      cases e
      obtain ⟨xs, hx, r⟩ := ob
      exact mt_append pins s σ H _ _ v us Q I rx rv ⟨p, xs, y, rfl, rfl, hx, by rw [r.length]; exact hz, q _ ⟨_, upd_same, (r.append (.cons a .nil)).tr (tr_upd hL)⟩⟩
    · cases e
  · cases e
theorem hm_ext : MtR X "list.extend" (rMut X.K extD) := by
  intro pins s σ H x vs v us Q I rx rv h
  obtain ⟨L, p, y, m, d, m', rfl, rfl, hL, ob, a, e, q⟩ := h
  unfold extD at e
  split at e
  · split at e
    · split at e
      · rename_i ds _ es hz
        cases e
        obtain ⟨xs, hx, r⟩ := ob
        cases a with
        | lst n h1 h2 =>
          have e1 := r.length
          have e2 := h2.length
          exact mt_extend pins s σ H _ _ v us Q I rx rv ⟨p, _, xs, _, rfl, rfl, hx, h1, by omega, q _ ⟨_, upd_same, (r.append h2).tr (tr_upd hL)⟩⟩
      · cases e
    · split at e
      · rename_i ds _ es hz
        cases e
        obtain ⟨xs, hx, r⟩ := ob
        cases a with
        | tup n h1 h2 =>
          have e1 := r.length
          have e2 := h2.length
          cases rx
          obtain ⟨u, rfl, ru⟩ := Vals.one rv
          cases ru
          obtain ⟨z, its, k, r1, hl, e3⟩ := I.lstM hx
          obtain ⟨its2, r2, ⟨⟨cls, dd, data, sl⟩, ho, hc, n2, hd⟩, z2⟩ := I.tuple (.of h1)
          simp only at hc hd
          subst hc hd
          have e4 := r2.length
          have hsz : its.toArray.size + its2.toArray.size ≤ sizeLine := by rw [List.size_toArray, List.size_toArray]; omega
          have hlong : ¬ (!its.toArray.isEmpty && Builtin.List.listTooLong (its.toArray.size + its2.toArray.size)) = true := by
            rw [notLongL hsz, Bool.and_false]
            exact Bool.false_ne_true
          refine call_meets PySem.F.slot_list_extend ⟨_, e3, rfl⟩ PySem.F.entry_list_extend (PySem.F.args_list_extend_2 _ _)
            (list_extend_tup p its.toArray k _ its2.toArray n2 dd sl hlong (by rw [List.size_toArray]; omega) (by omega)) ⟨e3, ho, ?_⟩
          refine ⟨.non, _, I.lset (its' := its ++ its2) hx e3 (by simp) (r1.append r2) ?_, rfl, q _ ⟨_, upd_same, (r.append h2).tr (tr_upd hL)⟩⟩
          rw [List.length_append]
          omega
      · cases e
    · cases e
  · cases e
end
section
variable {c : Cxt} {e : En} {Lf : AdP} {adr : Nat → Addr} {S : Sto} {H : Hp} {σ : L2.St} {ρ : Env'} {pos : Pos}
/-- x.m(e): the list in slot i, or in its cell, becomes hh of it and what e gives -/
def sMut (hh : PyData → PyData → Option PyData) (i : Nat) (fa : Ev) : Sv := fun ρ S => match ρ[i]? with
  | some (some (.o m)) => (fa ρ S).bind fun p => match p.1 with | .p d => (hh m d).bind fun m' => some (.nx (ρ.set i (some (.o m'))) p.2) | _ => none
  | some (some (.c k)) => match S[k]? with
    | some (some (.d (.list _))) => (fa ρ S).bind fun p => match p.1 with
      | .p d => (match p.2[k]? with
        | some (some (.d m)) => (hh m d).bind fun m' => some (.nx ρ (p.2.set k (some (.d m'))))
        | _ => none)
      | _ => none
    | _ => none
  | _ => none
theorem sv_mut {hh : PyData → PyData → Option PyData} (hm : ∀ m d m', hh m d = some m' → ∃ ds, m = .list ds) {i : Nat} {ta : TE} {fa : Ev} (va : EvOk c ta fa) : SvOk c (tDrop (tBM c.K "list" (rMut c.K hh) (tVar i) (tCons ta tNil))) (sMut hh i fa) := fun e adr S σ H ρ o D I h w => by
  unfold sMut at h
  split at h
  · rename_i m hi
    obtain ⟨⟨x, S1⟩, e1, e2⟩ := Option.bind_eq_some_iff.mp h
    cases x with
    | p d =>
      obtain ⟨m', e3, e4⟩ := Option.bind_eq_some_iff.mp e2
      cases e4
      obtain ⟨v, h1, a, rfl, l, ob⟩ := I.eok.slot i _ hi
      obtain ⟨ds, rfl⟩ := hm _ _ _ e3
      have ob0 := ob
      obtain ⟨xs, hx, _⟩ := ob0
      refine ⟨_, h1, .inl ⟨rfl, _, .of hx⟩, va _ adr S σ H ρ _ _ _ I.eok e1 fun v adr1 H1 x1 s1 r1 => ?_⟩
      have I1 := I.extE x1 s1
      exact ⟨_, a, v, _, d, m', rfl, rfl, .inl l, I1.own_at hi h1, r1, e3, fun o' ob' => w adr1 _ _ (I1.upd hi h1 ob')⟩
    | _ => cases e2
  · rename_i k hi
    split at h
    · rename_i ds0 hk0
      obtain ⟨⟨x, S1⟩, e1, e2⟩ := Option.bind_eq_some_iff.mp h
      cases x with
      | p d =>
        simp only at e2
        split at e2
        · rename_i m hk
          obtain ⟨m', e3, e4⟩ := Option.bind_eq_some_iff.mp e2
          cases e4
          obtain ⟨v, h1, rfl, hkl⟩ := I.eok.slot i _ hi
          obtain ⟨xs, hx, _⟩ := I.eok.sto.ob k _ hk0
          refine ⟨_, h1, .inl ⟨rfl, _, .of hx⟩, va _ adr S σ H ρ _ _ _ I.eok e1 fun v adr1 H1 x1 s1 r1 => ?_⟩
          have I1 := I.extE x1 s1
          have ek : adr1 k = adr k := x1.ad k hkl
          rw [← ek]
          exact ⟨_, adr1 k, v, m, d, m', rfl, rfl, .inr ⟨k, _, hk, rfl⟩, s1.ob k _ hk, r1, e3, fun o' ob' => w adr1 _ _ (I1.updC hk ob')⟩
        · cases e2
      | _ => cases e2
    · cases h
  · cases h
/-- the statement x.m(e) of a list -/
theorem ds_mut {id : String} {name : Str} {hh : PyData → PyData → Option PyData} {i : Nat} {x : Str} {a : Expr} {fa : Ev} {p apos cpos : Pos} (slot : Slot "list" name id) (hty : typeOf (.builtin id) = pure (.type "method_descriptor")) (hmt : ∀ X, MtR X id (rMut X.K hh))
    (hm : ∀ m d m', hh m d = some m' → ∃ ds, m = .list ds) (hN : c.N[i]? = some x) (hv : Vis c.sc x) (hd : (x == ("__debug__" : Str)) = false) (hcd : (x == ("__classdict__" : Str)) = false) (ha : DE c a fa) (hst : noStar [a] = true)
    (hbase : ∀ X, InC c X → attributeBase (.Name x p) name X.env (eval (.Name x p) X.env) = eval (.Name x p) X.env)
    (hfew : ∀ X, InC c X → ((backTo cpos (starEach [a] X.env)).all (fun x => !x.1) && (backToKw cpos (keywordEach [] X.env)).all (fun x => x.1.isSome)
      && decide ([a].length + ([] : List Keyword).length + (if ([] : List Keyword).isEmpty then 0 else 1) < 30)) = true)
    (hline : (apos.endLine == cpos.line) = true) (hs : ∀ X, InC c X → swapsWith (.Call (.Attribute (.Name x p) name apos) [a] [] cpos) none pos.line X.env = pure false) :
    DS c (.Expr (.Call (.Attribute (.Name x p) name apos) [a] [] cpos) pos) (sMut hh i fa) := by
  obtain ⟨ta, pa, va⟩ := ha
  exact ⟨_, fun X hX => ps_expr (by
    have h := pe_bm (cpos := cpos) (apos := apos) PySem.F.plainAttrs_list slot hty (hmt X) (pe_var (pos := p) (i := i) (by rw [hX.N]; exact hN) (by rw [hX.sc]; exact hv) hd hcd) (pa_cons (pa X hX) pa_nil (star_cons hst)) (hbase X hX) (hfew X hX) hline (star_cons hst) rfl
    rw [hX.K] at h
    exact h) (hs X hX), sv_mut hm va⟩
theorem app_list (m d m' : PyData) (h : appD m d = some m') : ∃ ds, m = .list ds := by cases m <;> first | exact ⟨_, rfl⟩ | cases h
theorem ext_list (m d m' : PyData) (h : extD m d = some m') : ∃ ds, m = .list ds := by cases m <;> first | exact ⟨_, rfl⟩ | cases h
/-- an expression for its effect alone -/
def sDrop (fa : Ev) : Sv := fun ρ S => (fa ρ S).bind fun p => some (.nx ρ p.2)
theorem ds_expr {a : Expr} {fa : Ev} (ha : DE c a fa) (hs : ∀ X, InC c X → swapsWith a none pos.line X.env = pure false) : DS c (.Expr a pos) (sDrop fa) := by
  obtain ⟨ta, pa, va⟩ := ha
  refine ⟨_, fun X hX => ps_expr (pa X hX) (hs X hX), fun e adr S σ H ρ o D I h w => ?_⟩
  unfold sDrop at h
  obtain ⟨⟨x, S1⟩, e1, e2⟩ := Option.bind_eq_some_iff.mp h
  cases e2
  exact va _ adr S σ H ρ _ _ _ I.eok e1 fun v adr1 H1 x1 s1 r1 => w adr1 σ H1 (I.extE x1 s1)
/-- x += e -/
def sAug (f : PyData → PyData → Option PyData) (i : Nat) (fa : Ev) : Sv := fun ρ S => match ρ[i]? with
  | some (some (.p a)) => (fa ρ S).bind fun p => (vw p.2 p.1).bind fun b => (f a b).bind fun r => some (.nx (ρ.set i (some (.p r))) p.2)
  | _ => none
theorem ds_aug {op : Operator} {f : PyData → PyData → Option PyData} {i : Nat} {x : Str} {a : Expr} {fa : Ev} {p : Pos} (ho : ∀ X, InC c X → OpR X (inplaceOp op) (rD X.K f)) (hN : c.N.Nodup) (hi : c.N[i]? = some x) (hx : Loc c.sc x) (hf : c.fn x = true ∨ c.sc.names.lookup x = some .local) (ha : DE c a fa) :
    DS c (.AugAssign (.Name x p) op a pos) (sAug f i fa) := by
  obtain ⟨ta, pa, va⟩ := ha
  refine ⟨tAug i ta (rD c.K f), fun X hX => ps_aug (ti := rD c.K f) (by rw [hX.N]; exact hN) (by rw [hX.N]; exact hi) (by rw [hX.sc]; exact hx) (pa X hX) (by rw [← hX.K]; exact ho X hX) (by rw [hX.fn, hX.sc]; exact hf), fun e adr S σ H ρ o D I h w => ?_⟩
  unfold sAug at h
  split at h
  · rename_i a0 hi
    obtain ⟨⟨y, S1⟩, e1, e2⟩ := Option.bind_eq_some_iff.mp h
    obtain ⟨b, e3, e4⟩ := Option.bind_eq_some_iff.mp e2
    obtain ⟨r, e5, e6⟩ := Option.bind_eq_some_iff.mp e4
    cases e6
    obtain ⟨v, h1, r0⟩ := I.eok.slot i _ hi
    refine ⟨v, h1, va _ adr S σ H ρ _ _ _ I.eok e1 fun u adr1 H1 x1 s1 r1 => ?_⟩
    have I1 := I.extE x1 s1
    have r0' : At H1 (Lvv (LfN e σ ρ) adr1 S1) v a0 := At.tr (x1.tr fun a z => .inl z) a0 r0
    refine ⟨_, a0, b, r, fun z => s1.lvv, .dat r0', vw_ok s1 r1 e3, e5, fun w' H' k a' => ?_⟩
    have I2 := I1.extE (.grow k) (grow_ok s1 k)
    exact w adr1 _ H' (I2.set i (d := .p r) (List.getElem?_eq_some_iff.mp hi).1 a' (fun m z => nomatch z) (fun m z => nomatch z))
  · cases h
end
end DL
namespace DL
open PySem PySem.Spec L2
open PyProof.Rows hiding St
section
variable {c : Cxt} {e : En} {Lf : AdP} {adr : Nat → Addr} {S : Sto} {H : Hp} {σ : L2.St} {ρ : Env'} {pos : Pos}
/-! ### forgetting slots -/
def fgO (is : List Nat) : Out → Out
  | .nx ρ S => .nx (wipeE ρ is) S
  | .bk ρ S => .bk (wipeE ρ is) S
  | .ct ρ S => .ct (wipeE ρ is) S
  | .rt d S => .rt d S
def sFg (is : List Nat) (f : Sv) : Sv := fun ρ S => (f ρ S).bind fun o => some (fgO is o)
theorem Ok.fg (I : Ok c e adr S σ H ρ) (is : List Nat) : Ok c e adr S σ H (wipeE ρ is) := by
  have wne : ∀ (i : Nat) (d : D), (wipeE ρ is)[i]? = some (some d) → ρ[i]? = some (some d) := fun i d h => (wipeE_get h).1
  have wout : ∀ (i : Nat), i ∉ is → (wipeE ρ is)[i]? = ρ[i]? := by
    intro i hi
    induction is with
    | nil => rfl
    | cons j is ih =>
      simp only [List.mem_cons, not_or] at hi
      rw [wipeE, List.getElem?_set_ne (Ne.symm hi.1)]
      exact ih (fun i d h => (wipeE_get h).1) hi.2
  refine I.chg (is := is) ⟨fun i d h => I.eok.slot i d (wne i d h), I.eok.sto, by rw [wipeE_len]; exact I.eok.len⟩ ⟨rfl, wipeE_len ρ is, fun _ _ => rfl, wout, fun i m h => ⟨wne i _ h, rfl⟩⟩ fun i m h => ⟨wne i _ h, rfl⟩
theorem OutOk.fg {D : Ends} {is : List Nat} {o : Out} (w : OutOk c e D (fgO is o)) : OutOk c e D o := by
  cases o with
  | nx ρ S => exact fun adr σ H I => w adr σ H (I.fg is)
  | bk ρ S => exact fun adr σ H I => w adr σ H (I.fg is)
  | ct ρ S => exact fun adr σ H I => w adr σ H (I.fg is)
  | rt d S => exact w
theorem sv_fg {t : TS} {f : Sv} {is : List Nat} (v : SvOk c t f) : SvOk c t (sFg is f) := fun e adr S σ H ρ o D I h w => by
  unfold sFg at h
  obtain ⟨o1, e1, e2⟩ := Option.bind_eq_some_iff.mp h
  cases e2
  exact v e adr S σ H ρ o1 D I e1 w.fg
theorem ds_fg {st : Stmt} {f : Sv} (is : List Nat) (h : DS c st f) : DS c st (sFg is f) := let ⟨t, p, v⟩ := h; ⟨t, p, sv_fg v⟩
theorem dss_fg {st : List Stmt} {f : Sv} (is : List Nat) (h : DSs c st f) : DSs c st (sFg is f) := let ⟨t, p, v⟩ := h; ⟨t, p, sv_fg v⟩
/-- what slot i owns is data from now on -/
def frzE (i : Nat) (ρ : Env') : Env' := match ρ[i]? with | some (some (.o m)) => ρ.set i (some (.p m)) | _ => ρ
def sFz (i : Nat) (f : Sv) : Sv := fun ρ S => f (frzE i ρ) S
theorem Ok.fz (I : Ok c e adr S σ H ρ) (i : Nat) : Ok c e adr S σ H (frzE i ρ) := by
  unfold frzE
  split
  · rename_i m hi
    have hl : i < ρ.length := (List.getElem?_eq_some_iff.mp hi).1
    obtain ⟨v, h1, a, rfl, l, ob⟩ := I.eok.slot i _ hi
    have own : ∀ b, ownA σ (ρ.set i (some (.p m))) b → ownA σ ρ b ∧ b ≠ a := fun b ⟨j, m', q1, q2⟩ => by
      by_cases hj : j = i
      · subst hj
        rw [List.getElem?_set_self hl] at q1
        cases q1
      · rw [List.getElem?_set_ne (Ne.symm hj)] at q1
        refine ⟨⟨j, m', q1, q2⟩, fun z => hj ?_⟩
        subst z
        exact I.inj j i m' m b q1 hi q2 h1
    have hle : ∀ b, LfN e σ (ρ.set i (some (.p m))) b → LfN e σ ρ b := fun b z => z.imp id fun q => (own b q).1
    have na : ¬ Lvv (LfN e σ (ρ.set i (some (.p m)))) adr S a := fun z => by
      rcases z with (z | z) | z
      · exact I.own_not ⟨i, m, hi, h1⟩ (.inl z)
      · exact (own a z).2 rfl
      · exact I.own_not ⟨i, m, hi, h1⟩ (.inr z)
    have t : Tr H (Lvv (LfN e σ ρ) adr S) H (Lvv (LfN e σ (ρ.set i (some (.p m)))) adr S) := fun b _ n => ⟨.of fun _ q => q, fun z => n (z.imp (hle b) id)⟩
    refine ⟨⟨fun j d q => ?_, I.eok.sto.weak hle, by simp [I.eok.len]⟩, I.ext, fun b z => I.fresh b (own b z).1, fun j k m1 m2 b q1 q2 q3 q4 => ?_, fun j m' b q1 q2 => ?_, I.lf0, I.base.trans t⟩
    · by_cases hj : j = i
      · subst hj
        rw [List.getElem?_set_self hl] at q
        cases q
        exact ⟨_, h1, ob_at na (ob.tr t fun _ q => q)⟩
      · rw [List.getElem?_set_ne (Ne.symm hj)] at q
        obtain ⟨v, e1, r⟩ := I.eok.slot j d q
        refine ⟨v, e1, ?_⟩
        cases d with
        | p d => exact At.tr t d r
        | c k => exact r
        | o m2 =>
          obtain ⟨b, rfl, _, b2⟩ := r
          exact ⟨b, rfl, .inr ⟨j, m2, by rw [List.getElem?_set_ne (Ne.symm hj)]; exact q, e1⟩, b2.tr t fun _ q => q⟩
        | f m2 =>
          obtain ⟨b, e2, b2⟩ := r
          exact ⟨b, e2, b2.ext (adr := adr) (adr' := adr) (S := S) (S' := S) .refl fun x z => .inl (hle x z)⟩
    · by_cases hj : j = i
      · subst hj
        rw [List.getElem?_set_self hl] at q1
        cases q1
      · by_cases hk : k = i
        · subst hk
          rw [List.getElem?_set_self hl] at q2
          cases q2
        · rw [List.getElem?_set_ne (Ne.symm hj)] at q1
          rw [List.getElem?_set_ne (Ne.symm hk)] at q2
          exact I.inj j k m1 m2 b q1 q2 q3 q4
    · by_cases hj : j = i
      · subst hj
        rw [List.getElem?_set_self hl] at q1
        cases q1
      · rw [List.getElem?_set_ne (Ne.symm hj)] at q1
        exact I.frz j m' b q1 q2
  · exact I
theorem ds_fz {st : Stmt} {f : Sv} (i : Nat) (h : DS c st f) : DS c st (sFz i f) := let ⟨t, p, v⟩ := h; ⟨t, p, fun e adr S σ H ρ o D I h w => v e adr S σ H (frzE i ρ) o D (I.fz i) h w⟩

/-! ### for -/
def forL (g : Gv) (b : Sv) : List PyData → Env' → Sto → Option Out
  | [], ρ, S => some (.nx ρ S)
  | d :: ds, ρ, S => (g d ρ).bind fun ρ1 => (b ρ1 S).bind fun o => match o with
    | .nx ρ' S' => forL g b ds ρ' S'
    | .ct ρ' S' => forL g b ds ρ' S'
    | .bk ρ' S' => some (.nx ρ' S')
    | .rt d S' => some (.rt d S')
/-- the slots is (the target's, the body's own) are forgotten ahead of each turn -/
def sFor (is : List Nat) (it : Lsv) (g : Gv) (b : Sv) : Sv := fun ρ S => (it ρ S).bind fun p => forL g (sFg is b) p.1 (wipeE ρ is) p.2
theorem sv_for_at {is js : List Nat} {wi : TI} {gg : TG} {tb : TS} {g : Gv} {b : Sv} {items : List PyData} {S1 : Sto} {o : Out} {D : Ends} (I : Ok c e adr S σ H ρ)
    (hv : ∀ R : It → Hp → Prop, (∀ J adr' H', Ext adr S H adr' S1 H' → StOk c (LfN e σ ρ) adr' S1 H' → ItOk true (LfN e σ ρ) H' (Lvv (LfN e σ ρ) adr' S1) J items → items.length ≤ sizeLine → R J H') → wi σ H R)
    (vg : GvOk c js gg g) (nf : GNf js g) (vb : SvOk c tb b) (e2 : forL g (sFg is b) items (wipeE ρ is) S1 = some o) (w : OutOk c e D o) : tFor wi gg tb D σ H := by
  refine hv _ fun J adr1 H1 x1 s1 J1 hz => ?_
  have I0 := I.extE x1 s1
  have t0 := I0.base
  have I1 := I0.into.fg is
  generalize he1 : e.at H1 (Lvv (LfN e σ ρ) adr1 S1) = e1 at I1
  have w1 : OutOk c e1 D o := by rw [← he1]; exact w.back t0
  have hbH : e1.bH = H1 := by rw [← he1]; rfl
  have hbL : e1.bL = Lvv (LfN e σ ρ) adr1 S1 := by rw [← he1]; rfl
  refine ⟨fun i m σc Hc => m = items.length - i ∧ i ≤ items.length ∧ ∃ adrc Sc ρc, Ok c e1 adrc Sc σc Hc ρc ∧ forL g (sFg is b) (items.drop i) ρc Sc = some o, ⟨items.length, by simp, Nat.zero_le _, adr1, S1, wipeE ρ is, I1, e2⟩, fun i m σc Hc hW => ?_⟩
  obtain ⟨rfl, hi, adrc, Sc, ρc, Ic, ec⟩ := hW
  have now := J1 Hc (Lvv (LfN e1 σc ρc) adrc Sc) (by have h := Ic.base; rw [hbH, hbL] at h; exact h) fun z => nomatch z
  by_cases hlt : i < items.length
  · have hdr : items.drop i = items[i] :: items.drop (i + 1) := List.drop_eq_getElem_cons hlt
    have hget : items[i]? = some items[i] := List.getElem?_eq_getElem hlt
    rw [hdr] at ec
    simp only [forL, Option.bind_eq_some_iff] at ec
    obtain ⟨ρ1, eg, o1, eb, er⟩ := ec
    refine .inr ⟨now.go i _ hget, fun σn Hn => ∃ adrc Sc ρc, Ok c e1 adrc Sc σn Hn ρc ∧ forL g (sFg is b) (items.drop (i + 1)) ρc Sc = some o, fun σn Hn hn => ⟨items.length - (i + 1), by omega, rfl, hlt, hn⟩, fun x H' hy => ?_⟩
    obtain ⟨kH', aH'⟩ := now.yld i _ x H' hget hy
    have a3 := aH' fun a z => Ic.eok.sto.lvo z
    have I3 : Ok c e1 adrc Sc σc H' ρc := Ic.extE (.grow kH') (grow_ok Ic.eok.sto kH')
    refine vg _ adrc Sc σc H' ρc x items[i] ρ1 _ I3.eok a3 eg fun σ2 I4 ch => ?_
    have I5 : Ok c e1 adrc Sc σ2 H' ρ1 := I3.chg I4 ch fun j m q => by
      have hj := nf _ _ _ eg j m q
      exact ⟨by rw [← ch.eρ j hj]; exact q, ch.eσ j hj⟩
    refine sv_fg (is := is) vb e1 adrc Sc σ2 H' ρ1 o1 _ I5 eb ?_
    cases o1 with
    | nx ρ' S' => exact fun adr' σ' H2 I' => ⟨adr', S', ρ', I', er⟩
    | ct ρ' S' => exact fun adr' σ' H2 I' => ⟨adr', S', ρ', I', er⟩
    | bk ρ' S' =>
      cases er
      exact w1
    | rt d S' =>
      cases er
      exact w1
  · have hi' : i = items.length := by omega
    subst hi'
    rw [List.drop_length] at ec
    simp only [forL, Option.some.injEq] at ec
    subst ec
    exact .inl ⟨now.stop, w1 adrc σc Hc Ic⟩
theorem sv_for {is js : List Nat} {wi : TI} {gg : TG} {tb : TS} {it : Lsv} {g : Gv} {b : Sv} (vi : IvOk c true wi it) (vg : GvOk c js gg g) (nf : GNf js g) (vb : SvOk c tb b) : SvOk c (tFor wi gg tb) (sFor is it g b) := fun e adr S σ H ρ o D I h w => by
  unfold sFor at h
  obtain ⟨⟨items, S1⟩, e1, e2⟩ := Option.bind_eq_some_iff.mp h
  exact sv_for_at I (fun R hR => vi _ adr S σ H ρ items S1 R I.eok e1 hR) vg nf vb e2 w
theorem ds_for {is js : List Nat} {tg iter : Expr} {body : List Stmt} {it : Lsv} {g : Gv} {b : Sv} (hi : DI c true tg iter it) (hg : DG c js tg g) (nf : GNf js g) (hb : DSs c body b) (hs : ∀ X, InC c X → ∀ x, foldedSetIterable iter X.env x = pure x) : DS c (.For tg iter body [] pos) (sFor is it g b) := by
  obtain ⟨wi, pi, vi⟩ := hi
  obtain ⟨gg, pg, vg⟩ := hg
  obtain ⟨tb, pb, vb⟩ := hb
  exact ⟨_, fun X hX => ps_for (by rw [hX.xe]; exact PassesOwn.never) hX.calm (pi X hX) (pg X hX) (pb X hX) (hs X hX), sv_for vi vg nf vb⟩

/-! ### while -/
def whN (t : Tv) (b : Sv) : Nat → Env' → Sto → Option Out
  | 0, _, _ => none
  | n + 1, ρ, S => (t ρ S).bind fun p => if p.1 = true then (b ρ p.2).bind fun o => match o with
    | .nx ρ' S' => whN t b n ρ' S'
    | .ct ρ' S' => whN t b n ρ' S'
    | .bk ρ' S' => some (.nx ρ' S')
    | .rt d S' => some (.rt d S')
    else some (.nx ρ p.2)
theorem whN_mono (t : Tv) (b : Sv) : ∀ (n : Nat) (ρ : Env') (S : Sto) (o : Out), whN t b n ρ S = some o → ∀ m, n ≤ m → whN t b m ρ S = some o
  | 0, _, _, _, h, _, _ => by cases h
  | n + 1, ρ, S, o, h, 0, hm => by omega
  | n + 1, ρ, S, o, h, m + 1, hm => by
    simp only [whN, Option.bind_eq_some_iff] at h ⊢
    obtain ⟨⟨k, S1⟩, e1, e2⟩ := h
    refine ⟨(k, S1), e1, ?_⟩
    cases k with
    | false => exact e2
    | true =>
      simp only [if_pos, Option.bind_eq_some_iff] at e2 ⊢
      obtain ⟨o1, e3, e4⟩ := e2
      refine ⟨o1, e3, ?_⟩
      cases o1 with
      | nx ρ' S' => exact whN_mono t b n ρ' S' o e4 m (by omega)
      | ct ρ' S' => exact whN_mono t b n ρ' S' o e4 m (by omega)
      | bk ρ' S' => exact e4
      | rt d S' => exact e4
open Classical in
/-- the while loop, where it ends -/
noncomputable def whD (t : Tv) (b : Sv) : Sv := fun ρ S => if h : ∃ n, (whN t b n ρ S).isSome = true then whN t b h.choose ρ S else none
theorem whD_eq {t : Tv} {b : Sv} {n : Nat} {ρ : Env'} {S : Sto} {o : Out} (h : whN t b n ρ S = some o) : whD t b ρ S = some o := by
  unfold whD
  have hx : ∃ n, (whN t b n ρ S).isSome = true := ⟨n, by rw [h]; rfl⟩
  rw [dif_pos hx]
  obtain ⟨o', e⟩ := Option.isSome_iff_exists.mp hx.choose_spec
  have e1 := whN_mono t b _ ρ S o' e (max hx.choose n) (Nat.le_max_left _ _)
  have e2 := whN_mono t b _ ρ S o h (max hx.choose n) (Nat.le_max_right _ _)
  rw [e, ← e1, e2]
theorem whD_inv {t : Tv} {b : Sv} {ρ : Env'} {S : Sto} {o : Out} (h : whD t b ρ S = some o) : ∃ n, whN t b n ρ S = some o := by
  unfold whD at h
  split at h
  · exact ⟨_, h⟩
  · cases h
noncomputable def sWh (is : List Nat) (t : Tv) (b : Sv) : Sv := fun ρ S => whD t (sFg is b) (wipeE ρ is) S
theorem sv_wh {is : List Nat} {tt : TT} {tb : TS} {t : Tv} {b : Sv} (vt : TvOk c tt t) (vb : SvOk c tb b) : SvOk c (tWhile tt tb) (sWh is t b) := fun e adr S σ H ρ o D I h w => by
  obtain ⟨n, h⟩ := whD_inv h
  refine ⟨fun m σc Hc => ∃ adrc Sc ρc, Ok c e adrc Sc σc Hc ρc ∧ whN t (sFg is b) m ρc Sc = some o, ⟨n, adr, S, wipeE ρ is, I.fg is, h⟩, fun m σc Hc hW => ?_⟩
  obtain ⟨adrc, Sc, ρc, Ic, ec⟩ := hW
  cases m with
  | zero => cases ec
  | succ m =>
    simp only [whN, Option.bind_eq_some_iff] at ec
    obtain ⟨⟨k, S1⟩, e1, e2⟩ := ec
    refine vt _ adrc Sc σc Hc ρc k S1 _ Ic.eok e1 fun adr1 H1 x1 s1 => ?_
    have I1 := Ic.extE x1 s1
    cases k with
    | false =>
      cases e2
      exact iteF (w adr1 σc H1 I1)
    | true =>
      simp only [if_pos, Option.bind_eq_some_iff] at e2
      obtain ⟨o1, e3, e4⟩ := e2
      refine iteT ⟨fun σn Hn => ∃ adrc Sc ρc, Ok c e adrc Sc σn Hn ρc ∧ whN t (sFg is b) m ρc Sc = some o, fun σn Hn hn => ⟨m, Nat.lt_succ_self m, hn⟩, ?_⟩
      refine sv_fg (is := is) vb e adr1 S1 σc H1 ρc o1 _ I1 e3 ?_
      cases o1 with
      | nx ρ' S' => exact fun adr' σ' H2 I' => ⟨adr', S', ρ', I', e4⟩
      | ct ρ' S' => exact fun adr' σ' H2 I' => ⟨adr', S', ρ', I', e4⟩
      | bk ρ' S' => cases e4; exact w
      | rt d S' => cases e4; exact w
theorem ds_wh {is : List Nat} {t : Expr} {body : List Stmt} {tv : Tv} {b : Sv} (ht : DT c t tv) (hb : DSs c body b) : DS c (.While t body [] pos) (sWh is tv b) := by
  obtain ⟨tt, pt, vt⟩ := ht
  obtain ⟨tb, pb, vb⟩ := hb
  exact ⟨_, fun X hX => ps_while (by rw [hX.xe]; exact PassesOwn.never) (pt X hX) (pb X hX), sv_wh vt vb⟩
end
end DL
namespace DL
open PySem PySem.Spec L2
open PyProof.Rows hiding St
/-! ### defs -/
/-- what of a context a promise leans on -/
def Cxt.c0 (c : Cxt) : Cxt := { c with N := [], sc := { kind := .function, names := [], isGenerator := false, isCoroutine := false }, k := 0, fn := fun _ => false }
/-- a def that is asked with data and gives data -/
def SpP (f : List PyData → Option PyData) : Sp := fun vs H Q _ => ∃ (L : AdP) (ds : List PyData) (d : PyData), (∀ a, L a → Nt H a) ∧ AtL H L vs ds ∧ f ds = some d ∧ ∀ v H', (∀ a o, H a = some o → H' a = some o) → At H' L v d → Q v H'
/-- .. that may change cells -/
def SpG (c : Cxt) (F : List D → Sto → Option (D × Sto)) : Sp := fun vs H Q _ => ∃ (Lf : AdP) (adr : Nat → Addr) (S : Sto) (ds : List D) (d : D) (S' : Sto), StOk c Lf adr S H ∧ DRL c.K H (Lvv Lf adr S) Lf (LvC adr S) adr S.length vs ds ∧ F ds S = some (d, S') ∧
  ∀ v adr' H', Ext adr S H adr' S' H' → StOk c Lf adr' S' H' → DR c.K H' (Lvv Lf adr' S') Lf (LvC adr' S') adr' S'.length v d → Q v H'
/-- an argument in its slot: what the caller owns is only read -/
def inS : D → D
  | .o m => .f m
  | d => d
/-- n parameters, N slots -/
def runG (n N : Nat) (b : Sv) (ds : List D) (S : Sto) : Option (D × Sto) := if ds.length = n then match b (ds.map (fun d => some (inS d)) ++ List.replicate (N - n) none) S with
    | some (.rt d S') => some (d, S')
    | some (.nx _ S') => some (.p .none, S')
    | _ => none
  else none
def runP (n N : Nat) (b : Sv) (ds : List PyData) : Option PyData := match runG n N b (ds.map .p) [] with | some (.p d, _) => some d | _ => none
section
variable {P : Program} {w : World} {K : PySem.W.Frag} {mg : Str → Option Value} {base : Heap}
theorem DRL.length {K : PySem.W.Frag} {H : Hp} {L Lf C : AdP} {adr : Nat → Addr} {n : Nat} : ∀ {vs : List V} {ds : List D}, DRL K H L Lf C adr n vs ds → vs.length = ds.length
  | _, _, .nil => rfl
  | _, _, .cons _ t => congrArg (· + 1) (DRL.length t)
theorem DRL.get {K : PySem.W.Frag} {H : Hp} {L Lf C : AdP} {adr : Nat → Addr} {n : Nat} : ∀ {vs : List V} {ds : List D} {i : Nat} {d : D}, DRL K H L Lf C adr n vs ds → ds[i]? = some d → ∃ v, vs[i]? = some v ∧ DR K H L Lf C adr n v d
  | _, _, _, _, .nil, e => by simp at e
  | _, _, 0, _, .cons r _, e => by simp at e; subst e; exact ⟨_, rfl, r⟩
  | _, _, i + 1, x, .cons _ t, e => by
    obtain ⟨u, h1, h2⟩ := DRL.get (i := i) t (by simpa using e)
    exact ⟨u, by simpa using h1, h2⟩
/-- the state at a def's entry -/
theorem ok_start {c : Cxt} {Lf : AdP} {adr : Nat → Addr} {S : Sto} {H : Hp} {vs : List V} {ds : List D} (s : StOk c Lf adr S H) (r : DRL c.K H (Lvv Lf adr S) Lf (LvC adr S) adr S.length vs ds) (N : List Str) (hN : c.N = N) :
    Ok c ⟨Lf, adr, S, H, H, Lvv Lf adr S⟩ adr S (L2.start N vs) H (ds.map (fun d => some (inS d)) ++ List.replicate (N.length - ds.length) none) := by
  have e1 := r.length
  have slot : ∀ (i : Nat) (d : D), (ds.map (fun d => some (inS d)) ++ List.replicate (N.length - ds.length) none)[i]? = some (some d) → ∃ d', ds[i]? = some d' ∧ d = inS d' ∧ ∃ v, vs[i]? = some v ∧ (L2.start N vs)[i]? = some (some v) ∧ DR c.K H (Lvv Lf adr S) Lf (LvC adr S) adr S.length v d' := by
    intro i d h
    by_cases hi : i < ds.length
    · rw [List.getElem?_append_left (by simpa using hi), List.getElem?_map, List.getElem?_eq_getElem hi] at h
      simp only [Option.map_some, Option.some.injEq] at h
      obtain ⟨v, h1, h2⟩ := r.get (List.getElem?_eq_getElem hi)
      refine ⟨_, List.getElem?_eq_getElem hi, h.symm, v, h1, ?_, h2⟩
      unfold L2.start
      rw [List.getElem?_append_left (by simp; omega), List.getElem?_map, h1]
      rfl
    · rw [List.getElem?_append_right (by simp; omega), List.getElem?_replicate] at h
      split at h <;> cases h
  have noown : ∀ a, ¬ ownA (L2.start N vs) (ds.map (fun d => some (inS d)) ++ List.replicate (N.length - ds.length) none) a := by
    rintro a ⟨i, m, h1, h2⟩
    obtain ⟨d', _, e, _⟩ := slot i _ h1
    cases d' <;> cases e
  have lf : LfN (⟨Lf, adr, S, H, H, Lvv Lf adr S⟩ : En) (L2.start N vs) (ds.map (fun d => some (inS d)) ++ List.replicate (N.length - ds.length) none) = Lf := funext fun a => propext ⟨fun z => z.elim id fun q => (noown a q).elim, .inl⟩
  refine ⟨?_, .refl, fun a z => (noown a z).elim, fun i j m m' a h1 h2 h3 h4 => (noown a ⟨i, m, h1, h3⟩).elim, fun i m a h1 h2 => ?_, s.lf, by rw [lf]; exact .refl⟩
  · rw [lf]
    refine ⟨fun i d h => ?_, s, ?_⟩
    · obtain ⟨d', _, rfl, v, _, h2, r2⟩ := slot i d h
      refine ⟨v, h2, ?_⟩
      cases d' with
      | p d => exact r2
      | c k => exact r2
      | f m => exact r2
      | o m =>
        obtain ⟨a, rfl, l, ob⟩ := r2
        refine ⟨a, rfl, ?_⟩
        have nc : ¬ LvC adr S a := fun z => s.disj a z l
        cases m with
        | list ds => obtain ⟨xs, h, r⟩ := ob; exact ⟨xs, .inl ⟨nc, .inl h⟩, r⟩
        | dict dd =>
          rcases ob with ⟨kvs, h, k, r⟩ | ⟨kvs, h, k, r⟩
          · exact ⟨nc, .inl ⟨kvs, .inl h, k, r⟩⟩
          · exact ⟨nc, .inr ⟨kvs, .inl h, k, r⟩⟩
        | _ => exact ob.elim
    · unfold L2.start
      simp
      omega
  · obtain ⟨d', _, e, v, _, h3, r2⟩ := slot i _ h1
    rw [h3] at h2
    cases h2
    cases d' with
    | p d => cases e
    | c k => cases e
    | o m' =>
      cases e
      obtain ⟨b, e2, l, ob⟩ := r2
      cases e2
      exact .inl ob.some
    | f m' =>
      cases e
      obtain ⟨b, e2, ob⟩ := r2
      cases e2
      cases m with
      | list ds =>
        obtain ⟨xs, h | h, r⟩ := ob
        · exact .inl (rd_some h.2)
        · exact .inr ⟨xs, h, r⟩
      | dict dd =>
        obtain ⟨_, ⟨_, h, _⟩ | ⟨_, h, _⟩⟩ := ob
        · exact .inl (rd_some h)
        · exact .inl (rd_some h)
      | _ => exact ob.elim
/-- the context of a def's body -/
def cxD (P : Program) (w : World) (K : PySem.W.Frag) (mg : Str → Option Value) (base : Heap) (N : List Str) (st : Stmt) (k : Nat) : Cxt := ⟨P, w, K, mg, base, N, defScope st, k, fun _ => true⟩
theorem fn_gen {x qual : Str} {st : Stmt} {f : Addr} {fd : FuncData} {N ps : List Str} {k : Nat} {b : Sv} (F : Fun K x qual st f fd) (S : FnScope N ps (defScope st)) (h : DSs (cxD P w K mg base N st k) (defBody st) b) {c : Cxt} (hK : c.K = K) (hm : c.mg = mg) :
    FnOk P w K mg base CX0 (k + 1) f fd ps (SpG c (runG ps.length N.length b)) := by
  have len : ∀ vs H Q E, SpG c (runG ps.length N.length b) vs H Q E → vs.length = ps.length := by
    rintro vs H Q E ⟨Lf, adr, S, ds, d, S', s, r, e, _⟩
    unfold runG at e
    split at e
    · rename_i hl
      rw [r.length, hl]
    · cases e
  obtain ⟨t, p, v⟩ := h
  refine F.ok S len fun cdv A outer s H vs Q E hr hsp => ?_
  obtain ⟨Lf, adr, S0, ds, d, S', sto, r, e, q⟩ := hsp
  refine ⟨t, p _ ⟨rfl, rfl, rfl, rfl, rfl, rfl, rfl, rfl, rfl, hr, rfl⟩, ?_⟩
  unfold runG at e
  split at e
  · rename_i hl
    have sto' : StOk (cxD P w K mg base N st k) Lf adr S0 H := StOk.cx (c := c) hK.symm hm.symm sto
    have r' : DRL (cxD P w K mg base N st k).K H (Lvv Lf adr S0) Lf (LvC adr S0) adr S0.length vs ds := by
      have : (cxD P w K mg base N st k).K = c.K := hK.symm
      rw [this]; exact r
    have I := ok_start sto' r' N rfl
    rw [hl] at I
    have fin : ∀ (v : V) adr' S1 H', Ext adr S0 H adr' S1 H' → StOk (cxD P w K mg base N st k) Lf adr' S1 H' → ∀ d1, DR (cxD P w K mg base N st k).K H' (Lvv Lf adr' S1) Lf (LvC adr' S1) adr' S1.length v d1 → (d1, S1) = (d, S') → Q v H' := fun v adr' S1 H' x s' d1 r1 e1 => by
      cases e1
      have : (cxD P w K mg base N st k).K = c.K := hK.symm
      rw [this] at r1
      exact q v adr' H' x (StOk.cx (c := cxD P w K mg base N st k) hK hm s') r1
    cases ho : b (ds.map (fun d => some (inS d)) ++ List.replicate (N.length - ps.length) none) S0 with
    | none => rw [ho] at e; cases e
    | some o =>
      rw [ho] at e
      refine v _ adr S0 _ H _ o _ I ho ?_
      cases o with
      | nx ρ' S1 =>
        simp only [Option.some.injEq] at e
        exact fun adr' σ' H' I' => fin .non adr' S1 H' I'.ext I'.eok.sto.ret (.p .none) At.non e
      | rt d1 S1 =>
        simp only [Option.some.injEq] at e
        exact fun v adr' H' x s' _ r1 => fin v adr' S1 H' x s' d1 r1 e
      | bk ρ' S1 => cases e
      | ct ρ' S1 => cases e
  · cases e
theorem drl_p {K : PySem.W.Frag} {H : Hp} {L Lf C : AdP} {adr : Nat → Addr} {n : Nat} : ∀ {vs : List V} {ds : List PyData}, AtL H L vs ds → DRL K H L Lf C adr n vs (ds.map .p)
  | _, _, .nil => .nil
  | _, _, .cons a b => .cons a (drl_p b)
theorem lvv_nil {L : AdP} {adr : Nat → Addr} : Lvv L adr [] = L := funext fun a => propext ⟨fun z => z.elim id fun ⟨k, mo, e, _⟩ => by simp at e, .inl⟩
/-- .. asked with data alone -/
theorem sp_pure {c : Cxt} {n N : Nat} {b : Sv} {vs : List V} {H : Hp} {Q : VK} {E : XK} (h : SpP (runP n N b) vs H Q E) : SpG c (runG n N b) vs H Q E := by
  obtain ⟨L, ds, d, hl, r, e, q⟩ := h
  unfold runP at e
  split at e
  · rename_i d' S' hg
    cases e
    refine ⟨L, fun _ => 0, [], ds.map .p, .p d, S', ⟨fun j k mo mo' h => by simp at h, fun k mo h => by simp at h, fun a ⟨k, mo, h, _⟩ => by simp at h, hl⟩, by rw [lvv_nil]; exact drl_p r, hg, fun v adr' H' x s r1 => ?_⟩
    refine q v H' (fun a o h => x.keep a o h fun ⟨k, mo, z, _⟩ => by simp at z) (At.tr (fun a _ n => ⟨.of fun _ q => q, fun z => n (.inl z)⟩) d r1)
  · cases e
/-- a def that is known: its promise, where it stands -/
structure Kn (c : Cxt) (x : Str) (k : Nat) (sp : Sp) : Prop where
  ex : ∃ fa fd ps, FnOk c.P c.w c.K c.mg c.base CX0 k fa fd ps sp ∧ c.mg x = some (.ref fa) ∧ PySem.W.keepIn c.K (.ref fa) = true ∧ Binds c.K fd ps []
end
section
variable {c : Cxt} {Lf : AdP} {adr : Nat → Addr} {S : Sto} {H : Hp} {σ : L2.St} {ρ : Env'} {pos : Pos} {es : List Expr} {fs : Av}
def eCP (f : List PyData → Option PyData) (fs : Av) : Ev := fun ρ S => (fs ρ S).bind fun p => (pvs p.1).bind fun ds => (f ds).bind fun r => some (.p r, p.2)
def eCG (F : List D → Sto → Option (D × Sto)) (fs : Av) : Ev := fun ρ S => (fs ρ S).bind fun p => F p.1 p.2
theorem ev_cp {f : List PyData → Option PyData} {t : TA} (h : AvOk c t fs) : EvOk c (tCall (SpP f) [] E0 t) (eCP f fs) := fun Lf adr S σ H ρ d S' Q I e w => by
  unfold eCP at e
  simp only [Option.bind_eq_some_iff] at e
  obtain ⟨⟨x, S1⟩, e1, ds, e2, r, e3, e4⟩ := e
  cases e4
  refine h Lf adr S σ H ρ _ _ _ I e1 fun us adr1 H1 x1 s1 r1 => ?_
  rw [List.append_nil]
  exact ⟨_, ds, r, fun a z => s1.lvo z, pvs_ok r1 e2, e3, wi_gr s1 (w.trans x1)⟩
theorem ev_cg {F : List D → Sto → Option (D × Sto)} {t : TA} (h : AvOk c t fs) : EvOk c (tCall (SpG c.c0 F) [] E0 t) (eCG F fs) := fun Lf adr S σ H ρ d S' Q I e w => by
  unfold eCG at e
  obtain ⟨⟨x, S1⟩, e1, e2⟩ := Option.bind_eq_some_iff.mp e
  refine h Lf adr S σ H ρ _ _ _ I e1 fun us adr1 H1 x1 s1 r1 => ?_
  rw [List.append_nil]
  exact ⟨Lf, adr1, S1, x, d, S', StOk.cx (c := c) rfl rfl s1, r1, e2, fun v adr' H' x2 s2 r2 => w v adr' H' (x1.trans x2) (StOk.cx (c := c.c0) rfl rfl s2) r2⟩
theorem de_call {sp : Sp} {k : Nat} {x : Str} {p : Pos} {e : Expr} {f : Ev} (kn : Kn c x k sp) (hk : k ≤ c.k) (hg : c.sc.names.lookup x = some .globalImplicit) (ha : DA c (e :: es) fs) (hv : ∀ t, AvOk c t fs → EvOk c (tCall sp [] E0 t) f)
    (hdb : (x == ("__debug__" : Str)) = false) (hst : noStar (e :: es) = true) : DE c (.Call (.Name x p) (e :: es) [] pos) f := by
  obtain ⟨fa, fd, ps, F, hm, hkp, hb⟩ := kn.ex
  obtain ⟨t, pa, va⟩ := ha
  refine ⟨_, fun X hX => ?_, hv t va⟩
  have F' : FnOk X.prog X.w X.K X.mg X.base CX0 k fa fd ps sp := by rw [hX.prog, hX.w, hX.K, hX.mg, hX.base]; exact F
  exact pe_call F' (hX.room.mono hk) (show Gl X x by show X.env.scope.names.lookup x = _; rw [hX.sc]; exact hg) (by rw [hX.mg]; exact hm) (by rw [hX.K]; exact hkp) (by rw [hX.K]; exact hb) .nil pass0 (pa X hX) hdb (star_cons hst) (star_any (star_tl hst))
theorem de_callP {f : List PyData → Option PyData} {k : Nat} {x : Str} {p : Pos} {e : Expr} (kn : Kn c x k (SpP f)) (hk : k ≤ c.k) (hg : c.sc.names.lookup x = some .globalImplicit) (ha : DA c (e :: es) fs)
    (hdb : (x == ("__debug__" : Str)) = false) (hst : noStar (e :: es) = true) : DE c (.Call (.Name x p) (e :: es) [] pos) (eCP f fs) := de_call kn hk hg ha (fun t va => ev_cp va) hdb hst
theorem de_callG {F : List D → Sto → Option (D × Sto)} {k : Nat} {x : Str} {p : Pos} {e : Expr} (kn : Kn c x k (SpG c.c0 F)) (hk : k ≤ c.k) (hg : c.sc.names.lookup x = some .globalImplicit) (ha : DA c (e :: es) fs)
    (hdb : (x == ("__debug__" : Str)) = false) (hst : noStar (e :: es) = true) : DE c (.Call (.Name x p) (e :: es) [] pos) (eCG F fs) := de_call kn hk hg ha (fun t va => ev_cg va) hdb hst
/-- f() -/
theorem de_call0 {f : List PyData → Option PyData} {k : Nat} {x : Str} {p : Pos} (kn : Kn c x k (SpP f)) (hk : k ≤ c.k) (hg : c.sc.names.lookup x = some .globalImplicit) (hdb : (x == ("__debug__" : Str)) = false) : DE c (.Call (.Name x p) [] [] pos) (eCP f aNil) := by
  obtain ⟨fa, fd, ps, F, hm, hkp, hb⟩ := kn.ex
  obtain ⟨t, pa, va⟩ := (da_nil : DA c [] aNil)
  refine ⟨tCall (SpP f) [] E0 tNil, fun X hX => ?_, ev_cp fun Lf adr S σ H ρ ds S' Q I e w => by cases e; exact w [] adr H .refl I.sto .nil⟩
  have F' : FnOk X.prog X.w X.K X.mg X.base CX0 k fa fd ps (SpP f) := by rw [hX.prog, hX.w, hX.K, hX.mg, hX.base]; exact F
  exact pe_call0 F' (hX.room.mono hk) (show Gl X x by show X.env.scope.names.lookup x = _; rw [hX.sc]; exact hg) (by rw [hX.mg]; exact hm) (by rw [hX.K]; exact hkp) (by rw [hX.K]; exact hb) .nil pass0 hdb
/-- what is known elsewhere -/
theorem Kn.blk {x : Str} {k : Nat} {sp : Sp} {scope : Scope} (h : Kn c x k sp) : Kn (c.blk scope) x k sp := ⟨h.ex⟩

end
end DL
namespace DL
open PySem PySem.Spec L2
open PyProof.Rows hiding St
section
variable {c : Cxt} {e : En} {Lf : AdP} {adr : Nat → Addr} {S : Sto} {H : Hp} {L : AdP} {σ : L2.St} {ρ : Env'} {a b : Expr} {fa fb : Ev} {pos : Pos} {es : List Expr} {fs : Av}
/-! ### isinstance -/
def tyS : PyData → String
  | .none => "NoneType"
  | .bool _ => "bool"
  | .int _ => "int"
  | .str _ => "str"
  | .list _ => "list"
  | .tuple _ => "tuple"
  | .dict _ => "dict"
def isaN (T : String) (d : PyData) : Option PyData := match d with
  | .dict _ => none
  | d => (kitB (tyS d) T).map .bool
theorem vw_ty {K : PySem.W.Frag} {v : V} {d : PyData} (h : Vw K H L v d) (hd : ∀ dd, d ≠ .dict dd) : TyX K H v (.type (tyS d)) := by
  cases h with
  | dat h =>
    cases h with
    | non => exact .base .non
    | bl b => exact .base (.bl b)
    | int i => exact .base (.int i)
    | str i => exact .base (.str i)
    | lst n e r => exact .base (.lst e)
    | tup n e r => exact .base (.tup e)
    | dK _ _ _ _ => exact absurd rfl (hd _)
    | dT _ _ _ _ => exact absurd rfl (hd _)
  | @ob a m h =>
    cases d with
    | list ds =>
      obtain ⟨xs, h | h, r⟩ := h
      · rcases h with h | ⟨o, h⟩
        · exact .base (.lst h)
        · exact .base (.frz h)
      · obtain ⟨o, its, n, q1, q2, _⟩ := h
        exact .kList q1 q2
    | dict dd => exact absurd rfl (hd _)
    | none => exact h.elim
    | bool => exact h.elim
    | int => exact h.elim
    | str => exact h.elim
    | tuple => exact h.elim
def eIsa (T : String) (fa : Ev) : Ev := fun ρ S => (fa ρ S).bind fun p => (vw p.2 p.1).bind fun d => (isaN T d).bind fun r => some (.p r, p.2)
theorem de_isa {T : String} {x y : Str} {p q : Pos} (hx : x = ("isinstance" : Str)) (hg : c.sc.names.lookup x = some .globalImplicit) (hm : c.mg x = none)
    (hg2 : c.sc.names.lookup y = some .globalImplicit) (hm2 : c.mg y = none) (hv : bootBuiltins y = some (.type T)) (ha : DE c a fa) (hn : y ≠ "__name__") (hdb : (y == ("__debug__" : Str)) = false)
    (hst : noStar [a, .Name y q] = true) : DE c (.Call (.Name x p) [a, .Name y q] [] pos) (eIsa T fa) := by
  subst hx
  obtain ⟨ta, pa, va⟩ := ha
  refine ⟨tCB (rIsi c.K) (tCons ta (tCons (tC (.ty T)) tNil)), fun X hX => ?_, fun Lf adr S σ H ρ d S' Q I e w => ?_⟩
  · have h := pe_callB (p := p) (pos := pos) (call_isi (X := X)) (show Gl X "isinstance" by show X.env.scope.names.lookup _ = _; rw [hX.sc]; exact hg) (by rw [hX.mg]; exact hm) PyProof.Rows.boot_isinstance
      (pa_cons (pa X hX) (pa_cons (pe_bltn (pos := q) (v := .ty T) (show Gl X y by show X.env.scope.names.lookup _ = _; rw [hX.sc]; exact hg2) (by rw [hX.mg]; exact hm2) hv rfl hn hdb) pa_nil rfl) (star_cons hst)) (by decide) (by decide) (star_cons hst) (star_any (star_tl hst))
    rw [hX.K] at h
    exact h
  · unfold eIsa at e
    simp only [Option.bind_eq_some_iff] at e
    obtain ⟨⟨x, S1⟩, e1, m, e2, r, e3, e4⟩ := e
    cases e4
    refine va Lf adr S σ H ρ _ _ _ I e1 fun v adr1 H1 x1 s1 r1 => ?_
    have hv := vw_ok s1 r1 e2
    have hd : ∀ dd, m ≠ .dict dd := fun dd z => by subst z; cases e3
    have e5 : ∃ k, kitB (tyS m) T = some k ∧ r = .bool k := by
      unfold isaN at e3
      cases m with
      | dict dd => cases e3
      | _ =>
        obtain ⟨k, q1, q2⟩ := Option.map_eq_some_iff.mp e3
        exact ⟨k, q1, q2.symm⟩
    obtain ⟨k, e6, rfl⟩ := e5
    exact ⟨v, .ty T, _, _, k, rfl, .ty T, vw_ty hv hd, kit_ty e6, w _ adr1 H1 x1 s1 (.bl k)⟩

/-! ### in place -/
theorem iop_addI {X : Cx} : OpR X (inplaceOp .Add) (rD X.K addI) := opEq (opInt0 (g' := fun i j => .int (i + j)) (fun i j H L => .int _) iop_add) fun a b r q => by cases a <;> cases b <;> first | exact q | cases q
theorem iop_subI {X : Cx} : OpR X (inplaceOp .Sub) (rD X.K subD) := opEq (opInt0 (g' := fun i j => .int (i - j)) (fun i j H L => .int _) (fun pins s σ H x y v u Q I rx ry h => by
  obtain ⟨i, j, rfl, rfl, q⟩ := h
  exact ip_sub pins s σ H _ _ v u Q I rx ry ⟨i, j, rfl, rfl, q⟩)) fun a b r q => by cases a <;> cases b <;> first | exact q | cases q

/-! ### fresh lists by operators -/
/-- a list that is not locked, nor the module's -/
def vw1 (S : Sto) : D → Option PyData
  | .p d => some d
  | .o m => some m
  | .f _ => none
  | .c k => match S[k]? with | some (some (.d m)) => some m | _ => none
inductive Vw1 (H : Hp) (L : AdP) : V → PyData → Prop
  | dat {v : V} {d : PyData} : At H L v d → Vw1 H L v d
  | ob {a : Addr} {m : PyData} : Ob H L a m → Vw1 H L (.ref a) m
theorem vw1_ok (s : StOk c Lf adr S H) {v : V} {d : D} {m : PyData} (r : DR c.K H (Lvv Lf adr S) Lf (LvC adr S) adr S.length v d) (e : vw1 S d = some m) : Vw1 H (Lvv Lf adr S) v m := by
  cases d with
  | p d => cases e; exact .dat r
  | o m' => cases e; obtain ⟨a, rfl, _, h⟩ := r; exact .ob h
  | f m' => cases e
  | c k =>
    obtain ⟨rfl, hk⟩ := r
    have e : (match S[k]? with | some (some (.d m)) => some m | _ => none) = some m := e
    split at e
    · rename_i m' hm
      cases e
      exact .ob (s.ob k _ hm)
    · cases e
theorem Vw1.list_inv {v : V} {ds : List PyData} (h : Vw1 H L v (.list ds)) : ∃ a xs, v = .ref a ∧ H a = some (.lst xs) ∧ AtL H L xs ds := by
  cases h with
  | dat h => cases h with | lst n e r => exact ⟨_, _, rfl, e, r⟩
  | ob h => obtain ⟨xs, h, r⟩ := h; exact ⟨_, _, rfl, h, r⟩
theorem Vw1.int_inv {v : V} {i : Int} (h : Vw1 H L v (.int i)) : v = .int i := by
  cases h with
  | dat h => cases h; rfl
  | ob h => exact h.elim
def rDL (op : PyData → PyData → Option (List PyData)) : R2 := fun x y H Q => ∃ (L : AdP) (a b : PyData) (r : List PyData), (∀ z, L z → H z ≠ none) ∧ Vw1 H L x a ∧ Vw1 H L y b ∧ op a b = some r ∧ GrL H L Q r
def lE2 (f : PyData → PyData → Option (List PyData)) (fa fb : Ev) : Lsv := fun ρ S => (fa ρ S).bind fun p => (fb ρ p.2).bind fun q => (vw1 q.2 p.1).bind fun a => (vw1 q.2 q.1).bind fun b => (f a b).bind fun r => some (r, q.2)
theorem dl_op {op : Operator} {f : PyData → PyData → Option (List PyData)} (ho : ∀ X, InC c X → OpR X (binaryOp op) (rDL f)) (ha : DE c a fa) (hb : DE c b fb) : DLs c (.BinOp a op b pos) (lE2 f fa fb) := by
  obtain ⟨ta, pa, va⟩ := ha
  obtain ⟨tb, pb, vb⟩ := hb
  refine ⟨_, fun X hX => pe_op (pos := pos) (ho X hX) (pa X hX) (pb X hX), fun Lf adr S σ H ρ d S' Q I e w => ?_⟩
  unfold lE2 at e
  simp only [Option.bind_eq_some_iff] at e
  obtain ⟨⟨x, S1⟩, e1, ⟨y, S2⟩, e2, m, e3, n, e4, r, e5, e6⟩ := e
  cases e6
  refine va Lf adr S σ H ρ x S1 _ I e1 fun v adr1 H1 x1 s1 r1 => ?_
  refine vb Lf adr1 S1 σ H1 ρ y S2 _ (I.ext x1 s1) e2 fun u adr2 H2 x2 s2 r2 => ?_
  exact ⟨_, m, n, _, fun z => s2.lvv, vw1_ok s2 (r1.ext0 s1 x2) e3, vw1_ok s2 r2 e4, e5, wi_grL s2 (w.trans (x1.trans x2))⟩
def addL (a b : PyData) : Option (List PyData) := match a, b with | .list xs, .list ys => if xs.length + ys.length ≤ sizeLine then some (xs ++ ys) else none | _, _ => none
def mulL (a b : PyData) : Option (List PyData) := match a, b with | .list xs, .int k => if -(2 ^ 63) ≤ k ∧ k < 2 ^ 63 ∧ xs.length * k.toNat ≤ sizeLine then some (List.replicate k.toNat xs).flatten else none | _, _ => none
theorem AtL.rep {xs : List V} {ds : List PyData} (h : AtL H L xs ds) : ∀ n, AtL H L (List.replicate n xs).flatten (List.replicate n ds).flatten
  | 0 => .nil
  | n + 1 => by
    rw [List.replicate_succ, List.replicate_succ, List.flatten_cons, List.flatten_cons]
    exact h.append (AtL.rep h n)
theorem ho_addL {X : Cx} : OpR X (binaryOp .Add) (rDL addL) := by
  intro pins s σ H x y v u Q I rx ry hq
  obtain ⟨L, a, b, r, hl, ha, hb, e, q⟩ := hq
  unfold addL at e
  split at e
  · rename_i ds es
    split at e
    · rename_i hz
      cases e
      obtain ⟨a1, xs, rfl, h1, r1⟩ := ha.list_inv
      obtain ⟨b1, ys, rfl, h2, r2⟩ := hb.list_inv
      have l1 := r1.length
      have l2 := r2.length
      exact op_cat pins s σ H _ _ v u Q I rx ry ⟨a1, b1, xs, ys, rfl, rfl, h1, h2, by omega, fun p hp => q p _ _ hp (upd_grow hp) upd_same (r1.append r2)⟩
    · cases e
  · cases e
theorem ho_mulL {X : Cx} : OpR X (binaryOp .Mult) (rDL mulL) := by
  intro pins s σ H x y v u Q I rx ry hq
  obtain ⟨L, a, b, r, hl, ha, hb, e, q⟩ := hq
  unfold mulL at e
  split at e
  · rename_i ds k
    split at e
    · rename_i hz
      cases e
      obtain ⟨a1, xs, rfl, h1, r1⟩ := ha.list_inv
      have eb := hb.int_inv
      subst eb
      have l1 := r1.length
      exact op_rep pins s σ H _ _ v u Q I rx ry ⟨a1, k, xs, rfl, rfl, h1, hz.1, hz.2.1, by rw [l1]; exact hz.2.2, fun p hp => q p _ _ hp (upd_grow hp) upd_same (r1.rep _)⟩
    · cases e
  · cases e
/-! ### fresh objects -/
abbrev Fsv := Env' → Sto → Option (PyData × Sto)
abbrev WiF (c : Cxt) (Lf : AdP) (adr : Nat → Addr) (S : Sto) (H : Hp) (Q : VK) (m : PyData) (S' : Sto) : Prop :=
  ∀ p adr' H', Ext adr S H adr' S' H' → StOk c (fun a => Lf a ∨ a = p) adr' S' H' → H p = none → Ob H' (Lvv (fun a => Lf a ∨ a = p) adr' S') p m → Q (.ref p) H'
def FvOk (c : Cxt) (t : TE) (f : Fsv) : Prop := ∀ Lf adr S σ H ρ m S' (Q : VK), EOk c Lf adr S σ H ρ → f ρ S = some (m, S') → WiF c Lf adr S H Q m S' → t σ H Q
def DF (c : Cxt) (e : Expr) (f : Fsv) : Prop := ∃ t, (∀ X, InC c X → PE X e t) ∧ FvOk c t f
def fL (f : Lsv) : Fsv := fun ρ S => (f ρ S).bind fun p => some (.list p.1, p.2)
theorem fv_l {t : TE} {f : Lsv} (v : LvOk c t f) : FvOk c t (fL f) := fun Lf adr S σ H ρ m S' Q I e w => by
  unfold fL at e
  obtain ⟨⟨ds, S1⟩, e1, e2⟩ := Option.bind_eq_some_iff.mp e
  cases e2
  exact v Lf adr S σ H ρ ds S1 Q I e1 fun p ws adr' H' x s hp hw r => w p adr' H' x s hp ⟨ws, hw, r⟩
theorem df_l {f : Lsv} (h : DLs c a f) : DF c a (fL f) := let ⟨t, p, v⟩ := h; ⟨t, p, fv_l v⟩
/-- .. as data -/
def eF (f : Fsv) : Ev := fun ρ S => (f ρ S).bind fun p => some (.p p.1, p.2)
theorem ev_f {t : TE} {f : Fsv} (v : FvOk c t f) : EvOk c t (eF f) := fun Lf adr S σ H ρ d S' Q I e w => by
  unfold eF at e
  obtain ⟨⟨m, S1⟩, e1, e2⟩ := Option.bind_eq_some_iff.mp e
  cases e2
  refine v Lf adr S σ H ρ _ _ _ I e1 fun p adr' H' x s n ob => ?_
  have nl : ¬ Lf p := fun z => I.sto.lf p z n
  have nc : ¬ LvC adr' S1 p := fun z => s.disj p z (.inr rfl)
  refine w _ adr' H' x (s.weak fun a z => .inl z) (ob_at (fun z => z.elim nl nc) (ob.tr (fun z h1 h2 => ⟨.of fun o q => q, fun h3 => h2 (h3.imp .inl id)⟩) fun _ q => q))
theorem de_f {f : Fsv} (h : DF c a f) : DE c a (eF f) := let ⟨t, p, v⟩ := h; ⟨t, p, ev_f v⟩
/-- x = a fresh object, owned -/
def sOwnF (i : Nat) (f : Fsv) : Sv := fun ρ S => (f ρ S).bind fun p => if i < ρ.length then some (.nx (ρ.set i (some (.o p.1))) p.2) else none
theorem sv_ownF {i : Nat} {t : TE} {f : Fsv} (v : FvOk c t f) : SvOk c (tAsg t (gName i)) (sOwnF i f) := fun e adr S σ H ρ o D I h w => by
  unfold sOwnF at h
  obtain ⟨⟨m, S1⟩, e1, e2⟩ := Option.bind_eq_some_iff.mp h
  split at e2
  · rename_i hl
    cases e2
    exact v _ adr S σ H ρ m S1 _ I.eok e1 fun p adr' H' x s hp ob => w adr' _ H' (I.own x s hp ob hl)
  · cases e2
theorem ds_ownF {i : Nat} {x : Str} {f : Fsv} {p : Pos} (hN : c.N.Nodup) (hi : c.N[i]? = some x) (hx : Loc c.sc x) (hf : c.fn x = true ∨ c.sc.names.lookup x = some .local) (ha : DF c a f) (hs : ∀ X, InC c X → swapsWith a (some (.Name x p)) pos.line X.env = pure false) :
    DS c (.Assign [.Name x p] a pos) (sOwnF i f) := by
  obtain ⟨ta, pa, va⟩ := ha
  exact ⟨tAsg ta (gName i), fun X hX => ps_set (by rw [hX.N]; exact hN) (by rw [hX.N]; exact hi) (by rw [hX.sc]; exact hx) (pa X hX) (hs X hX) (by rw [hX.fn, hX.sc]; exact hf), sv_ownF va⟩
/-- a new cell -/
theorem Ok.cell {H' : Hp} {adr' : Nat → Addr} {S' : Sto} {i : Nat} {p : Addr} {m : PyData} (I : Ok c e adr S σ H ρ) (x : Ext adr S H adr' S' H') (s : StOk c (fun a => LfN e σ ρ a ∨ a = p) adr' S' H') (hp : H p = none) (ob : Ob H' (Lvv (fun a => LfN e σ ρ a ∨ a = p) adr' S') p m) (hl : i < ρ.length) :
    ∃ adr'', Ok c e adr'' (S' ++ [some (.d m)]) (σ.set i (some (.ref p))) H' (ρ.set i (some (.c S'.length))) := by
  let adr'' : Nat → Addr := fun k => if k = S'.length then p else adr' k
  have ad : ∀ k, k < S'.length → adr'' k = adr' k := fun k h => if_neg (Nat.ne_of_lt h)
  have adl : adr'' S'.length = p := if_pos rfl
  have get : ∀ k mo, (S' ++ [some (.d m)])[k]? = some (some mo) → (k < S'.length ∧ S'[k]? = some (some mo)) ∨ (k = S'.length ∧ mo = .d m) := fun k mo h => by
    by_cases hk : k < S'.length
    · rw [List.getElem?_append_left hk] at h
      exact .inl ⟨hk, h⟩
    · rw [List.getElem?_append_right (by omega)] at h
      have : k - S'.length = 0 := by
        cases q : k - S'.length with
        | zero => rfl
        | succ n => rw [q] at h; simp at h
      rw [this] at h
      simp at h
      exact .inr ⟨by omega, h.symm⟩
  have lv : ∀ a, LvC adr'' (S' ++ [some (.d m)]) a ↔ (LvC adr' S' a ∨ a = p) := fun a => by
    constructor
    · rintro ⟨k, mo, h, rfl⟩
      rcases get k mo h with ⟨hk, h⟩ | ⟨rfl, rfl⟩
      · exact .inl ⟨k, mo, h, (ad k hk).symm⟩
      · exact .inr adl
    · rintro (⟨k, mo, h, rfl⟩ | rfl)
      · have hk : k < S'.length := (List.getElem?_eq_some_iff.mp h).1
        exact ⟨k, mo, by rw [List.getElem?_append_left hk]; exact h, ad k hk⟩
      · exact ⟨S'.length, _, by rw [List.getElem?_append_right (Nat.le_refl _), Nat.sub_self]; rfl, adl⟩
  have nLp : ∀ a, LfN e σ ρ a → a ≠ p := fun a z h => I.eok.sto.lf a z (by rw [h]; exact hp)
  have nCp : ¬ LvC adr' S' p := fun z => s.disj p z (.inr rfl)
  have np' : H' p ≠ none := s.lf p (.inr rfl)
  -- the live: the same
  have lvv : Lvv (LfN e σ ρ) adr'' (S' ++ [some (.d m)]) = Lvv (fun a => LfN e σ ρ a ∨ a = p) adr' S' := funext fun a => propext (by
    show (LfN e σ ρ a ∨ LvC adr'' _ a) ↔ ((LfN e σ ρ a ∨ a = p) ∨ LvC adr' S' a)
    rw [lv a]
    exact ⟨fun z => z.elim (fun q => .inl (.inl q)) fun q => q.elim .inr fun q => .inl (.inr q), fun z => z.elim (fun q => q.imp id .inr) fun q => .inr (.inl q)⟩)
  have sto : StOk c (LfN e σ ρ) adr'' (S' ++ [some (.d m)]) H' := by
    refine ⟨fun j k mo mo' h1 h2 h3 => ?_, fun k mo h => ?_, fun a h1 h2 => ?_, fun a z => s.lfo a (.inl z)⟩
    · rcases get j mo h1 with ⟨hj, h1⟩ | ⟨rfl, rfl⟩
      · rcases get k mo' h2 with ⟨hk, h2⟩ | ⟨rfl, rfl⟩
        · rw [ad j hj, ad k hk] at h3
          exact s.inj j k mo mo' h1 h2 h3
        · rw [ad j hj, adl] at h3
          exact (nCp ⟨j, mo, h1, h3⟩).elim
      · rcases get k mo' h2 with ⟨hk, h2⟩ | ⟨rfl, rfl⟩
        · rw [ad k hk, adl] at h3
          exact (nCp ⟨k, mo', h2, h3.symm⟩).elim
        · rfl
    · rw [lvv]
      rcases get k mo h with ⟨hk, h⟩ | ⟨rfl, rfl⟩
      · rw [ad k hk]
        exact MOb.tr .refl (by rw [List.length_append]; omega) ad (fun o q => q) (s.ob k mo h)
      · rw [adl]
        exact ob
    · rcases (lv a).mp h1 with z | z
      · exact s.disj a z (.inl h2)
      · exact nLp a h2 z
  have x' : Ext adr S H adr'' (S' ++ [some (.d m)]) H' := by
    refine ⟨by rw [List.length_append]; exact Nat.le_trans x.len (Nat.le_add_right _ _), fun k h => by rw [ad k (Nat.lt_of_lt_of_le h x.len)]; exact x.ad k h, x.keep, x.trk, fun a z => ?_⟩
    rcases (lv a).mp z with z | z
    · exact x.live a z
    · rw [z]; exact .inr hp
  refine ⟨adr'', ?_⟩
  have I1 := I.extE x' sto
  refine I1.set i (v := .ref p) (d := .c S'.length) hl ⟨by rw [adl], by rw [List.length_append]; exact Nat.lt_succ_self _⟩ (fun m z => nomatch z) (fun m z => nomatch z)
/-- x = a fresh object, a cell from now on -/
def sCell (i : Nat) (f : Fsv) : Sv := fun ρ S => (f ρ S).bind fun p => if i < ρ.length then some (.nx (ρ.set i (some (.c p.2.length))) (p.2 ++ [some (.d p.1)])) else none
theorem ds_cell {i : Nat} {x : Str} {f : Fsv} {p : Pos} (hN : c.N.Nodup) (hi : c.N[i]? = some x) (hx : Loc c.sc x) (hf : c.fn x = true ∨ c.sc.names.lookup x = some .local) (ha : DF c a f) (hs : ∀ X, InC c X → swapsWith a (some (.Name x p)) pos.line X.env = pure false) :
    DS c (.Assign [.Name x p] a pos) (sCell i f) := by
  obtain ⟨ta, pa, va⟩ := ha
  refine ⟨tAsg ta (gName i), fun X hX => ps_set (by rw [hX.N]; exact hN) (by rw [hX.N]; exact hi) (by rw [hX.sc]; exact hx) (pa X hX) (hs X hX) (by rw [hX.fn, hX.sc]; exact hf), fun e adr S σ H ρ o D I h w => ?_⟩
  unfold sCell at h
  obtain ⟨⟨m, S1⟩, e1, e2⟩ := Option.bind_eq_some_iff.mp h
  split at e2
  · rename_i hl
    cases e2
    refine va _ adr S σ H ρ m S1 _ I.eok e1 fun p adr' H' x s hp ob => ?_
    obtain ⟨adr'', I'⟩ := I.cell x s hp ob hl
    exact w adr'' _ H' I'
  · cases e2
end
end DL
namespace DL
open PySem PySem.Spec L2
open PyProof.Rows hiding St
/-! ### dicts change -/
/-- in its place, or at the end -/
def putD (dd : List (PyData × PyData)) (k v : PyData) : List (PyData × PyData) := if (dd.any fun p => PyData.eqv p.1 k) = true then dd.map (fun p => if PyData.eqv p.1 k = true then (p.1, v) else p) else dd ++ [(k, v)]
theorem put_rel {κ : Type} [DecidableEq κ] {f : κ → PyData} (hf : ∀ a b, PyData.eqv (f a) (f b) = decide (a = b)) {H : Hp} {L : AdP} {v : V} {d : PyData} (k : κ) (r : At H L v d) {kvs : List (κ × V)} {dd : List (PyData × PyData)}
    (e : dd.map (·.1) = kvs.map (fun p => f p.1)) (h : AtL H L (kvs.map (·.2)) (dd.map (·.2))) : (putD dd (f k) d).map (·.1) = (putK kvs k v).map (fun p => f p.1) ∧ AtL H L ((putK kvs k v).map (·.2)) ((putD dd (f k) d).map (·.2)) := by
  have any : ∀ (kvs : List (κ × V)) (dd : List (PyData × PyData)), dd.map (·.1) = kvs.map (fun p => f p.1) → (dd.any fun p => PyData.eqv p.1 (f k)) = (kvs.any fun p => decide (p.1 = k)) := by
    intro kvs
    induction kvs with
    | nil => intro dd e; cases dd with | nil => rfl | cons _ _ => simp at e
    | cons q kvs ih =>
      intro dd e
      cases dd with
      | nil => simp at e
      | cons p dd =>
        simp only [List.map_cons, List.cons.injEq] at e
        rw [List.any_cons, List.any_cons, ih dd e.2, e.1, hf]
  have mp : ∀ (kvs : List (κ × V)) (dd : List (PyData × PyData)), dd.map (·.1) = kvs.map (fun p => f p.1) → AtL H L (kvs.map (·.2)) (dd.map (·.2)) →
      (dd.map (fun p => if PyData.eqv p.1 (f k) = true then (p.1, d) else p)).map (·.1) = (kvs.map (fun kv => if kv.1 = k then (kv.1, v) else kv)).map (fun p => f p.1) ∧
      AtL H L ((kvs.map (fun kv => if kv.1 = k then (kv.1, v) else kv)).map (·.2)) ((dd.map (fun p => if PyData.eqv p.1 (f k) = true then (p.1, d) else p)).map (·.2)) := by
    intro kvs
    induction kvs with
    | nil => intro dd e h; cases dd with | nil => exact ⟨rfl, .nil⟩ | cons _ _ => simp at e
    | cons q kvs ih =>
      intro dd e h
      cases dd with
      | nil => simp at e
      | cons p dd =>
        simp only [List.map_cons, List.cons.injEq] at e
        cases h with
        | cons h1 h2 =>
          obtain ⟨i1, i2⟩ := ih dd e.2 h2
          simp only [List.map_cons]
          rw [e.1, hf]
          by_cases hq : q.1 = k
          · rw [if_pos (decide_eq_true hq), if_pos hq]
            exact ⟨by rw [i1], .cons r i2⟩
          · rw [if_neg (by rw [decide_eq_false hq]; exact Bool.false_ne_true), if_neg hq]
            exact ⟨by rw [i1, e.1], .cons h1 i2⟩
  unfold putD putK
  rw [any kvs dd e]
  split
  · exact mp kvs dd e h
  · exact ⟨by simp [e], by simpa using h.append (.cons r .nil)⟩
def setD (m k v : PyData) : Option PyData := match m with
  | .list ds => match k with | .int i => (ixN ds.length i).map fun j => .list (ds.set j v) | _ => none
  | .dict dd => if keyOk dd k = true ∧ dd.length < sizeLine then some (.dict (putD dd k v)) else none
  | _ => none
section
variable {X : Cx} {pins : List (Addr × Obj)} {σ : L2.St} {H : Hp} {s : Shared} {L : AdP}
theorem mk_emT {a : Addr} (I : Inv X pins σ H s) (e : H a = some (.dK [])) : Inv X pins σ (upd H a (.dT [])) s := by
  obtain ⟨_, hd, vs, rel, o, es, ep, h1, h2⟩ := dk_of I.hok e
  obtain ⟨o', es', ep', g1, g2, g3, g4, g5, g6⟩ := dK_emptyH I (.inl e)
  refine I.write (x := a) (e := a) (t' := s.toks) (h' := s.heap) (by rw [e]; trivial) (.inl rfl) (fun _ _ _ z => z) ⟨_, h1⟩ ⟨Nat.zero_le _, hd, [], .nil, o', es', ep', g1, g2, g3, g4, g6⟩
theorem mk_emK {a : Addr} (I : Inv X pins σ H s) (e : H a = some (.dT [])) : Inv X pins σ (upd H a (.dK [])) s := by
  obtain ⟨_, hd, vs, rel, o, es, ep, h1, h2⟩ := dt_of I.hok e
  refine I.write (x := a) (e := a) (t' := s.toks) (h' := s.heap) (by rw [e]; trivial) (.inl rfl) (fun _ _ _ z => z) ⟨_, h1⟩ ⟨Nat.zero_le _, hd, [], .nil, dT_emptyO I (.inl e)⟩
def rSetD : TSet := fun x y v H Q => ∃ (L : AdP) (p : Addr) (m kd vd m' : PyData), x = .ref p ∧ L p ∧ Ob H L p m ∧ At H L y kd ∧ At H L v vd ∧ setD m kd vd = some m' ∧ ∀ o, Ob (upd H p o) L p m' → Q (upd H p o)
theorem hs_set (hu : X.A.units + 1 < cLine) : PSet X rSetD := by
  intro pins s σ H x y v xv yv u Q I rx ry rv h
  obtain ⟨L, p, m, kd, vd, m', rfl, hL, ob, ak, av, e, q⟩ := h
  cases m with
  | list ds =>
    unfold setD at e
    cases kd with
    | int i =>
      obtain ⟨j, e1, rfl⟩ := Option.map_eq_some_iff.mp e
      obtain ⟨xs, hx, r⟩ := ob
      cases ak
      exact set_list pins s σ H _ _ v xv yv u Q I rx ry rv ⟨p, xs, i, j, rfl, rfl, hx, by rw [r.length]; exact e1, q _ ⟨_, upd_same, (AtL.set av j r).tr (tr_upd hL)⟩⟩
    | _ => cases e
  | dict dd =>
    unfold setD at e
    simp only at e
    split at e
    · rename_i hc
      cases e
      obtain ⟨h3, hz⟩ := hc
      cases rx
      unfold keyOk at h3
      rw [Bool.or_eq_true, Bool.and_eq_true, Bool.and_eq_true] at h3
      rcases ob with ⟨kvs, eH, ks, r⟩ | ⟨kvs, eH, ks, r⟩
      · have hz' : kvs.length < sizeLine := by have := congrArg List.length ks; simp at this; omega
        rcases h3 with ⟨k1, k2⟩ | ⟨k1, k2⟩
        · obtain ⟨key, rfl⟩ := isKK_key k1
          have ey := at_key ak
          obtain ⟨g1, g2⟩ := put_rel eqv_keyD key av ks r
          exact d_setItem hu I (.inl ⟨kvs, key, eH, ey, hz', rfl⟩) ry rv fun s' I' => ⟨_, I', q _ (.inl ⟨_, upd_same, g1, g2.tr (tr_upd hL)⟩)⟩
        · obtain ⟨key, rfl⟩ := isKT_key k1
          have e0 : kvs = [] ∧ dd = [] := by
            cases dd with
            | nil =>
              cases kvs with
              | nil => exact ⟨rfl, rfl⟩
              | cons p q => simp at ks
            | cons p dd =>
              rw [List.all_cons, Bool.and_eq_true] at k2
              cases kvs with
              | nil => simp at ks
              | cons q kvs =>
                simp only [List.map_cons, List.cons.injEq] at ks
                rw [ks.1, kk_not_kt] at k2
                cases k2.1
          obtain ⟨rfl, rfl⟩ := e0
          cases ak with
          | @tup b xs _ nb eb rb =>
            have exs := at_keys rb
            subst exs
            have I2 := mk_emT I eH
            have hbp : b ≠ p := fun z => nb (by rw [z]; exact hL)
            have ks' : ([] : List (PyData × PyData)).map (·.1) = ([] : List (List Key × V)).map (fun p => keyT p.1) := rfl
            obtain ⟨g1, g2⟩ := put_rel (f := keyT) (fun a b => eqv_keyT a b) key av ks' .nil
            refine d_setItem hu I2 (.inr ⟨[], key, b, upd_same, rfl, by rw [upd_ne hbp]; exact eb, hz', rfl⟩) ry rv fun s' I' => ⟨_, I', ?_⟩
            rw [upd_upd]
            exact q _ (.inr ⟨_, upd_same, g1, g2.tr (tr_upd hL)⟩)
      · have hz' : kvs.length < sizeLine := by have := congrArg List.length ks; simp at this; omega
        rcases h3 with ⟨k1, k2⟩ | ⟨k1, k2⟩
        · obtain ⟨key, rfl⟩ := isKK_key k1
          have ey := at_key ak
          have e0 : kvs = [] ∧ dd = [] := by
            cases dd with
            | nil =>
              cases kvs with
              | nil => exact ⟨rfl, rfl⟩
              | cons p q => simp at ks
            | cons p dd =>
              rw [List.all_cons, Bool.and_eq_true] at k2
              cases kvs with
              | nil => simp at ks
              | cons q kvs =>
                simp only [List.map_cons, List.cons.injEq] at ks
                rw [ks.1, kt_not_kk] at k2
                cases k2.1
          obtain ⟨rfl, rfl⟩ := e0
          have I2 := mk_emK I eH
          have ks' : ([] : List (PyData × PyData)).map (·.1) = ([] : List (Key × V)).map (fun p => keyD p.1) := rfl
          obtain ⟨g1, g2⟩ := put_rel eqv_keyD key av ks' .nil
          refine d_setItem hu I2 (.inl ⟨[], key, upd_same, ey, hz', rfl⟩) ry rv fun s' I' => ⟨_, I', ?_⟩
          rw [upd_upd]
          exact q _ (.inl ⟨_, upd_same, g1, g2.tr (tr_upd hL)⟩)
        · obtain ⟨key, rfl⟩ := isKT_key k1
          cases ak with
          | @tup b xs _ nb eb rb =>
            have exs := at_keys rb
            subst exs
            obtain ⟨g1, g2⟩ := put_rel (f := keyT) (fun a b => eqv_keyT a b) key av ks r
            exact d_setItem hu I (.inr ⟨kvs, key, b, eH, rfl, eb, hz', rfl⟩) ry rv fun s' I' => ⟨_, I', q _ (.inr ⟨_, upd_same, g1, g2.tr (tr_upd hL)⟩)⟩
    · cases e
  | none => exact ob.elim
  | bool => exact ob.elim
  | int => exact ob.elim
  | str => exact ob.elim
  | tuple => exact ob.elim
/-- o[i], by values -/
def rGetD : V → V → Hp → VK → Prop := fun x y H Q => ∃ (L : AdP) (p : Addr) (m kd vd : PyData), x = .ref p ∧ (∀ z, L z → H z ≠ none) ∧ Ob H L p m ∧ At H L y kd ∧ ixD m kd = some vd ∧ ∀ w, At H L w vd → Q w H
theorem hg_get (hu : X.A.units + 1 < cLine) : PGet X rGetD := by
  intro pins s σ H x y xv yv Q I rx ry h
  obtain ⟨L, p, m, kd, vd, rfl, hl, ob, ak, e, q⟩ := h
  cases m with
  | list ds =>
    unfold ixD at e
    cases kd with
    | int i =>
      obtain ⟨xs, hx, r⟩ := ob
      cases ak
      obtain ⟨z, e1, e2⟩ := atI_at r e
      cases rx
      obtain ⟨t, rfl⟩ := ry
      obtain ⟨its, rv, pl, hz⟩ := I.list (.of hx)
      obtain ⟨j, h1, h2, h3, h4, h5⟩ := atI_get e1
      obtain ⟨w, ew, rw'⟩ := rv.get h2
      have hl := rv.length
      have hn := line63
      have fin : EP X pins σ Q w s := ⟨z, H, I, rw', q _ e2⟩
      by_cases h0 : 0 ≤ i
      · have hj : i.toNat = j := by
          rw [seqIndex_of h0 h5] at h1
          exact Option.some.inj h1
        exact wpAny_getItem_list (x := w) pl.isList h0 (by omega) (by rw [hj]; simpa using ew) fin
      · have hj : (i + (its.toArray.size : Int)).toNat = j := by
          rw [seqIndex_neg (by omega) h4] at h1
          rw [List.size_toArray, ← hl]
          exact Option.some.inj h1
        exact wpAny_getItem_list_neg (x := w) pl.isList (by omega) (by rw [List.size_toArray] <;> omega) (by omega) (by rw [hj]; simpa using ew) fin
    | _ => cases e
  | dict dd =>
    unfold ixD at e
    simp only at e
    split at e
    · rename_i hc
      cases rx
      obtain ⟨a, e1, g⟩ := dlook (K := X.K) (x := .ref p) (y := y) (.ob (ob.r)) (.dat ak) hc
      cases e1
      rw [e] at g
      cases g with
      | some g a' => exact d_getItem hu I g ry fun w' s' I' r' => ⟨_, H, I', r', q _ a'⟩
    · cases e
  | none => exact ob.elim
  | bool => exact ob.elim
  | int => exact ob.elim
  | str => exact ob.elim
  | tuple => exact ob.elim
end
section
variable {c : Cxt} {e : En} {Lf : AdP} {adr : Nat → Addr} {S : Sto} {H : Hp} {L : AdP} {σ : L2.St} {ρ : Env'} {a b : Expr} {fa fb : Ev} {pos : Pos} {es : List Expr} {fs : Av}
/-- what slot i owns, or its cell: changed by g -/
def chgD (i : Nat) (g : PyData → Option PyData) : Sv := fun ρ S => match ρ[i]? with
  | some (some (.o m)) => (g m).bind fun m' => some (.nx (ρ.set i (some (.o m'))) S)
  | some (some (.c k)) => (match S[k]? with
    | some (some (.d m)) => (g m).bind fun m' => some (.nx ρ (S.set k (some (.d m'))))
    | _ => none)
  | _ => none
theorem Ok.chgd {i : Nat} {g : PyData → Option PyData} {o : Out} {D : Ends} (I : Ok c e adr S σ H ρ) (h : chgD i g ρ S = some o) (w : OutOk c e D o) :
    ∃ p m m', σ[i]? = some (some (.ref p)) ∧ Lvv (LfN e σ ρ) adr S p ∧ Ob H (Lvv (LfN e σ ρ) adr S) p m ∧ g m = some m' ∧ ∀ ob, Ob (L2.upd H p ob) (Lvv (LfN e σ ρ) adr S) p m' → D.nx σ (L2.upd H p ob) := by
  unfold chgD at h
  split at h
  · rename_i m hi
    obtain ⟨m', e1, e2⟩ := Option.bind_eq_some_iff.mp h
    cases e2
    obtain ⟨v, h1, p, rfl, l, ob⟩ := I.eok.slot i _ hi
    exact ⟨p, m, m', h1, .inl l, ob, e1, fun o' ob' => w adr _ _ (I.upd hi h1 ob')⟩
  · rename_i k hi
    split at h
    · rename_i m hk
      obtain ⟨m', e1, e2⟩ := Option.bind_eq_some_iff.mp h
      cases e2
      obtain ⟨v, h1, rfl, hkl⟩ := I.eok.slot i _ hi
      exact ⟨adr k, m, m', h1, .inr ⟨k, _, hk, rfl⟩, I.eok.sto.ob k _ hk, e1, fun o' ob' => w adr _ _ (I.updC hk ob')⟩
    · cases h
  · cases h
/-- x[k] = v -/
def sPut (i : Nat) (fk fv : Ev) : Sv := fun ρ S => (fv ρ S).bind fun p => match p.1 with
  | .p v => if i < ρ.length then (fk ρ p.2).bind fun q => (match q.1 with | .p k => chgD i (fun m => setD m k v) ρ q.2 | _ => none) else none
  | _ => none
theorem ds_put {i : Nat} {x : Str} {p p2 : Pos} {k v : Expr} {fk fv : Ev} (hN : c.N[i]? = some x) (hv : Vis c.sc x) (hd : (x == ("__debug__" : Str)) = false) (hcd : (x == ("__classdict__" : Str)) = false) (hk : DE c k fk) (hva : DE c v fv)
    (hs : ∀ X, InC c X → swapsWithSole [.Subscript (.Name x p) k p2] v pos.line X.env = pure false) (hw : ∀ X, InC c X → swappedStores [.Subscript (.Name x p) k p2] v X.env = pure none)
    (h1 : ∀ X, InC c X → (assignEach [.Subscript (.Name x p) k p2] X.env).map (·.2) = [assign (.Subscript (.Name x p) k p2) X.env])
    (ha : ∀ X, InC c X → ∀ v, assign (.Subscript (.Name x p) k p2) X.env v = (do
      let ov ← holding [v] (eval (.Name x p) X.env)
      let iv ← holding [v, ov] (eval k X.env)
      standAt p2
      holding [v, ov, iv] (setItem ov iv v)
      release [v, ov, iv] [])) : DS c (.Assign [.Subscript (.Name x p) k p2] v pos) (sPut i fk fv) := by
  obtain ⟨tk, pk, vk⟩ := hk
  obtain ⟨tv, pv, vv⟩ := hva
  refine ⟨tAsg tv (gSub (tVar i) tk rSetD), fun X hX => ps_asg (pv X hX) (pg_sub (pe_var (pos := p) (i := i) (by rw [hX.N]; exact hN) (by rw [hX.sc]; exact hv) hd hcd) (pk X hX) (hs_set (by have := hX.un; omega)) (ha X hX)) (hs X hX) (hw X hX) (h1 X hX), fun e adr S σ H ρ o D I h w => ?_⟩
  unfold sPut at h
  obtain ⟨⟨x1, S1⟩, e1, e2⟩ := Option.bind_eq_some_iff.mp h
  cases x1 with
  | p vd =>
    simp only at e2
    split at e2
    · obtain ⟨⟨x2, S2⟩, e3, e4⟩ := Option.bind_eq_some_iff.mp e2
      cases x2 with
      | p kd =>
        simp only at e4
        refine vv _ adr S σ H ρ _ _ _ I.eok e1 fun v1 adr1 H1 x1 s1 r1 => ?_
        have I1 := I.extE x1 s1
        -- the slot is there
        have hsl : ∃ pp, σ[i]? = some (some (.ref pp)) := by
          unfold chgD at e4
          split at e4
          · rename_i m hi
            obtain ⟨v, h1, a, rfl, _⟩ := I.eok.slot i _ hi
            exact ⟨a, h1⟩
          · rename_i k hi
            obtain ⟨v, h1, rfl, _⟩ := I.eok.slot i _ hi
            exact ⟨_, h1⟩
          · cases e4
        obtain ⟨pp, hpp⟩ := hsl
        refine ⟨_, hpp, vk _ adr1 S1 σ H1 ρ _ _ _ I1.eok e3 fun k1 adr2 H2 x2 s2 r2 => ?_⟩
        have I2 := I1.extE x2 s2
        obtain ⟨p', m, m', q1, q2, q3, q4, q5⟩ := I2.chgd e4 w
        rw [hpp] at q1
        cases q1
        exact ⟨_, pp, m, kd, vd, m', rfl, q2, q3, r2, At.tr (x2.tr fun a z => .inl z) vd r1, q4, q5⟩
      | _ => cases e4
    · cases e2
  | _ => cases e2
/-- x[k] op= v -/
def sPutAug (f : PyData → PyData → Option PyData) (i : Nat) (fk fv : Ev) : Sv := fun ρ S => (fk ρ S).bind fun q => match q.1 with
  | .p k => (vw1 q.2 ((ρ[i]?.bind id).getD (.p .none))).bind fun m0 => (ixD m0 k).bind fun old => (fv ρ q.2).bind fun p => (vw p.2 p.1).bind fun v => (f old v).bind fun r => chgD i (fun m => setD m k r) ρ p.2
  | _ => none
theorem ds_putAug {op : Operator} {f : PyData → PyData → Option PyData} (ho : ∀ X, InC c X → OpR X (inplaceOp op) (rD X.K f)) {i : Nat} {x : Str} {p p2 : Pos} {k v : Expr} {fk fv : Ev} (hN : c.N[i]? = some x) (hv : Vis c.sc x) (hd : (x == ("__debug__" : Str)) = false) (hcd : (x == ("__classdict__" : Str)) = false) (hk : DE c k fk) (hva : DE c v fv)
    (ha : ∀ ov iv new, augStore k ov iv new = (do holding [new, ov, iv] (setItem ov iv new); release [new, ov, iv] []; pure .next)) : DS c (.AugAssign (.Subscript (.Name x p) k p2) op v pos) (sPutAug f i fk fv) := by
  obtain ⟨tk, pk, vk⟩ := hk
  obtain ⟨tv, pv, vv⟩ := hva
  refine ⟨tAugS (tVar i) tk tv rGetD (rD c.K f) rSetD, fun X hX => ps_augS (pe_var (pos := p) (i := i) (by rw [hX.N]; exact hN) (by rw [hX.sc]; exact hv) hd hcd) (pk X hX) (hg_get (by have := hX.un; omega)) (pv X hX) (by rw [← hX.K]; exact ho X hX) (hs_set (by have := hX.un; omega)) ha, fun e adr S σ H ρ o D I h w => ?_⟩
  unfold sPutAug at h
  obtain ⟨⟨x1, S1⟩, e1, e2⟩ := Option.bind_eq_some_iff.mp h
  cases x1 with
  | p kd =>
    simp only [Option.bind_eq_some_iff] at e2
    obtain ⟨m0, e3, old, e4, ⟨x2, S2⟩, e5, vd, e6, r, e7, e8⟩ := e2
    have hsl : ∃ d pp, ρ[i]? = some (some d) ∧ σ[i]? = some (some (.ref pp)) ∧ (∀ d1, d ≠ .p d1) := by
      unfold chgD at e8
      split at e8
      · rename_i m hi
        obtain ⟨v, h1, a, rfl, _⟩ := I.eok.slot i _ hi
        exact ⟨_, a, hi, h1, fun d1 z => nomatch z⟩
      · rename_i k hi
        obtain ⟨v, h1, rfl, _⟩ := I.eok.slot i _ hi
        exact ⟨_, _, hi, h1, fun d1 z => nomatch z⟩
      · cases e8
    obtain ⟨d0, pp, hd0, hpp, hnp⟩ := hsl
    refine ⟨_, hpp, vk _ adr S σ H ρ _ _ _ I.eok e1 fun k1 adr1 H1 x1 s1 r1 => ?_⟩
    have I1 := I.extE x1 s1
    rw [hd0] at e3
    obtain ⟨v', h1', r0⟩ := I1.eok.slot i d0 hd0
    rw [hpp] at h1'
    cases h1'
    have w1 := vw1_ok s1 r0 e3
    have ob1 : Ob H1 (Lvv (LfN e σ ρ) adr1 S1) pp m0 := by
      cases d0 with
      | p d1 => exact absurd rfl (hnp d1)
      | f m => cases e3
      | o m => cases e3; obtain ⟨a, e9, _, ob⟩ := r0; cases e9; exact ob
      | c k =>
        obtain ⟨e9, _⟩ := r0
        cases e9
        have e3 : (match S1[k]? with | some (some (.d m)) => some m | _ => none) = some m0 := e3
        split at e3
        · rename_i m' hm
          cases e3
          exact s1.ob k _ hm
        · cases e3
    refine ⟨_, pp, m0, kd, old, rfl, fun z => s1.lvv, ob1, r1, e4, fun w0 a0 => ?_⟩
    refine vv _ adr1 S1 σ H1 ρ _ _ _ I1.eok e5 fun v1 adr2 H2 x2 s2 r2 => ?_
    have I2 := I1.extE x2 s2
    refine ⟨_, old, vd, r, fun z => s2.lvv, .dat (At.tr (x2.tr fun a z => .inl z) old a0), vw_ok s2 r2 e6, e7, fun z H3 k3 a3 => ?_⟩
    have I3 := I2.extE (.grow k3) (grow_ok s2 k3)
    obtain ⟨p', m, m', q1, q2, q3, q4, q5⟩ := I3.chgd e8 w
    rw [hpp] at q1
    cases q1
    exact ⟨_, pp, m, kd, r, m', rfl, q2, q3, At.tr ((x2.trans (.grow k3)).tr fun a z => .inl z) kd r1, a3, q4, q5⟩
  | _ => cases e2
end
end DL
namespace DL
open PySem PySem.Spec L2
open PyProof.Rows hiding St
section
variable {c : Cxt} {e : En} {Lf : AdP} {adr : Nat → Addr} {S : Sto} {H : Hp} {L : AdP} {σ : L2.St} {ρ : Env'} {a b : Expr} {fa fb : Ev} {pos : Pos} {es : List Expr} {fs : Av}
/-! ### dict displays -/
def fEmp : Fsv := fun _ S => some (.dict [], S)
theorem fresh_sto {p : Addr} {o : HO} (s : StOk c Lf adr S H) (hp : H p = none) (ho : ∀ xs, o ≠ .tup xs := by exact fun _ z => nomatch z) : StOk c (fun a => Lf a ∨ a = p) adr S (upd H p o) := s.grow (upd_grow hp) fun z hz => by
  refine ⟨hz.imp id fun q => by rw [q]; exact hp, ?_⟩
  rcases hz with hz | rfl
  · exact (s.lfo z hz).keep (upd_grow hp z)
  · exact ⟨_, upd_same, ho⟩
theorem df_emp : DF c (.Dict [] [] pos) fEmp := ⟨tDNewK, fun X _ => pe_dnewK, fun Lf adr S σ H ρ m S' Q I e w => by
  cases e
  exact fun p hp => w p adr _ (.grow (upd_grow hp)) (fresh_sto I.sto hp) hp (.inl ⟨[], upd_same, rfl, .nil⟩)⟩
abbrev Pv := Env' → Sto → Option (List (PyData × PyData) × Sto)
def PvOk (c : Cxt) (t : List (TE × TE)) (f : Pv) : Prop := ∀ Lf adr S σ H ρ ds S' (Q : List (V × V) → Hp → Prop), EOk c Lf adr S σ H ρ → f ρ S = some (ds, S') →
  (∀ vs adr' H', Ext adr S H adr' S' H' → StOk c Lf adr' S' H' → AtL H' (Lvv Lf adr' S') (vs.map (·.1)) (ds.map (·.1)) → AtL H' (Lvv Lf adr' S') (vs.map (·.2)) (ds.map (·.2)) → Q vs H') → tPairs t σ H Q
def DPs (c : Cxt) (pos : Pos) (ks : List (Option Expr)) (vs : List Expr) (f : Pv) : Prop := ∃ t, (∀ X, InC c X → PPs X pos ks vs t) ∧ PvOk c t f
def pNil : Pv := fun _ S => some ([], S)
def pCons (fk fv : Ev) (r : Pv) : Pv := fun ρ S => (fk ρ S).bind fun p => match p.1 with
  | .p k => (fv ρ p.2).bind fun q => (match q.1 with | .p v => (r ρ q.2).bind fun z => some ((k, v) :: z.1, z.2) | _ => none)
  | _ => none
theorem dps_nil : DPs c pos [] [] pNil := ⟨[], fun X _ => pps_nil, fun Lf adr S σ H ρ ds S' Q I e w => by cases e; exact w [] adr H .refl I.sto .nil .nil⟩
theorem dps_cons {k v : Expr} {ks : List (Option Expr)} {vs : List Expr} {fk fv : Ev} {r : Pv} (hk : DE c k fk) (hv : DE c v fv) (hr : DPs c pos ks vs r) : DPs c pos (some k :: ks) (v :: vs) (pCons fk fv r) := by
  obtain ⟨tk, pk, vk⟩ := hk
  obtain ⟨tv, pv, vv⟩ := hv
  obtain ⟨tr, pr, vr⟩ := hr
  refine ⟨_, fun X hX => pps_cons (pk X hX) (pv X hX) (pr X hX), fun Lf adr S σ H ρ ds S' Q I e w => ?_⟩
  unfold pCons at e
  obtain ⟨⟨x1, S1⟩, e1, e2⟩ := Option.bind_eq_some_iff.mp e
  cases x1 with
  | p kd =>
    obtain ⟨⟨x2, S2⟩, e3, e4⟩ := Option.bind_eq_some_iff.mp e2
    cases x2 with
    | p vd =>
      obtain ⟨⟨z, S3⟩, e5, e6⟩ := Option.bind_eq_some_iff.mp e4
      cases e6
      refine vk Lf adr S σ H ρ _ _ _ I e1 fun v1 adr1 H1 x1 s1 r1 => ?_
      refine vv Lf adr1 S1 σ H1 ρ _ _ _ (I.ext x1 s1) e3 fun v2 adr2 H2 x2 s2 r2 => ?_
      refine vr Lf adr2 S2 σ H2 ρ _ _ _ ((I.ext x1 s1).ext x2 s2) e5 fun vs adr3 H3 x3 s3 r3 r4 => ?_
      exact w _ adr3 H3 (x1.trans (x2.trans x3)) s3 (.cons (At.tr ((x2.trans x3).tr fun a z => .inl z) kd r1) r3) (.cons (At.tr (x3.tr fun a z => .inl z) vd r2) r4)
    | _ => cases e4
  | _ => cases e2
/-- {k: v, ..} -/
def mergeD (ps : List (PyData × PyData)) : List (PyData × PyData) := ps.foldl (fun acc p => putD acc p.1 p.2) []
def fDisp (f : Pv) : Fsv := fun ρ S => (f ρ S).bind fun p => if (p.1.all fun q => isKK q.1) = true ∧ p.1.length ≤ 15 then some (.dict (mergeD p.1), p.2) else none
theorem keys_of : ∀ {vs : List (V × V)} {ds : List (PyData × PyData)}, AtL H L (vs.map (·.1)) (ds.map (·.1)) → AtL H L (vs.map (·.2)) (ds.map (·.2)) → (ds.all fun q => isKK q.1) = true →
    ∃ kvs : List (Key × V), vs = kvs.map (fun kv => (kV kv.1, kv.2)) ∧ ds.map (·.1) = kvs.map (fun p => keyD p.1) ∧ AtL H L (kvs.map (·.2)) (ds.map (·.2))
  | [], [], _, _, _ => ⟨[], rfl, rfl, .nil⟩
  | [], _ :: _, h, _, _ => by cases h
  | _ :: _, [], h, _, _ => by cases h
  | (x, y) :: vs, (k, d) :: ds, h1, h2, h3 => by
    cases h1 with
    | cons a1 b1 =>
      cases h2 with
      | cons a2 b2 =>
        rw [List.all_cons, Bool.and_eq_true] at h3
        obtain ⟨kvs, e1, e2, e3⟩ := keys_of b1 b2 h3.2
        obtain ⟨key, ek⟩ := isKK_key h3.1
        simp only at ek
        subst ek
        have a1 : At H L x (keyD key) := a1
        refine ⟨(key, y) :: kvs, ?_, by simp [e2], .cons a2 e3⟩
        rw [List.map_cons, ← e1, at_key a1]
theorem merge_rel : ∀ {more : List (Key × V)} {ds : List (PyData × PyData)} {kvs : List (Key × V)} {dd : List (PyData × PyData)}, ds.map (·.1) = more.map (fun p => keyD p.1) → AtL H L (more.map (·.2)) (ds.map (·.2)) →
    dd.map (·.1) = kvs.map (fun p => keyD p.1) → AtL H L (kvs.map (·.2)) (dd.map (·.2)) →
    (ds.foldl (fun acc p => putD acc p.1 p.2) dd).map (·.1) = (mergeK kvs more).map (fun p => keyD p.1) ∧ AtL H L ((mergeK kvs more).map (·.2)) ((ds.foldl (fun acc p => putD acc p.1 p.2) dd).map (·.2))
  | [], [], _, _, _, _, h3, h4 => ⟨h3, h4⟩
  | [], _ :: _, _, _, h, _, _, _ => by simp at h
  | _ :: _, [], _, _, h, _, _, _ => by simp at h
  | (k, v) :: more, (kd, d) :: ds, kvs, dd, h1, h2, h3, h4 => by
    simp only [List.map_cons, List.cons.injEq] at h1
    cases h2 with
    | cons a b =>
      obtain ⟨g1, g2⟩ := put_rel eqv_keyD k a h3 h4
      have e : kd = keyD k := h1.1
      rw [List.foldl_cons]
      simp only
      rw [e]
      have r := merge_rel (more := more) h1.2 b g1 g2
      exact r
theorem df_disp {ks : List (Option Expr)} {vs : List Expr} {f : Pv} (h : DPs c pos ks vs f) (hall : ks.all (·.isSome) = true) (hl : ks.length = vs.length) (h0 : ks ≠ []) (h15 : ks.length ≤ 15) : DF c (.Dict ks vs pos) (fDisp f) := by
  obtain ⟨t, p, v⟩ := h
  refine ⟨_, fun X hX => pe_disp (p X hX) hall hl h0 h15, fun Lf adr S σ H ρ m S' Q I e w => ?_⟩
  unfold fDisp at e
  obtain ⟨⟨ds, S1⟩, e1, e2⟩ := Option.bind_eq_some_iff.mp e
  split at e2
  · rename_i hc
    cases e2
    intro p hp
    have x0 : Ext adr S H adr S (upd H p (.dK [])) := .grow (upd_grow hp)
    have s0 := fresh_sto (o := .dK []) I.sto hp
    have hl0 : ∀ a, (Lf a ∨ a = p) → Lf a ∨ H a = none := fun a z => z.imp id fun q => by rw [q]; exact hp
    refine v _ adr S σ _ ρ ds S1 _ (I.ext' x0 s0 hl0 fun a z => .inl z) e1 fun vs adr1 H1 x1 s1 r1 r2 => ?_
    have np : ¬ LvC adr S p := fun z => I.sto.ne z hp
    have hp1 : H1 p = some (.dK []) := x1.keep p _ upd_same np
    obtain ⟨kvs, rfl, k2, k3⟩ := keys_of r1 r2 hc.1
    have hlen : kvs.length ≤ 15 := by have := congrArg List.length k2; simp at this; have := hc.2; simp only at this; omega
    refine ⟨hp1, kvs, rfl, hlen, ?_⟩
    have t2 : Tr H1 (Lvv (fun a => Lf a ∨ a = p) adr1 S1) (upd H1 p (.dK (mergeK [] kvs))) (Lvv (fun a => Lf a ∨ a = p) adr1 S1) := tr_upd (.inl (.inr rfl))
    obtain ⟨g1, g2⟩ := merge_rel (kvs := []) (dd := []) k2 k3 rfl .nil
    have x01 := x0.trans x1
    have x2 : Ext adr S H adr1 S1 (upd H1 p (.dK (mergeK [] kvs))) := by
      refine ⟨x01.len, x01.ad, fun a o q n => ?_, fun a q => ?_, x01.live⟩
      · rw [upd_ne (ne_of_none q hp)]; exact x01.keep a o q n
      · by_cases hh : a = p
        · rw [hh, upd_same]; exact fun z => nomatch z
        · rw [upd_ne hh]; exact x01.trk a q
    refine w p adr1 _ x2 (s1.updO (.inr rfl)) hp (.inl ⟨_, upd_same, g1, g2.tr t2⟩)
  · cases e2

/-! ### a, b = x, y -/
/-- data or cells, one after another -/
def setAll : List Nat → List D → Env' → Option Env'
  | [], [], ρ => some ρ
  | i :: is, .p d :: ds, ρ => if i < ρ.length then setAll is ds (ρ.set i (some (.p d))) else none
  | i :: is, .c k :: ds, ρ => if i < ρ.length then setAll is ds (ρ.set i (some (.c k))) else none
  | _, _, _ => none
def setV : List Nat → List V → L2.St → L2.St
  | i :: is, v :: vs, σ => setV is vs (σ.set i (some v))
  | _, _, σ => σ
theorem DRL.less {K : PySem.W.Frag} {Lf' : AdP} {C : AdP} {n : Nat} (h : ∀ a, Lf' a → Lf a) : ∀ {is : List Nat} {vs : List V} {ds : List D} {ρ ρ' : Env'}, DRL K H (Lvv Lf adr S) Lf C adr n vs ds → DL.setAll is ds ρ = some ρ' → DRL K H (Lvv Lf' adr S) Lf' C adr n vs ds
  | _, _, [], _, _, r, _ => by cases r; exact .nil
  | [], _, d :: ds, _, _, r, e => by cases d <;> cases e
  | i :: is, _, .o m :: ds, _, _, r, e => by cases e
  | i :: is, _, .f m :: ds, _, _, r, e => by cases e
  | i :: is, _, .p d :: ds, ρ, ρ', r, e => by
    unfold DL.setAll at e
    split at e
    · cases r with
      | cons a b => exact .cons (At.tr (tr_less fun x z => z.imp (h x) id) d a) (DRL.less h b e)
    · cases e
  | i :: is, _, .c k :: ds, ρ, ρ', r, e => by
    unfold DL.setAll at e
    split at e
    · cases r with
      | cons a b => exact .cons a (DRL.less h b e)
    · cases e
theorem Ok.setAll : ∀ {is : List Nat} {vs : List V} {ds : List D} {σ : L2.St} {ρ ρ' : Env'}, Ok c e adr S σ H ρ → DRL c.K H (Lvv (LfN e σ ρ) adr S) (LfN e σ ρ) (LvC adr S) adr S.length vs ds → DL.setAll is ds ρ = some ρ' → vs.length = is.length ∧ Ok c e adr S (setV is vs σ) H ρ'
  | [], _, [], σ, ρ, ρ', I, r, h => by cases r; cases h; exact ⟨rfl, I⟩
  | [], _, d :: ds, _, _, _, I, r, h => by cases d <;> cases h
  | i :: is, _, [], σ, ρ, ρ', I, r, h => by cases h
  | i :: is, _, .o m :: ds, σ, ρ, ρ', I, r, h => by cases h
  | i :: is, _, .f m :: ds, σ, ρ, ρ', I, r, h => by cases h
  | i :: is, _, .p d :: ds, σ, ρ, ρ', I, r, h => by
    cases r with
    | @cons v vs _ _ a b =>
      unfold DL.setAll at h
      split at h
      · rename_i hl
        have I1 := I.set i (d := .p d) (v := v) hl a (fun m z => nomatch z) (fun m z => nomatch z)
        have own : ∀ (x : Addr), ownA (σ.set i (some v)) (ρ.set i (some (.p d))) x → ownA σ ρ x := fun x ⟨j, m, h1, h2⟩ => by
          by_cases hj : j = i
          · subst hj
            rw [List.getElem?_set_self hl] at h1
            cases h1
          · rw [List.getElem?_set_ne (Ne.symm hj)] at h1 h2
            exact ⟨j, m, h1, h2⟩
        have b' := b.less (Lf' := LfN e (σ.set i (some v)) _) (fun x (z : e.Lf x ∨ ownA _ _ x) => z.imp id (own x)) h
        obtain ⟨q1, q2⟩ := Ok.setAll I1 b' h
        exact ⟨by rw [List.length_cons, List.length_cons, q1], q2⟩
      · cases h
  | i :: is, _, .c k :: ds, σ, ρ, ρ', I, r, h => by
    cases r with
    | @cons v vs _ _ a b =>
      unfold DL.setAll at h
      split at h
      · rename_i hl
        have I1 := I.set i (d := .c k) (v := v) hl a (fun m z => nomatch z) (fun m z => nomatch z)
        have own : ∀ (x : Addr), ownA (σ.set i (some v)) (ρ.set i (some (.c k))) x → ownA σ ρ x := fun x ⟨j, m, h1, h2⟩ => by
          by_cases hj : j = i
          · subst hj
            rw [List.getElem?_set_self hl] at h1
            cases h1
          · rw [List.getElem?_set_ne (Ne.symm hj)] at h1 h2
            exact ⟨j, m, h1, h2⟩
        have b' := b.less (Lf' := LfN e (σ.set i (some v)) _) (fun x (z : e.Lf x ∨ ownA _ _ x) => z.imp id (own x)) h
        obtain ⟨q1, q2⟩ := Ok.setAll I1 b' h
        exact ⟨by rw [List.length_cons, List.length_cons, q1], q2⟩
      · cases h
def sPar (is : List Nat) (fs : Av) : Sv := fun ρ S => (fs ρ S).bind fun p => (setAll is p.1 ρ).bind fun ρ' => some (.nx ρ' p.2)
variable {px py pz pt : Pos} {x y z : Str} {d3 : Expr} {i j l kt k2 : Nat} {pt2 : Pos}
theorem ds_par (hN : c.N.Nodup) (hi : c.N[i]? = some x) (hj : c.N[j]? = some y) (hij : i ≠ j) (hx : c.sc.names.lookup x = some .local) (hy : c.sc.names.lookup y = some .local) (ha : DA c [a, b] fs)
    (hw : ∀ X, InC c X → swappedStores [.Tuple [.Name x px, .Name y py] kt pt] (.Tuple [a, b] k2 pt2) X.env = pure (some [x, y]))
    (hs : ∀ X, InC c X → swapsWithSole [.Tuple [.Name x px, .Name y py] kt pt] (.Tuple [a, b] k2 pt2) pos.line X.env = pure false) :
    DS c (.Assign [.Tuple [.Name x px, .Name y py] kt pt] (.Tuple [a, b] k2 pt2) pos) (sPar [i, j] fs) := by
  obtain ⟨ta, pa, va⟩ := ha
  refine ⟨tPar i j ta, fun X hX => ps_par hX.calm (by rw [hX.N]; exact hN) (by rw [hX.N]; exact hi) (by rw [hX.N]; exact hj) hij (by rw [hX.sc]; exact hx) (by rw [hX.sc]; exact hy) (pa X hX) (hw X hX) (hs X hX), ?_⟩
  intro e adr S σ H ρ o D I h w
  unfold sPar at h
  obtain ⟨⟨ds, S1⟩, e1, e2⟩ := Option.bind_eq_some_iff.mp h
  obtain ⟨ρ', e3, e4⟩ := Option.bind_eq_some_iff.mp e2
  cases e4
  refine va _ adr S σ H ρ _ _ _ I.eok e1 fun vs adr1 H1 x1 s1 r1 => ?_
  obtain ⟨q1, q2⟩ := (I.extE x1 s1).setAll r1 e3
  match vs, q1, q2 with
  | [v, u], _, q2 => exact ⟨v, u, rfl, w adr1 _ H1 q2⟩
theorem ds_par3 (hN : c.N.Nodup) (hi : c.N[i]? = some x) (hj : c.N[j]? = some y) (hl : c.N[l]? = some z) (hij : i ≠ j) (hil : i ≠ l) (hjl : j ≠ l) (hx : c.sc.names.lookup x = some .local) (hy : c.sc.names.lookup y = some .local) (hz : c.sc.names.lookup z = some .local) (ha : DA c [a, b, d3] fs)
    (hw : ∀ X, InC c X → swappedStores [.Tuple [.Name x px, .Name y py, .Name z pz] kt pt] (.Tuple [a, b, d3] k2 pt2) X.env = pure (some [x, y, z]))
    (hs : ∀ X, InC c X → swapsWithSole [.Tuple [.Name x px, .Name y py, .Name z pz] kt pt] (.Tuple [a, b, d3] k2 pt2) pos.line X.env = pure false) :
    DS c (.Assign [.Tuple [.Name x px, .Name y py, .Name z pz] kt pt] (.Tuple [a, b, d3] k2 pt2) pos) (sPar [i, j, l] fs) := by
  obtain ⟨ta, pa, va⟩ := ha
  refine ⟨tPar3 i j l ta, fun X hX => ps_par3 hX.calm (by rw [hX.N]; exact hN) (by rw [hX.N]; exact hi) (by rw [hX.N]; exact hj) (by rw [hX.N]; exact hl) hij hil hjl (by rw [hX.sc]; exact hx) (by rw [hX.sc]; exact hy) (by rw [hX.sc]; exact hz) (pa X hX) (hw X hX) (hs X hX), ?_⟩
  intro e adr S σ H ρ o D I h w
  unfold sPar at h
  obtain ⟨⟨ds, S1⟩, e1, e2⟩ := Option.bind_eq_some_iff.mp h
  obtain ⟨ρ', e3, e4⟩ := Option.bind_eq_some_iff.mp e2
  cases e4
  refine va _ adr S σ H ρ _ _ _ I.eok e1 fun vs adr1 H1 x1 s1 r1 => ?_
  obtain ⟨q1, q2⟩ := (I.extE x1 s1).setAll r1 e3
  match vs, q1, q2 with
  | [v, u, t], _, q2 => exact ⟨v, u, t, rfl, w adr1 _ H1 q2⟩
end
end DL
namespace DL
open PySem PySem.Spec L2
open PyProof.Rows hiding St
/-! ### a law's defs -/
section
variable {P : Program} {w : World} {K : PySem.W.Frag} {mg : Str → Option Value} {base : Heap}
/-- the context of the module alone -/
abbrev cM (P : Program) (w : World) (K : PySem.W.Frag) (mg : Str → Option Value) (base : Heap) : Cxt := ⟨P, w, K, mg, base, [], { kind := .function, names := [], isGenerator := false, isCoroutine := false }, 0, fun _ => false⟩
/-- a def of the module -/
structure FnIn (K : PySem.W.Frag) (mg : Str → Option Value) (x : Str) (st : Stmt) (ps : List Str) : Prop where
  ex : ∃ fa fd, Fun K x x st fa fd ∧ mg x = some (.ref fa) ∧ ∀ us : List Value, us.length = ps.length → bindArgs fd ⟨us, []⟩ = pure (ps.zip us)
theorem FnIn.mk' {h : Heap} {x : Str} {st : Stmt} {ps : List Str} {f : Addr} {oc : Value} {od an : Option Addr} {osl : Array (Option Value)} {kV doc pm cdv ct : Value} (X : K.In h) (G : h.Ns mainGlobals mg) (a : PySem.W.nsIn K mainGlobals x = some (some (.ref f)))
    (l : K.lookup f = some ⟨oc, od, .func (PySem.W.fnOf x x (defArgs st) (defBody st) (defScope st) .none kV doc pm an cdv ct), osl⟩) (cc : PySem.W.codeIn K cdv x = true) (k : PySem.W.keepIn K (.ref f) = true)
    (hb : ∀ (kV doc pm : Value) (an : Option Addr) (cdv ct : Value) (us : List Value), us.length = ps.length → bindArgs (PySem.W.fnOf x x (defArgs st) (defBody st) (defScope st) .none kV doc pm an cdv ct) ⟨us, []⟩ = pure (ps.zip us)) : FnIn K mg x st ps :=
  ⟨f, _, fun_mk l cc k, PySem.W.mg_of X G a, hb kV doc pm an cdv ct⟩
theorem kn_P {x : Str} {st : Stmt} {N ps : List Str} {k : Nat} {b : Sv} (F : FnIn K mg x st ps) (S : FnScope N ps (defScope st)) (h : DSs (cxD P w K mg base N st k) (defBody st) b) : Kn (cM P w K mg base) x (k + 1) (SpP (runP ps.length N.length b)) := by
  obtain ⟨fa, fd, F, hm, hb⟩ := F.ex
  exact ⟨fa, fd, ps, (fn_gen F S h (c := cM P w K mg base) rfl rfl).imp fun vs H Q E q => sp_pure q, hm, F.kp, .all hb⟩
theorem kn_G {x : Str} {st : Stmt} {N ps : List Str} {k : Nat} {b : Sv} (F : FnIn K mg x st ps) (S : FnScope N ps (defScope st)) (h : DSs (cxD P w K mg base N st k) (defBody st) b) : Kn (cM P w K mg base) x (k + 1) (SpG (cM P w K mg base).c0 (runG ps.length N.length b)) := by
  obtain ⟨fa, fd, F, hm, hb⟩ := F.ex
  exact ⟨fa, fd, ps, fn_gen F S h (c := (cM P w K mg base).c0) rfl rfl, hm, F.kp, .all hb⟩
theorem kn_0 {x : Str} {st : Stmt} {ps : List Str} (F : FnIn K mg x st ps) : Kn (cM P w K mg base) x 0 (SpP fun _ => none) := by
  obtain ⟨fa, fd, F, hm, hb⟩ := F.ex
  exact ⟨fa, fd, ps, ⟨fun vs H Q E h => (by obtain ⟨_, _, _, _, _, h, _⟩ := h; cases h), fun A outer s H args us vs Q E _ _ _ _ h => (by obtain ⟨_, _, _, _, _, h, _⟩ := h; cases h)⟩, hm, F.kp, .all hb⟩
theorem kn_0G {x : Str} {st : Stmt} {ps : List Str} (F : FnIn K mg x st ps) : Kn (cM P w K mg base) x 0 (SpG (cM P w K mg base).c0 fun _ _ => none) := by
  obtain ⟨fa, fd, F, hm, hb⟩ := F.ex
  exact ⟨fa, fd, ps, ⟨fun vs H Q E h => (by obtain ⟨_, _, _, _, _, _, _, _, h, _⟩ := h; cases h), fun A outer s H args us vs Q E _ _ _ _ h => (by obtain ⟨_, _, _, _, _, _, _, _, h, _⟩ := h; cases h)⟩, hm, F.kp, .all hb⟩
theorem kn_0m {x : Str} {st : Stmt} {ps : List Str} (F : FnIn K mg x st ps) (k : Nat) : Kn (cM P w K mg base) x k (SpP fun _ => none) := by
  obtain ⟨fa, fd, ps, G, r⟩ := (kn_0 (P := P) (w := w) (base := base) F).ex
  exact ⟨fa, fd, ps, G.mono (Nat.zero_le k), r⟩
theorem kn_0Gm {x : Str} {st : Stmt} {ps : List Str} (F : FnIn K mg x st ps) (k : Nat) : Kn (cM P w K mg base) x k (SpG (cM P w K mg base).c0 fun _ _ => none) := by
  obtain ⟨fa, fd, ps, G, r⟩ := (kn_0G (P := P) (w := w) (base := base) F).ex
  exact ⟨fa, fd, ps, G.mono (Nat.zero_le k), r⟩
/-- the same def, in a def's context -/
theorem Kn.to {c : Cxt} {x : Str} {k : Nat} {sp : Sp} (h : Kn (cM P w K mg base) x k sp) (h1 : c.P = P) (h2 : c.w = w) (h3 : c.K = K) (h4 : c.mg = mg) (h5 : c.base = base) : Kn c x k sp := by
  subst h1 h2 h3 h4 h5
  exact ⟨h.ex⟩
/-! the law -/
def spLaw (K : PySem.W.Frag) : Sp := fun vs H Q _ => ∃ (a : Addr) (ns : List Int), vs = [.ref a] ∧ SqL K H a (ns.map V.int) ∧ ns.length ≤ 63 ∧ ∀ H', Q (.bl true) H'
def lawOk (F : List D → Sto → Option (D × Sto)) : Prop := ∀ ns : List Int, ns.length ≤ 63 → ∃ S, F [.f (.list (ns.map .int))] [] = some (.p (.bool true), S)
theorem law_sp {c : Cxt} {F : List D → Sto → Option (D × Sto)} (hF : lawOk F) {vs : List V} {H : Hp} {Q : VK} {E : XK} (q : spLaw c.K vs H Q E) : SpG c F vs H Q E := by
  obtain ⟨a, ns, rfl, hS, hl, q⟩ := q
  obtain ⟨S, e⟩ := hF ns hl
  refine ⟨fun _ => False, fun _ => 0, [], [.f (.list (ns.map .int))], .p (.bool true), S, ⟨fun j k mo mo' h => by simp at h, fun k mo h => by simp at h, fun a ⟨k, mo, h, _⟩ => by simp at h, fun a z => z.elim⟩, .cons ⟨a, rfl, ns.map V.int, ?_, AtL.of_ints ns⟩ .nil, e, fun v adr' H' x s r => ?_⟩
  · rcases hS with h | h
    · exact .inl ⟨fun ⟨k, mo, h, _⟩ => by simp at h, h⟩
    · exact .inr h
  · have r : At H' _ v (.bool true) := r
    cases r
    exact q H'
/-- the law's own def, for the head -/
theorem law_mk {fa : Addr} {st : Stmt} {N : List Str} {k : Nat} {b : Sv} (hmg : mg "law" = some (.ref fa)) (F : FnIn K mg "law" st ["script"]) (S : FnScope N ["script"] (defScope st)) (hd : ∀ base, K.In base → base.Ns mainGlobals mg → DSs (cxD P w K mg base N st k) (defBody st) b) (hF : lawOk (runG 1 N.length b)) :
    ∃ fd : FuncData, (∀ (s : Shared) (v : Value), BindsTo s fd ⟨[v], []⟩ [("script", v)]) ∧ ∀ base : Heap, K.In base → base.Ns mainGlobals mg → FnOk P w K mg base CX0 (k + 1) fa fd ["script"] (spLaw K) := by
  obtain ⟨fa', fd, F, hm, hb⟩ := F.ex
  rw [hm] at hmg
  cases hmg
  refine ⟨fd, fun s v => .of_eq (hb [v] rfl), fun base h1 h2 => ?_⟩
  have G : FnOk P w K mg base CX0 (k + 1) fa fd ["script"] (SpG (cM P w K mg base).c0 (runG 1 N.length b)) := fn_gen F S (hd base h1 h2) (c := (cM P w K mg base).c0) rfl rfl
  exact G.imp fun vs H Q E q => law_sp (c := (cM P w K mg base).c0) hF q
end
/-! ### any slice, as data -/
section
variable {c : Cxt} {Lf : AdP} {adr : Nat → Addr} {S : Sto} {H : Hp} {σ : L2.St} {ρ : Env'} {a b d' : Expr} {fa fb fd : Ev} {pos : Pos} {lo hi : Option Expr} {fl fh : Ov} {p2 : Pos}
def cutD (ds : List PyData) (lo hi : Option Int) : List PyData := (ds.drop (HT.sIx ds.length 0 lo)).take (HT.sIx ds.length ds.length hi - HT.sIx ds.length 0 lo)
def sliceX (d : PyData) (lo hi : Option Int) : Option PyData := match d with
  | .tuple ds => some (.tuple (cutD ds lo hi))
  | .list ds => some (.list (cutD ds lo hi))
  | .str z => if z.length ≤ sizeLine then some (.str (cutS z lo hi)) else none
  | _ => none
def eSx (fa : Ev) (fl fh : Ov) : Ev := fun ρ S => (fa ρ S).bind fun p => (fl ρ p.2).bind fun q => (fh ρ q.2).bind fun r => (vw r.2 p.1).bind fun d => (sliceX d q.1 r.1).bind fun z => some (.p z, r.2)
theorem de_sx (ha : DE c a fa) (hl : DO c lo fl) (hh : DO c hi fh) : DE c (.Subscript a (.Slice lo hi none p2) pos) (eSx fa fl fh) := by
  obtain ⟨ta, pa, va⟩ := ha
  obtain ⟨tl, pl, vl⟩ := hl
  obtain ⟨th, ph, vh⟩ := hh
  refine ⟨_, fun X hX => by have h := pe_slice (pos := pos) (p2 := p2) ((sl_tupA.or sl_list).or sl_str) (pa X hX) (pl X hX) (ph X hX); rw [hX.K] at h; exact h, fun Lf adr S σ H ρ d S' Q I e w => ?_⟩
  unfold eSx at e
  simp only [Option.bind_eq_some_iff] at e
  obtain ⟨⟨x, S1⟩, e1, ⟨l, S2⟩, e2, ⟨u, S3⟩, e3, m, e4, z, e5, e6⟩ := e
  cases e6
  refine va Lf adr S σ H ρ _ _ _ I e1 fun v adr1 H1 x1 s1 r1 => ?_
  have I1 := I.ext x1 s1
  refine vl Lf adr1 S1 σ H1 ρ _ _ _ I1 e2 fun adr2 H2 x2 s2 => ?_
  have I2 := I1.ext x2 s2
  refine vh Lf adr2 S2 σ H2 ρ _ _ _ I2 e3 fun adr3 H3 x3 s3 => ?_
  have r := vw_ok s3 (r1.ext0 s1 (x2.trans x3)) e4
  have g := wi_gr s3 (w.trans (x1.trans (x2.trans x3)))
  cases m with
  | tuple ds =>
    cases e5
    obtain ⟨b, xs, rfl, h1, r1'⟩ := r.tuple_inv
    refine .inl (.inl ⟨b, xs, rfl, h1, fun hw => ?_, fun _ p hp => ?_⟩)
    · refine g _ _ (fun _ _ q => q) ?_
      have e : cutD ds l u = ds := by
        unfold cutD
        rw [r1'.length] at hw
        rw [hw.1, hw.2]
        simp
      rw [e]
      exact r.tuple_at
    · exact g _ _ (upd_grow hp) (.newT (fun z => s3.lvv) hp (r1'.cut l u))
  | list ds =>
    cases e5
    obtain ⟨b, xs, rfl, h1, r1'⟩ := r.list_inv
    exact .inl (.inr ⟨b, xs, rfl, h1, fun p hp => g _ _ (upd_grow hp) (.newL (fun z => s3.lvv) hp (r1'.cut l u))⟩)
  | str t =>
    have e5 : (if t.length ≤ sizeLine then some (PyData.str (cutS t l u)) else none) = some z := e5
    split at e5
    · rename_i hz
      cases e5
      cases r.str_inv
      exact .inr ⟨t, rfl, hz, g _ _ (fun _ _ q => q) (.str _)⟩
    · cases e5
  | _ => cases e5
end
end DL
namespace DL
open PySem PySem.Spec L2
open PyProof.Rows hiding St
/-! ### the rules in short -/
section
variable {c : Cxt} {a b d3 : Expr} {fa fb fk fv : Ev} {pos p q p2 cpos apos : Pos} {es : List Expr} {fs : Av} {x y z : Str} {e : Expr}
theorem vr (i : Nat) (hN : c.N[i]? = some x := by rfl) (hv : Vis c.sc x := by first | exact Or.inl rfl | exact Or.inr (Or.inl rfl) | exact Or.inr (Or.inr rfl)) (hd : (x == ("__debug__" : Str)) = false := by decide) (hcd : (x == ("__classdict__" : Str)) = false := by decide) : DE c (.Name x pos) (eVar i) := de_var hN hv hd hcd
theorem rv (i : Nat) (hN : c.N[i]? = some x := by rfl) (hv : Vis c.sc x := by first | exact Or.inl rfl | exact Or.inr (Or.inl rfl) | exact Or.inr (Or.inr rfl)) (hd : (x == ("__debug__" : Str)) = false := by decide) (hcd : (x == ("__classdict__" : Str)) = false := by decide) : DS c (.Return (some (.Name x p)) pos) (sRetV i) := ds_retV hN hv hd hcd
theorem gnm (i : Nat) (hN : c.N.Nodup) (hi : c.N[i]? = some x := by rfl) (hx : Loc c.sc x := by first | exact Or.inl rfl | exact Or.inr rfl) (hf : c.fn x = true ∨ c.sc.names.lookup x = some .local := by first | exact Or.inl rfl | exact Or.inr rfl) : DG c [i] (.Name x pos) (gN i) := dg_name hN hi hx hf
theorem set (i : Nat) (hN : c.N.Nodup) (ha : DE c a fa) (hi : c.N[i]? = some x := by rfl) (hx : Loc c.sc x := by first | exact Or.inl rfl | exact Or.inr rfl) (hf : c.fn x = true ∨ c.sc.names.lookup x = some .local := by first | exact Or.inl rfl | exact Or.inr rfl)
    (hs : ∀ X, InC c X → swapsWith a (some (.Name x p)) pos.line X.env = pure false := by exact fun _ _ => rfl) : DS c (.Assign [.Name x p] a pos) (sAsg fa (gN i)) := ds_set hN hi hx hf ha hs
theorem own (i : Nat) {fl : Lsv} (hN : c.N.Nodup) (ha : DLs c a fl) (hi : c.N[i]? = some x := by rfl) (hx : Loc c.sc x := by first | exact Or.inl rfl | exact Or.inr rfl) (hf : c.fn x = true ∨ c.sc.names.lookup x = some .local := by first | exact Or.inl rfl | exact Or.inr rfl)
    (hs : ∀ X, InC c X → swapsWith a (some (.Name x p)) pos.line X.env = pure false := by exact fun _ _ => rfl) : DS c (.Assign [.Name x p] a pos) (sOwn i fl) := ds_own hN hi hx hf ha hs
theorem ownF (i : Nat) {fl : Fsv} (hN : c.N.Nodup) (ha : DF c a fl) (hi : c.N[i]? = some x := by rfl) (hx : Loc c.sc x := by first | exact Or.inl rfl | exact Or.inr rfl) (hf : c.fn x = true ∨ c.sc.names.lookup x = some .local := by first | exact Or.inl rfl | exact Or.inr rfl)
    (hs : ∀ X, InC c X → swapsWith a (some (.Name x p)) pos.line X.env = pure false := by exact fun _ _ => rfl) : DS c (.Assign [.Name x p] a pos) (sOwnF i fl) := ds_ownF hN hi hx hf ha hs
theorem cell (i : Nat) {fl : Fsv} (hN : c.N.Nodup) (ha : DF c a fl) (hi : c.N[i]? = some x := by rfl) (hx : Loc c.sc x := by first | exact Or.inl rfl | exact Or.inr rfl) (hf : c.fn x = true ∨ c.sc.names.lookup x = some .local := by first | exact Or.inl rfl | exact Or.inr rfl)
    (hs : ∀ X, InC c X → swapsWith a (some (.Name x p)) pos.line X.env = pure false := by exact fun _ _ => rfl) : DS c (.Assign [.Name x p] a pos) (sCell i fl) := ds_cell hN hi hx hf ha hs
theorem aug (i : Nat) {op : Operator} {f : PyData → PyData → Option PyData} (hN : c.N.Nodup) (ho : ∀ X, InC c X → OpR X (inplaceOp op) (rD X.K f)) (ha : DE c a fa) (hi : c.N[i]? = some x := by rfl) (hx : Loc c.sc x := by first | exact Or.inl rfl | exact Or.inr rfl) (hf : c.fn x = true ∨ c.sc.names.lookup x = some .local := by first | exact Or.inl rfl | exact Or.inr rfl) :
    DS c (.AugAssign (.Name x p) op a pos) (sAug f i fa) := ds_aug ho hN hi hx hf ha
theorem paug (i : Nat) {op : Operator} {f : PyData → PyData → Option PyData} (ho : ∀ X, InC c X → OpR X (inplaceOp op) (rD X.K f)) (hk : DE c a fk) (hva : DE c b fv) (hN : c.N[i]? = some x := by rfl) (hv : Vis c.sc x := by first | exact Or.inl rfl | exact Or.inr (Or.inl rfl) | exact Or.inr (Or.inr rfl)) (hd : (x == ("__debug__" : Str)) = false := by decide) (hcd : (x == ("__classdict__" : Str)) = false := by decide)
    (ha : ∀ ov iv new, augStore a ov iv new = (do holding [new, ov, iv] (setItem ov iv new); release [new, ov, iv] []; pure .next) := by exact fun _ _ _ => rfl) : DS c (.AugAssign (.Subscript (.Name x p) a p2) op b pos) (sPutAug f i fk fv) := ds_putAug ho hN hv hd hcd hk hva ha
theorem put (i : Nat) (hk : DE c a fk) (hva : DE c b fv) (hN : c.N[i]? = some x := by rfl) (hv : Vis c.sc x := by first | exact Or.inl rfl | exact Or.inr (Or.inl rfl) | exact Or.inr (Or.inr rfl)) (hd : (x == ("__debug__" : Str)) = false := by decide) (hcd : (x == ("__classdict__" : Str)) = false := by decide)
    (hs : ∀ X, InC c X → swapsWithSole [.Subscript (.Name x p) a p2] b pos.line X.env = pure false := by exact fun _ _ => rfl) (hw : ∀ X, InC c X → swappedStores [.Subscript (.Name x p) a p2] b X.env = pure none := by exact fun _ _ => rfl)
    (h1 : ∀ X, InC c X → (assignEach [.Subscript (.Name x p) a p2] X.env).map (·.2) = [assign (.Subscript (.Name x p) a p2) X.env] := by exact fun _ _ => rfl)
    (ha : ∀ X, InC c X → ∀ v, assign (.Subscript (.Name x p) a p2) X.env v = (do
      let ov ← holding [v] (eval (.Name x p) X.env)
      let iv ← holding [v, ov] (eval a X.env)
      standAt p2
      holding [v, ov, iv] (setItem ov iv v)
      release [v, ov, iv] []) := by exact fun _ _ _ => rfl) : DS c (.Assign [.Subscript (.Name x p) a p2] b pos) (sPut i fk fv) := ds_put hN hv hd hcd hk hva hs hw h1 ha
theorem mutm (i : Nat) {id : String} {name : Str} {hh : PyData → PyData → Option PyData} (slot : Slot "list" name id) (hty : typeOf (.builtin id) = pure (.type "method_descriptor")) (hmt : ∀ X, MtR X id (rMut X.K hh))
    (hm : ∀ m d m', hh m d = some m' → ∃ ds, m = .list ds) (ha : DE c a fa) (hN : c.N[i]? = some x := by rfl) (hv : Vis c.sc x := by first | exact Or.inl rfl | exact Or.inr (Or.inl rfl) | exact Or.inr (Or.inr rfl)) (hd : (x == ("__debug__" : Str)) = false := by decide) (hcd : (x == ("__classdict__" : Str)) = false := by decide) (hst : noStar [a] = true := by rfl)
    (hbase : ∀ X, InC c X → attributeBase (.Name x p) name X.env (eval (.Name x p) X.env) = eval (.Name x p) X.env := by exact fun _ _ => rfl)
    (hfew : ∀ X, InC c X → ((backTo cpos (starEach [a] X.env)).all (fun x => !x.1) && (backToKw cpos (keywordEach [] X.env)).all (fun x => x.1.isSome)
      && decide ([a].length + ([] : List Keyword).length + (if ([] : List Keyword).isEmpty then 0 else 1) < 30)) = true := by exact fun _ _ => rfl)
    (hline : (apos.endLine == cpos.line) = true := by rfl) (hs : ∀ X, InC c X → swapsWith (.Call (.Attribute (.Name x p) name apos) [a] [] cpos) none pos.line X.env = pure false := by exact fun _ _ => rfl) :
    DS c (.Expr (.Call (.Attribute (.Name x p) name apos) [a] [] cpos) pos) (sMut hh i fa) := ds_mut slot hty hmt hm hN hv hd hcd ha hst hbase hfew hline hs
theorem isa (T : String) (hm : c.mg "isinstance" = none) (hm2 : c.mg y = none) (ha : DE c a fa) (hg : c.sc.names.lookup ("isinstance" : Str) = some .globalImplicit := by rfl) (hg2 : c.sc.names.lookup y = some .globalImplicit := by rfl) (hv : bootBuiltins y = some (.type T) := by kernel_rfl) (hn : y ≠ "__name__" := by decide) (hdb : (y == ("__debug__" : Str)) = false := by decide)
    (hst : noStar [a, .Name y q] = true := by rfl) : DE c (.Call (.Name "isinstance" p) [a, .Name y q] [] pos) (eIsa T fa) := de_isa rfl hg hm hg2 hm2 hv ha hn hdb hst
theorem cb {id : String} {f : List PyData → Option PyData} (hc : ∀ X, InC c X → CallR X (.builtin id) (rCD X.K f)) (hm : c.mg x = none) (ha : DA c (e :: es) fs) (hg : c.sc.names.lookup x = some .globalImplicit := by rfl) (hv : bootBuiltins x = some (.builtin id) := by kernel_rfl)
    (hn : x ≠ "__name__" := by decide) (hdb : (x == ("__debug__" : Str)) = false := by decide) (hst : noStar (e :: es) = true := by rfl) : DE c (.Call (.Name x p) (e :: es) [] pos) (eB f fs) := de_callB hc hg hm hv ha hn hdb hst
theorem ct {T : String} {f : List PyData → Option PyData} (hc : ∀ X, InC c X → CallR X (.type T) (rCD X.K f)) (hm : c.mg x = none) (ha : DA c (e :: es) fs) (hg : c.sc.names.lookup x = some .globalImplicit := by rfl) (hv : bootBuiltins x = some (.type T) := by kernel_rfl)
    (hn : x ≠ "__name__" := by decide) (hdb : (x == ("__debug__" : Str)) = false := by decide) (hst : noStar (e :: es) = true := by rfl) : DE c (.Call (.Name x p) (e :: es) [] pos) (eB f fs) := de_callTy hc hg hm hv ha hn hdb hst
theorem lcb {id : String} {f : List PyData → Option (List PyData)} (hc : ∀ X, InC c X → CallR X (.builtin id) (rCL X.K f)) (hm : c.mg x = none) (ha : DA c (e :: es) fs) (hg : c.sc.names.lookup x = some .globalImplicit := by rfl) (hv : bootBuiltins x = some (.builtin id) := by kernel_rfl)
    (hn : x ≠ "__name__" := by decide) (hdb : (x == ("__debug__" : Str)) = false := by decide) (hst : noStar (e :: es) = true := by rfl) : DLs c (.Call (.Name x p) (e :: es) [] pos) (lB f fs) := dl_callB hc hg hm hv ha hn hdb hst
theorem lct {T : String} {f : List PyData → Option (List PyData)} (hc : ∀ X, InC c X → CallR X (.type T) (rCL X.K f)) (hm : c.mg x = none) (ha : DA c (e :: es) fs) (hg : c.sc.names.lookup x = some .globalImplicit := by rfl) (hv : bootBuiltins x = some (.type T) := by kernel_rfl)
    (hn : x ≠ "__name__" := by decide) (hdb : (x == ("__debug__" : Str)) = false := by decide) (hst : noStar (e :: es) = true := by rfl) : DLs c (.Call (.Name x p) (e :: es) [] pos) (lB f fs) := dl_callTy hc hg hm hv ha hn hdb hst
section
variable {P : Program} {w : World} {K : PySem.W.Frag} {mg : Str → Option Value} {base : Heap} {k : Nat}
theorem cpk {f : List PyData → Option PyData} (hk : k ≤ c.k) (kn : Kn (cM P w K mg base) x k (SpP f)) (ha : DA c (e :: es) fs) (h1 : c.P = P := by rfl) (h2 : c.w = w := by rfl) (h3 : c.K = K := by rfl) (h4 : c.mg = mg := by rfl) (h5 : c.base = base := by rfl) (hg : c.sc.names.lookup x = some .globalImplicit := by rfl)
    (hdb : (x == ("__debug__" : Str)) = false := by decide) (hst : noStar (e :: es) = true := by rfl) : DE c (.Call (.Name x p) (e :: es) [] pos) (eCP f fs) := de_callP (kn.to h1 h2 h3 h4 h5) hk hg ha hdb hst
theorem cp0 {f : List PyData → Option PyData} (hk : k ≤ c.k) (kn : Kn (cM P w K mg base) x k (SpP f)) (h1 : c.P = P := by rfl) (h2 : c.w = w := by rfl) (h3 : c.K = K := by rfl) (h4 : c.mg = mg := by rfl) (h5 : c.base = base := by rfl) (hg : c.sc.names.lookup x = some .globalImplicit := by rfl)
    (hdb : (x == ("__debug__" : Str)) = false := by decide) : DE c (.Call (.Name x p) [] [] pos) (eCP f aNil) := de_call0 (kn.to h1 h2 h3 h4 h5) hk hg hdb
theorem cgk {F : List D → Sto → Option (D × Sto)} (hk : k ≤ c.k) (kn : Kn (cM P w K mg base) x k (SpG (cM P w K mg base).c0 F)) (ha : DA c (e :: es) fs) (h1 : c.P = P := by rfl) (h2 : c.w = w := by rfl) (h3 : c.K = K := by rfl) (h4 : c.mg = mg := by rfl) (h5 : c.base = base := by rfl) (hg : c.sc.names.lookup x = some .globalImplicit := by rfl)
    (hdb : (x == ("__debug__" : Str)) = false := by decide) (hst : noStar (e :: es) = true := by rfl) : DE c (.Call (.Name x p) (e :: es) [] pos) (eCG F fs) := by
  subst h1 h2 h3 h4 h5
  exact de_callG ⟨kn.ex⟩ hk hg ha hdb hst
end
variable {g : Gv} {t : Tv} {f : Ev} {it : Lsv} {is : List Nat} {tg iter elt : Expr} {ifs : List Expr} {scope : Scope} {lpos : Pos}
theorem lcomp (hN : c.N.Nodup) {own : List (Str × Nat)} (hi : DI c false tg iter it) (ok : BlkOk c.N c.sc scope own) (hg : DG (c.blk scope) is tg g) (ht : DTs (c.blk scope) ifs t) (he : DE (c.blk scope) elt f)
    (his : ∀ i ∈ is, i ∈ own.map (·.2)) (hs : ∀ X, InC c X → ∀ x, foldedSetIterable iter X.env x = pure x := by exact fun _ _ _ => rfl) : DLs c (.ListComp elt [⟨tg, iter, ifs, 0⟩] scope pos) (lComp (own.map (·.2)) it g t f) := dl_comp hN hi ok hg ht he his hs
theorem lc (i : Nat) (hN : c.N.Nodup) {own : List (Str × Nat)} (hi : DI c false tg iter it) (ok : BlkOk c.N c.sc scope own) (hg : DG (c.blk scope) is tg g) (ht : DTs (c.blk scope) ifs t) (he : DE (c.blk scope) elt f)
    (his : ∀ i ∈ is, i ∈ own.map (·.2)) (hy : c.N[i]? = some y := by rfl) (hyl : c.sc.names.lookup y = some .local := by rfl) (hk : c.sc.kind = .function := by rfl) (hl : (q.line == lpos.line) = true := by rfl)
    (ha : (scope.names.any fun (n, k) => n == y && (k == .local || k == .cell)) = false := by kernel_rfl) (hs : ∀ X, InC c X → ∀ x, foldedSetIterable iter X.env x = pure x := by exact fun _ _ _ => rfl) :
    ∃ tl, (∀ X, InC c X → PS X (.Assign [.Name y q] (.ListComp elt [⟨tg, iter, ifs, 0⟩] scope lpos) pos) (tAsg tl (gName i))) ∧ LvOk c tl (lComp (own.map (·.2)) it g t f) :=
  ds_lc hN hy hyl (fun X hX => sw_true (by rw [hX.sc]; exact hk) (by rw [hX.sc]; exact hyl) hl ha) hi ok hg ht he his hs
variable {px py pz pt pt2 : Pos} {kt k2 : Nat}
def isStar : Expr → Bool
  | .Starred _ _ => true
  | _ => false
theorem no_star : ∀ {es : List Expr}, noStar es = true → es.any isStar = false
  | [], _ => rfl
  | e :: es, h => by
    have h1 : isStar e = false := by cases e <;> first | rfl | (simp [noStar] at h)
    rw [List.any_cons, h1, no_star (star_tl h)]
    rfl
theorem swp2 {env : Env} (hk : env.scope.kind = .function) (hx : env.scope.names.lookup x = some .local) (hy : env.scope.names.lookup y = some .local) (hl : (py.line == px.line) = true) (hne : [x, y].eraseDups.length = 2)
    (hst : noStar [a, b] = true) (hf : [a, b].all (foldedForSure 8) = false) (hc : [a, b].all (constantsAlone 8) = false) : swappedStores [.Tuple [.Name x px, .Name y py] kt pt] (.Tuple [a, b] k2 pt2) env = pure (some [x, y]) := by
  have ky : env.kindOf y = some .local := hy
  have kx : env.kindOf x = some .local := hx
  have hb : env.blockKind = .function := by unfold Env.blockKind; rw [hk]; rfl
  have h1 : (Expr.Name x px).pos.line = px.line := rfl
  unfold swappedStores
  simp only [hb, kx, ky, hf, hc, h1, List.head?_cons, Option.map_some, Option.getD_some, List.filterMap_cons, List.filterMap_nil, hl, beq_self_eq_true, Bool.and_true, if_true, hne, List.length_cons, List.length_nil]
  refine (if_neg (by decide)).trans ((if_neg fun h => ?_).trans rfl)
  have h : [a, b].any isStar = true := h
  rw [no_star hst] at h
  cases h
theorem swp3 {env : Env} (hk : env.scope.kind = .function) (hx : env.scope.names.lookup x = some .local) (hy : env.scope.names.lookup y = some .local) (hz : env.scope.names.lookup z = some .local) (hl : (py.line == px.line) = true) (hl2 : (pz.line == px.line) = true) (hne : [x, y, z].eraseDups.length = 3)
    (hst : noStar [a, b, d3] = true) (hf : [a, b, d3].all (foldedForSure 8) = false) (hc : [a, b, d3].all (constantsAlone 8) = false) : swappedStores [.Tuple [.Name x px, .Name y py, .Name z pz] kt pt] (.Tuple [a, b, d3] k2 pt2) env = pure (some [x, y, z]) := by
  have ky : env.kindOf y = some .local := hy
  have kx : env.kindOf x = some .local := hx
  have kz : env.kindOf z = some .local := hz
  have hb : env.blockKind = .function := by unfold Env.blockKind; rw [hk]; rfl
  have h1 : (Expr.Name x px).pos.line = px.line := rfl
  unfold swappedStores
  simp only [hb, kx, ky, kz, hf, hc, h1, List.head?_cons, Option.map_some, Option.getD_some, List.filterMap_cons, List.filterMap_nil, hl, hl2, beq_self_eq_true, Bool.and_true, if_true, hne, List.length_cons, List.length_nil]
  refine (if_neg (by decide)).trans ((if_neg fun h => ?_).trans rfl)
  have h : [a, b, d3].any isStar = true := h
  rw [no_star hst] at h
  cases h
theorem par2 (i j : Nat) (hN : c.N.Nodup) (ha : DA c [a, b] fs) (hi : c.N[i]? = some x := by rfl) (hj : c.N[j]? = some y := by rfl) (hij : i ≠ j := by decide) (hx : c.sc.names.lookup x = some .local := by rfl) (hy : c.sc.names.lookup y = some .local := by rfl)
    (hk : c.sc.kind = .function := by rfl) (hl : (py.line == px.line) = true := by rfl) (hne : [x, y].eraseDups.length = 2 := by kernel_rfl) (hst : noStar [a, b] = true := by rfl) (hf : [a, b].all (foldedForSure 8) = false := by kernel_rfl) (hc : [a, b].all (constantsAlone 8) = false := by kernel_rfl)
    (hs : ∀ X, InC c X → swapsWithSole [.Tuple [.Name x px, .Name y py] kt pt] (.Tuple [a, b] k2 pt2) pos.line X.env = pure false := by exact fun _ _ => rfl) :
    DS c (.Assign [.Tuple [.Name x px, .Name y py] kt pt] (.Tuple [a, b] k2 pt2) pos) (sPar [i, j] fs) := ds_par hN hi hj hij hx hy ha (fun X hX => swp2 (by rw [hX.sc]; exact hk) (by rw [hX.sc]; exact hx) (by rw [hX.sc]; exact hy) hl hne hst hf hc) hs
theorem par3 (i j l : Nat) (hN : c.N.Nodup) (ha : DA c [a, b, d3] fs) (hi : c.N[i]? = some x := by rfl) (hj : c.N[j]? = some y := by rfl) (hlz : c.N[l]? = some z := by rfl) (hij : i ≠ j := by decide) (hil : i ≠ l := by decide) (hjl : j ≠ l := by decide) (hx : c.sc.names.lookup x = some .local := by rfl) (hy : c.sc.names.lookup y = some .local := by rfl) (hz : c.sc.names.lookup z = some .local := by rfl)
    (hk : c.sc.kind = .function := by rfl) (hl : (py.line == px.line) = true := by rfl) (hl2 : (pz.line == px.line) = true := by rfl) (hne : [x, y, z].eraseDups.length = 3 := by kernel_rfl) (hst : noStar [a, b, d3] = true := by rfl) (hf : [a, b, d3].all (foldedForSure 8) = false := by kernel_rfl) (hc : [a, b, d3].all (constantsAlone 8) = false := by kernel_rfl)
    (hs : ∀ X, InC c X → swapsWithSole [.Tuple [.Name x px, .Name y py, .Name z pz] kt pt] (.Tuple [a, b, d3] k2 pt2) pos.line X.env = pure false := by exact fun _ _ => rfl) :
    DS c (.Assign [.Tuple [.Name x px, .Name y py, .Name z pz] kt pt] (.Tuple [a, b, d3] k2 pt2) pos) (sPar [i, j, l] fs) := ds_par3 hN hi hj hlz hij hil hjl hx hy hz ha (fun X hX => swp3 (by rw [hX.sc]; exact hk) (by rw [hX.sc]; exact hx) (by rw [hX.sc]; exact hy) (by rw [hX.sc]; exact hz) hl hl2 hne hst hf hc) hs
/-- a tuple target's slots hold data -/
def NfG (is : List Nat) (g : Gv) : Prop := ∀ d ρ ρ', g d ρ = some ρ' → ∀ (i : Nat) (m : PyData), ρ'[i]? = some (some (D.f m)) → ρ[i]? = some (some (D.f m)) ∧ i ∉ is
def NfGs (is : List Nat) (g : Gsv) : Prop := ∀ d ρ ρ', g d ρ = some ρ' → ∀ (i : Nat) (m : PyData), ρ'[i]? = some (some (D.f m)) → ρ[i]? = some (some (D.f m)) ∧ i ∉ is
theorem nf_name (i : Nat) : NfG [i] (gN i) := fun d ρ ρ' h j m e => by
  unfold gN at h
  split at h
  · rename_i hl
    cases h
    by_cases hj : j = i
    · subst hj
      rw [List.getElem?_set_self hl] at e
      cases e
    · rw [List.getElem?_set_ne (Ne.symm hj)] at e
      exact ⟨e, by simpa using hj⟩
  · cases h
theorem nfs_nil : NfGs [] gNil := fun d ρ ρ' h i m e => by
  cases d with
  | nil => cases h; exact ⟨e, by simp⟩
  | cons _ _ => cases h
theorem nfs_cons {is js : List Nat} {g : Gv} {gs : Gsv} (hg : NfG is g) (hgs : NfGs js gs) : NfGs (is ++ js) (gCons g gs) := fun d ρ ρ' h i m e => by
  cases d with
  | nil => cases h
  | cons d ds =>
    obtain ⟨ρ1, e1, e2⟩ := Option.bind_eq_some_iff.mp (show (g d ρ).bind (fun ρ1 => gs ds ρ1) = _ from h)
    obtain ⟨q1, q2⟩ := hgs ds ρ1 ρ' e2 i m e
    obtain ⟨q3, q4⟩ := hg d ρ ρ1 e1 i m q1
    exact ⟨q3, fun z => (List.mem_append.mp z).elim q4 q2⟩
theorem nf_tup {is : List Nat} {gs : Gsv} (h : NfGs is gs) : NfG is (gT gs) := fun d ρ ρ' e => by
  cases d with
  | tuple ds => exact h ds ρ ρ' e
  | _ => cases e
theorem NfG.gnf {is : List Nat} {g : Gv} (h : NfG is g) : GNf is g := fun d ρ ρ' e i m q => (h d ρ ρ' e i m q).2
theorem sw_env {tgs : List Expr} {v : Expr} {env env' : Env} (h : env.scope = env'.scope) : swappedStores tgs v env = swappedStores tgs v env' := by
  unfold swappedStores Env.kindOf Env.blockKind
  rw [h]
theorem asg {is : List Nat} {g : Gv} (ha : DE c a fa) (hg : DG c is tg g) (nf : GNf is g) (hw : ∀ env : Env, swappedStores [tg] a { env with scope := c.sc } = pure none := by exact fun _ => rfl) (hs : ∀ X, InC c X → swapsWithSole [tg] a pos.line X.env = pure false := by exact fun _ _ => rfl)
    (h1 : ∀ X, InC c X → (assignEach [tg] X.env).map (·.2) = [assign tg X.env] := by exact fun _ _ => rfl) : DS c (.Assign [tg] a pos) (sAsg fa g) := ds_asg ha hg nf hs (fun X hX => (sw_env (env' := { X.env with scope := c.sc }) hX.sc).trans (hw _)) h1
theorem sws_env {tg : Option Expr} {v : Expr} {l : Nat} {env env' : Env} (h : env.scope = env'.scope) : swapsWith v tg l env = swapsWith v tg l env' := by
  unfold swapsWith Env.kindOf Env.blockKind
  rw [h]
/-- a comprehension to a name that is a cell -/
theorem setX (i : Nat) (hN : c.N.Nodup) (ha : DE c a fa) (hi : c.N[i]? = some x := by rfl) (hx : Loc c.sc x := by first | exact Or.inl rfl | exact Or.inr rfl) (hf : c.fn x = true ∨ c.sc.names.lookup x = some .local := by first | exact Or.inl rfl | exact Or.inr rfl)
    (hs : ∀ env : Env, swapsWith a (some (.Name x p)) pos.line { env with scope := c.sc } = pure false := by exact fun _ => rfl) : DS c (.Assign [.Name x p] a pos) (sAsg fa (gN i)) := ds_set hN hi hx hf ha fun X hX => (sws_env (env' := { X.env with scope := c.sc }) hX.sc).trans (hs _)
theorem ownX (i : Nat) {fl : Lsv} (hN : c.N.Nodup) (ha : DLs c a fl) (hi : c.N[i]? = some x := by rfl) (hx : Loc c.sc x := by first | exact Or.inl rfl | exact Or.inr rfl) (hf : c.fn x = true ∨ c.sc.names.lookup x = some .local := by first | exact Or.inl rfl | exact Or.inr rfl)
    (hs : ∀ env : Env, swapsWith a (some (.Name x p)) pos.line { env with scope := c.sc } = pure false := by exact fun _ => rfl) : DS c (.Assign [.Name x p] a pos) (sOwn i fl) := ds_own hN hi hx hf ha fun X hX => (sws_env (env' := { X.env with scope := c.sc }) hX.sc).trans (hs _)
end
end DL
namespace DL
open PySem PySem.Spec L2
open PyProof.Rows hiding St
/-! ### zip -/
def zipD (xs ys : List PyData) : List PyData := List.zipWith (fun x y => .tuple [x, y]) xs ys
theorem zipD_get {xs ys : List PyData} {i : Nat} {d : PyData} (h : (zipD xs ys)[i]? = some d) : ∃ x y, xs[i]? = some x ∧ ys[i]? = some y ∧ d = .tuple [x, y] := by
  unfold zipD at h
  rw [List.getElem?_zipWith] at h
  split at h
  · rename_i x y h1 h2
    cases h
    exact ⟨x, y, h1, h2, rfl⟩
  · cases h
theorem zipD_len {xs ys : List PyData} : (zipD xs ys).length = min xs.length ys.length := by
  unfold zipD
  simp
section
variable {K : PySem.W.Frag} {H' : Hp} {L' : AdP} {a b : Addr} {xs ys : List V} {ds es : List PyData}
theorem zip_new {H : Hp} {L : AdP} {T : Addr} {x y : V} {d e : PyData} (hn : H T = none) (h1 : At H L x d) (h2 : At H L y e) : (∀ a o, H a = some o → upd H T (.tup [x, y]) a = some o) ∧ ((∀ a, L a → Nt H a) → At (upd H T (.tup [x, y])) L (.ref T) (.tuple [d, e])) :=
  ⟨upd_grow hn, fun hl => .newT (fun a z => (hl a z).ne) hn (.cons h1 (.cons h2 .nil))⟩
theorem now_zipL (h : H' a = some (.lst xs)) (h2 : H' b = some (.lst ys)) (r : AtL H' L' xs ds) (r2 : AtL H' L' ys es) : ItNow H' L' (Itz K a b) (zipD ds es) := by
  refine ⟨fun i d e => ?_, fun i d x H2 e y => ?_, ⟨xs, ys, .of h, .of h2, ?_⟩⟩
  · obtain ⟨u, v, e1, e2, rfl⟩ := zipD_get e
    obtain ⟨x, q1, _⟩ := r.get e1
    obtain ⟨y, q2, _⟩ := r2.get e2
    exact ⟨xs, ys, x, y, .of h, .of h2, q1, q2⟩
  · obtain ⟨u, v, e1, e2, rfl⟩ := zipD_get e
    obtain ⟨T, x1, y1, rfl, hn, rfl, f1, f2⟩ := y
    obtain ⟨x2, q1, a1⟩ := r.get e1
    obtain ⟨y2, q2, a2⟩ := r2.get e2
    have g1 := f1 xs (.of h)
    have g2 := f2 ys (.of h2)
    rw [q1] at g1
    rw [q2] at g2
    cases g1
    cases g2
    exact zip_new hn a1 a2
  · rw [zipD_len, r.length, r2.length]
    omega
theorem now_zipT (h : H' a = some (.tup xs)) (h2 : H' b = some (.tup ys)) (r : AtL H' L' xs ds) (r2 : AtL H' L' ys es) : ItNow H' L' (RZ.ItzT K a b) (zipD ds es) := by
  refine ⟨fun i d e => ?_, fun i d x H2 e y => ?_, ⟨xs, ys, .of h, .of h2, ?_⟩⟩
  · obtain ⟨u, v, e1, e2, rfl⟩ := zipD_get e
    obtain ⟨x, q1, _⟩ := r.get e1
    obtain ⟨y, q2, _⟩ := r2.get e2
    exact ⟨xs, ys, x, y, .of h, .of h2, q1, q2⟩
  · obtain ⟨u, v, e1, e2, rfl⟩ := zipD_get e
    obtain ⟨T, x1, y1, rfl, hn, rfl, f1, f2⟩ := y
    obtain ⟨x2, q1, a1⟩ := r.get e1
    obtain ⟨y2, q2, a2⟩ := r2.get e2
    have g1 := f1 xs (.of h)
    have g2 := f2 ys (.of h2)
    rw [q1] at g1
    rw [q2] at g2
    cases g1
    cases g2
    exact zip_new hn a1 a2
  · rw [zipD_len, r.length, r2.length]
    omega
end
def iZ (fs : Av) : Lsv := fun ρ S => (fs ρ S).bind fun p => match p.1 with
  | [.p (.list ds), .p (.list es)] => if ds.length ≤ sizeLine then some (zipD ds es, p.2) else none
  | [.p (.tuple ds), .p (.tuple es)] => if ds.length ≤ sizeLine then some (zipD ds es, p.2) else none
  | _ => none
section
variable {c : Cxt} {a b : Expr} {fa fb : Ev} {fs : Av} {p pos tpos : Pos} {elts : List Expr} {kk : Nat}
theorem di_zip (hg : c.sc.names.lookup ("zip" : Str) = some .globalImplicit) (hm : c.mg ("zip" : Str) = none) (ha : DA c [a, b] fs) (hst : noStar [a, b] = true) : DI c true (.Tuple elts kk tpos) (.Call (.Name "zip" p) [a, b] [] pos) (iZ fs) := by
  obtain ⟨ta, pa, va⟩ := ha
  refine ⟨_, fun X hX => by have h := RZ.pi_zipA (X := X) (p := p) (pos := pos) (tpos := tpos) (elts := elts) (kk := kk) (by show X.env.scope.names.lookup _ = _; rw [hX.sc]; exact hg) (by rw [hX.mg]; exact hm) (pa X hX) (star_cons hst) (star_any (star_tl hst)); rw [hX.K] at h; exact h, fun Lf adr S σ H ρ ds S' R I e w => ?_⟩
  unfold iZ at e
  obtain ⟨⟨x, S1⟩, e1, e2⟩ := Option.bind_eq_some_iff.mp e
  refine va Lf adr S σ H ρ _ _ _ I e1 fun vs adr1 H1 x1 s1 r1 => ?_
  simp only at e2
  split at e2
  · rename_i ds' es'
    split at e2
    · rename_i hz
      cases e2
      cases r1 with
      | cons q1 rr =>
        cases rr with
        | cons q2 rr =>
          cases rr
          have q1 : At H1 _ _ (.list ds') := q1
          have q2 : At H1 _ _ (.list es') := q2
          cases q1 with
          | lst n1 h1 k1 =>
            cases q2 with
            | lst n2 h2 k2 =>
              refine ⟨_, _, _, _, rfl, .inl ⟨.of h1, .of h2, w _ adr1 H1 x1 s1 (fun H' L' t _ => ?_) (by rw [zipD_len]; omega)⟩⟩
              have t1 := t _ (by rw [h1]; exact fun z => nomatch z) n1
              have t2 := t _ (by rw [h2]; exact fun z => nomatch z) n2
              exact now_zipL (t1.1.1 _ h1) (t2.1.1 _ h2) (k1.tr t) (k2.tr t)
    · cases e2
  · rename_i ds' es'
    split at e2
    · rename_i hz
      cases e2
      cases r1 with
      | cons q1 rr =>
        cases rr with
        | cons q2 rr =>
          cases rr
          have q1 : At H1 _ _ (.tuple ds') := q1
          have q2 : At H1 _ _ (.tuple es') := q2
          cases q1 with
          | tup n1 h1 k1 =>
            cases q2 with
            | tup n2 h2 k2 =>
              refine ⟨_, _, _, _, rfl, .inr ⟨.of h1, .of h2, w _ adr1 H1 x1 s1 (fun H' L' t _ => ?_) (by rw [zipD_len]; omega)⟩⟩
              have t1 := t _ (by rw [h1]; exact fun z => nomatch z) n1
              have t2 := t _ (by rw [h2]; exact fun z => nomatch z) n2
              exact now_zipT (t1.1.2.1 _ h1) (t2.1.2.1 _ h2) (k1.tr t) (k2.tr t)
    · cases e2
  · cases e2
/-! ### range with a step -/
def rngC (lo c : Int) (n : Nat) : List PyData := (List.range n).map fun i => .int (lo + (i : Nat) * c)
theorem now_rngC {H' : Hp} {L' : AdP} {lo cc : Int} {n : Nat} : ItNow H' L' (Itc lo cc n) (rngC lo cc n) := by
  have hl : (rngC lo cc n).length = n := by unfold rngC; simp
  refine ⟨fun i d e => ?_, fun i d x H2 e y => ?_, by rw [hl]; exact Nat.le_refl n⟩
  · have := (List.getElem?_eq_some_iff.mp e).1
    rw [hl] at this
    exact this
  · obtain ⟨rfl, rfl⟩ := y
    have hi := (List.getElem?_eq_some_iff.mp e).1
    rw [hl] at hi
    unfold rngC at e
    rw [List.getElem?_map, List.getElem?_range hi] at e
    cases e
    exact ⟨fun _ _ z => z, fun _ => .int _⟩
/-- range(i, j, -1) -/
def iRm (fs : Av) : Lsv := fun ρ S => (fs ρ S).bind fun p => match p.1 with
  | [.p (.int i), .p (.int j), .p (.int c)] => if c = -1 ∧ -4611686018427387904 ≤ i ∧ i < 4611686018427387904 ∧ -4611686018427387904 ≤ j ∧ j < 4611686018427387904 ∧ (i - j).toNat ≤ 16777216 then some (rngC i (-1) (i - j).toNat, p.2) else none
  | _ => none
theorem di_rm {tg d : Expr} (hg : c.sc.names.lookup ("range" : Str) = some .globalImplicit) (hm : c.mg ("range" : Str) = none) (ha : DA c [a, b, d] fs) (hst : noStar [a, b, d] = true) : DI c true tg (.Call (.Name "range" p) [a, b, d] [] pos) (iRm fs) := by
  obtain ⟨ta, pa, va⟩ := ha
  refine ⟨_, fun X hX => pi_range3 (by show X.env.scope.names.lookup _ = _; rw [hX.sc]; exact hg) (by rw [hX.mg]; exact hm) (pa X hX) (star_cons hst) (star_any (star_tl hst)), fun Lf adr S σ H ρ ds S' R I e w => ?_⟩
  unfold iRm at e
  obtain ⟨⟨x, S1⟩, e1, e2⟩ := Option.bind_eq_some_iff.mp e
  refine va Lf adr S σ H ρ _ _ _ I e1 fun vs adr1 H1 x1 s1 r1 => ?_
  simp only at e2
  split at e2
  · rename_i i j cc
    split at e2
    · rename_i hz
      cases e2
      obtain ⟨rfl, h1, h2, h3, h4, h5⟩ := hz
      cases r1 with
      | cons q1 rr =>
        cases rr with
        | cons q2 rr =>
          cases rr with
          | cons q3 rr =>
            cases rr
            have q1 : At H1 _ _ (.int i) := q1
            have q2 : At H1 _ _ (.int j) := q2
            have q3 : At H1 _ _ (.int (-1)) := q3
            cases q1
            cases q2
            cases q3
            exact ⟨i, j, -1, _, rfl, RgC.neg (by omega) (by omega) (by omega) (by omega), w _ adr1 H1 x1 s1 (fun H' L' t _ => now_rngC) (by rw [sizeLine_eq]; unfold rngC; simp; omega)⟩
    · cases e2
  · cases e2
end
end DL
namespace DL
open PySem PySem.Spec L2
open PyProof.Rows hiding St
/-! ### methods of lists that give a value -/
def rMV (K : PySem.W.Frag) (f : PyData → PyData → Option PyData) : V → List V → Hp → VK → Prop := fun x vs H Q => ∃ (L : AdP) (v : V) (m d r : PyData), (∀ z, L z → H z ≠ none) ∧ vs = [v] ∧ Vw K H L x m ∧ Vw K H L v d ∧ f m d = some r ∧ Gr H L Q r
def countD (m d : PyData) : Option PyData := match m with | .list xs => if xs.all fit = true ∧ fit d = true then some (.int ((xs.countP fun y => PyData.eqv y d : Nat) : Int)) else none | _ => none
section
variable {X : Cx}
theorem hm_count (hu : X.A.units + 100 < cLine) : MtR X "list.count" (rMV X.K countD) := by
  intro pins s σ H x vs v us Q I rx rv h
  obtain ⟨L, y, m, d, r, hl, rfl, hm, hd, e, q⟩ := h
  unfold countD at e
  split at e
  · rename_i ds
    split at e
    · rename_i hc
      cases e
      obtain ⟨p1, p2⟩ := fitL_ok hc.1
      obtain ⟨p3, p4⟩ := fitN_ok 20 d hc.2
      obtain ⟨a, xs, its, rfl, rvs, hl', h2, r2, e1, e2⟩ := hm.isList I
      cases rx
      obtain ⟨u, rfl, ru⟩ := vals1 rv
      obtain ⟨as, ha⟩ := r2.reads I rvs p1
      obtain ⟨bs, hb⟩ := hd.reads I ru p3
      exact PySem.SeqAt.count_list_data hl' (by simpa using ha) hb p1 p3 (by omega) ⟨.int _, H, I.tok _, ⟨_, rfl⟩, q _ _ (fun _ _ z => z) (.int _)⟩
    · cases e
  · cases e
def indexD (m d : PyData) : Option PyData := match m with | .list xs => if xs.all fit = true ∧ fit d = true ∧ xs.length ≤ sizeLine then (PySem.SeqAt.dataPlace xs d).map fun j => .int (j : Nat) else none | _ => none
theorem hm_index (hu : X.A.units + 100 < cLine) : MtR X "list.index" (rMV X.K indexD) := by
  intro pins s σ H x vs v us Q I rx rv h
  obtain ⟨L, y, m, d, r, hl, rfl, hm, hd, e, q⟩ := h
  unfold indexD at e
  split at e
  · rename_i ds
    split at e
    · rename_i hc
      obtain ⟨j, ej, rfl⟩ := Option.map_eq_some_iff.mp e
      obtain ⟨p1, p2⟩ := fitL_ok hc.1
      obtain ⟨p3, p4⟩ := fitN_ok 20 d hc.2.1
      obtain ⟨a, xs, its, rfl, rvs, hl', h2, r2, e1, e2⟩ := hm.isList I
      cases rx
      obtain ⟨u, rfl, ru⟩ := vals1 rv
      obtain ⟨as, ha⟩ := r2.reads I rvs p1
      obtain ⟨bs, hb⟩ := hd.reads I ru p3
      have ha' : ReadsAll s.heap its.toArray.toList ds as := by simpa using ha
      obtain ⟨hj, hit, hno⟩ := PySem.SeqAt.hit_at ha' p1 ej
      obtain ⟨⟨cls, dd, data, sl⟩, ho, hc1, n, hd1⟩ := id hl'
      simp only at hc1 hd1
      subst hc1 hd1
      have hln := PySem.SeqAt.len_at ha'
      have hjz : (j : Int) < 2 ^ 63 - 1 := by have := sizeLine_eq; have := hc.2.2; omega
      exact call_meets PySem.F.slot_list_index ⟨_, ho, rfl⟩ PySem.F.entry_list_index (PySem.F.args_list_index_2 _ _)
        (SeqAt.list_indexAt a its.toArray n dd sl u (fun z => PyData.eqv (SeqAt.readOf s.heap z) d) j hj hjz hit hno) ⟨ho, SeqAt.items_plain ha' hb p1 p3 (by omega), .int _, H, I.tok _, ⟨_, rfl⟩, q _ _ (fun _ _ z => z) (.int _)⟩
    · cases e
  · cases e
end
section
variable {c : Cxt} {o a : Expr} {fo fa : Ev}
def eMeth (f : PyData → PyData → Option PyData) (fo fa : Ev) : Ev := fun ρ S => (fo ρ S).bind fun p => (vw p.2 p.1).bind fun m0 => match m0 with
  | .list _ => (fa ρ p.2).bind fun q => (vw q.2 p.1).bind fun m => (vw q.2 q.1).bind fun d => (f m d).bind fun r => some (.p r, q.2)
  | _ => none
theorem de_meth {id : String} {name : Str} {f : PyData → PyData → Option PyData} {apos cpos : Pos} (slot : Slot "list" name id) (hty : typeOf (.builtin id) = pure (.type "method_descriptor")) (hmt : ∀ X, InC c X → MtR X id (rMV X.K f)) (ho : DE c o fo) (ha : DE c a fa) (hst : noStar [a] = true := by rfl)
    (hbase : ∀ X, InC c X → attributeBase o name X.env (eval o X.env) = eval o X.env := by exact fun _ _ => rfl)
    (hfew : ∀ X, InC c X → ((backTo cpos (starEach [a] X.env)).all (fun x => !x.1) && (backToKw cpos (keywordEach [] X.env)).all (fun x => x.1.isSome)
      && decide ([a].length + ([] : List Keyword).length + (if ([] : List Keyword).isEmpty then 0 else 1) < 30)) = true := by exact fun _ _ => rfl)
    (hline : (apos.endLine == cpos.line) = true := by rfl) : DE c (.Call (.Attribute o name apos) [a] [] cpos) (eMeth f fo fa) := by
  obtain ⟨to, po, vo⟩ := ho
  obtain ⟨ta, pa, va⟩ := ha
  refine ⟨tBM c.K "list" (rMV c.K f) to (tCons ta tNil), fun X hX => by
    have h := pe_bm (cpos := cpos) (apos := apos) PySem.F.plainAttrs_list slot hty (hmt X hX) (po X hX) (pa_cons (pa X hX) pa_nil (star_cons hst)) (hbase X hX) (hfew X hX) hline (star_cons hst) rfl
    rw [hX.K] at h
    exact h, fun Lf adr S σ H ρ d S' Q I e w => ?_⟩
  unfold eMeth at e
  simp only [Option.bind_eq_some_iff] at e
  obtain ⟨⟨x, S1⟩, e1, m0, e2, e3⟩ := e
  cases m0 with
  | list ds0 =>
    simp only [Option.bind_eq_some_iff] at e3
    obtain ⟨⟨y, S2⟩, e4, m, e5, dd, e6, r, e7, e8⟩ := e3
    cases e8
    refine vo Lf adr S σ H ρ x S1 _ I e1 fun v adr1 H1 x1 s1 r1 => ?_
    obtain ⟨b, xs, rfl, hq, _⟩ := (vw_ok s1 r1 e2).list_inv
    refine ⟨.inl ⟨rfl, _, hq⟩, va Lf adr1 S1 σ H1 ρ y S2 _ (I.ext x1 s1) e4 fun u adr2 H2 x2 s2 r2 => ?_⟩
    exact ⟨_, u, m, dd, r, fun z => s2.lvv, rfl, vw_ok s2 (r1.ext0 s1 x2) e5, vw_ok s2 r2 e6, e7, wi_gr s2 (w.trans (x1.trans x2))⟩
  | _ => cases e3
end
end DL
namespace DL
open PySem PySem.Spec L2
open PyProof.Rows hiding St
/-! ### plain walking: what an option gives -/
def W {α : Type} (o : Option α) (Q : α → Prop) : Prop := ∃ x, o = some x ∧ Q x
theorem W_congr {α : Type} {o o' : Option α} {Q : α → Prop} (h : o = o') : W o Q = W o' Q := by rw [h]
@[simp ↓] theorem W_some {α : Type} {x : α} {Q : α → Prop} : W (some x) Q = Q x := propext ⟨fun ⟨_, e, q⟩ => by cases e; exact q, fun q => ⟨x, rfl, q⟩⟩
@[simp ↓] theorem W_none {α : Type} {Q : α → Prop} : W none Q = False := propext ⟨fun ⟨_, e, _⟩ => (by cases e), False.elim⟩
theorem W_bind {α β : Type} {o : Option α} {f : α → Option β} {Q : β → Prop} : W (o.bind f) Q = W o fun x => W (f x) Q := propext (by
  cases o with
  | none => simp [W]
  | some x => simp [W])
theorem W_ite {α : Type} {c : Prop} [Decidable c] {a b : Option α} {Q : α → Prop} : W (if c then a else b) Q = (if c then W a Q else W b Q) := by split <;> rfl
theorem W_map {α β : Type} {o : Option α} {f : α → β} {Q : β → Prop} : W (o.map f) Q = W o fun x => Q (f x) := by
  cases o <;> simp [W_some, W_none]
theorem W_req {α : Type} {c : Prop} [Decidable c] {x : α} {Q : α → Prop} : W (if c then some x else none) Q = (c ∧ Q x) := by
  rw [W_ite, W_some, W_none]
  split <;> simp [*]
theorem W.mono {α : Type} {o : Option α} {Q Q' : α → Prop} (h : W o Q) (k : ∀ x, Q x → Q' x) : W o Q' := let ⟨x, e, q⟩ := h; ⟨x, e, k x q⟩
theorem W.eq {α : Type} {o : Option α} {Q : α → Prop} {x : α} (e : o = some x) (q : Q x) : W o Q := ⟨x, e, q⟩
theorem W_out {α : Type} {o : Option α} {x : α} (h : W o fun y => y = x) : o = some x := let ⟨_, e, q⟩ := h; q ▸ e
section
variable {ρ : Env'} {S : Sto} {fa fb fc : Ev} {fs : Av} {t u : Tv} {i : Nat} {d : PyData} {f g : Sv}
abbrev QE := D × Sto → Prop
variable {Q : QE} {QT : Bool × Sto → Prop} {QA : List D × Sto → Prop} {QL : List PyData × Sto → Prop} {QF : PyData × Sto → Prop} {QS : Out → Prop} {QR : Env' → Prop}
/-- a slot's content -/
def sl (ρ : Env') (i : Nat) : Option D := ρ[i]?.bind id
@[simp ↓] theorem w_var : W (eVar i ρ S) Q = W (sl ρ i) fun d => Q (d, S) := by
  unfold eVar sl
  rcases h : ρ[i]? with _ | (_ | d) <;> simp [W_none, W_some]
@[simp ↓] theorem w_c : W (eC d ρ S) Q = Q (.p d, S) := W_some
@[simp ↓] theorem w_e2 {op : PyData → PyData → Option PyData} : W (e2 op fa fb ρ S) Q = W (fa ρ S) fun p => W (fb ρ p.2) fun q => W (vw q.2 p.1) fun a => W (vw q.2 q.1) fun b => W (op a b) fun r => Q (.p r, q.2) := by
  unfold e2
  simp only [W_bind, W_some]
@[simp ↓] theorem w_e3 {op op' : PyData → PyData → Option PyData} : W (e3 op op' fa fb fc ρ S) Q = W (fa ρ S) fun p => W (fb ρ p.2) fun q => W (vw q.2 p.1) fun a => W (vw q.2 q.1) fun b => W (op a b) fun r =>
    match r with
    | .bool k => if k = true then W (fc ρ q.2) fun w => W (vw w.2 q.1) fun b' => W (vw w.2 w.1) fun c => W (op' b' c) fun r => Q (.p r, w.2) else Q (.p (.bool false), q.2)
    | _ => False := by
  unfold e3
  simp only [W_bind]
  congr; funext p; congr; funext q; congr; funext a; congr; funext b; congr; funext r
  cases r with
  | bool k => simp only [W_ite, W_bind, W_some]
  | _ => exact W_none
@[simp ↓] theorem w_not : W (eNot fa ρ S) Q = W (fa ρ S) fun p => match p.1 with | .p (.bool b) => Q (.p (.bool (!b)), p.2) | _ => False := by
  unfold eNot
  simp only [W_bind]
  congr; funext p
  obtain ⟨x, S1⟩ := p
  cases x <;> first | exact W_none | (rename_i d; cases d <;> first | exact W_none | exact W_some)
@[simp ↓] theorem w_neg : W (eNeg fa ρ S) Q = W (fa ρ S) fun p => match p.1 with | .p (.int b) => Q (.p (.int (-b)), p.2) | _ => False := by
  unfold eNeg
  simp only [W_bind]
  congr; funext p
  obtain ⟨x, S1⟩ := p
  cases x <;> first | exact W_none | (rename_i d; cases d <;> first | exact W_none | exact W_some)
@[simp ↓] theorem w_and : W (eAnd fa fb ρ S) Q = W (fa ρ S) fun p => match p.1 with | .p (.bool b) => (if b = true then W (fb ρ p.2) Q else Q (.p (.bool false), p.2)) | _ => False := by
  unfold eAnd
  simp only [W_bind]
  congr; funext p
  obtain ⟨x, S1⟩ := p
  cases x <;> first | exact W_none | (rename_i d; cases d <;> first | exact W_none | exact W_ite.trans (by rw [W_some]))
@[simp ↓] theorem w_or : W (eOr fa fb ρ S) Q = W (fa ρ S) fun p => match p.1 with | .p (.bool b) => (if b = true then Q (.p (.bool true), p.2) else W (fb ρ p.2) Q) | _ => False := by
  unfold eOr
  simp only [W_bind]
  congr; funext p
  obtain ⟨x, S1⟩ := p
  cases x <;> first | exact W_none | (rename_i d; cases d <;> first | exact W_none | exact W_ite.trans (by rw [W_some]))
@[simp ↓] theorem w_if : W (eIf t fa fb ρ S) Q = W (t ρ S) fun p => if p.1 = true then W (fa ρ p.2) Q else W (fb ρ p.2) Q := by
  unfold eIf
  simp only [W_bind, W_ite]
@[simp ↓] theorem w_tup : W (eTup fs ρ S) Q = W (fs ρ S) fun p => W (pvs p.1) fun ds => ds.length ≤ 10000 ∧ Q (.p (.tuple ds), p.2) := by
  unfold eTup
  simp only [W_bind, W_ite, W_some, W_none]
  congr; funext p; congr; funext ds
  split <;> simp [*]
@[simp ↓] theorem w_b {op : List PyData → Option PyData} : W (eB op fs ρ S) Q = W (fs ρ S) fun p => W (vws p.2 p.1) fun ds => W (op ds) fun r => Q (.p r, p.2) := by
  unfold eB
  simp only [W_bind, W_some]
@[simp ↓] theorem w_isa {T : String} : W (eIsa T fa ρ S) Q = W (fa ρ S) fun p => W (vw p.2 p.1) fun d => W (isaN T d) fun r => Q (.p r, p.2) := by
  unfold eIsa
  simp only [W_bind, W_some]
@[simp ↓] theorem w_sx {fl fh : Ov} : W (eSx fa fl fh ρ S) Q = W (fa ρ S) fun p => W (fl ρ p.2) fun q => W (fh ρ q.2) fun r => W (vw r.2 p.1) fun d => W (sliceX d q.1 r.1) fun z => Q (.p z, r.2) := by
  unfold eSx
  simp only [W_bind, W_some]
@[simp ↓] theorem w_o0 {QO : Option Int × Sto → Prop} : W (oNone ρ S) QO = QO (none, S) := W_some
@[simp ↓] theorem w_o1 {QO : Option Int × Sto → Prop} : W (oSome fa ρ S) QO = W (fa ρ S) fun p => match p.1 with | .p (.int i) => QO (some i, p.2) | _ => False := by
  unfold oSome
  simp only [W_bind]
  congr; funext p
  obtain ⟨x, S1⟩ := p
  cases x <;> first | exact W_none | (rename_i d; cases d <;> first | exact W_none | exact W_some)
@[simp ↓] theorem w_l {fl : Lsv} : W (eL fl ρ S) Q = W (fl ρ S) fun p => Q (.p (.list p.1), p.2) := by
  unfold eL
  simp only [W_bind, W_some]
@[simp ↓] theorem w_f {fl : Fsv} : W (eF fl ρ S) Q = W (fl ρ S) fun p => Q (.p p.1, p.2) := by
  unfold eF
  simp only [W_bind, W_some]
@[simp ↓] theorem w_cp {F : List PyData → Option PyData} : W (eCP F fs ρ S) Q = W (fs ρ S) fun p => W (pvs p.1) fun ds => W (F ds) fun r => Q (.p r, p.2) := by
  unfold eCP
  simp only [W_bind, W_some]
@[simp ↓] theorem w_cg {F : List D → Sto → Option (D × Sto)} : W (eCG F fs ρ S) Q = W (fs ρ S) fun p => W (F p.1 p.2) Q := by
  unfold eCG
  simp only [W_bind]
@[simp ↓] theorem w_meth {op : PyData → PyData → Option PyData} : W (eMeth op fa fb ρ S) Q = W (fa ρ S) fun p => W (vw p.2 p.1) fun m0 => match m0 with
    | .list _ => W (fb ρ p.2) fun q => W (vw q.2 p.1) fun m => W (vw q.2 q.1) fun d => W (op m d) fun r => Q (.p r, q.2)
    | _ => False := by
  unfold eMeth
  simp only [W_bind]
  congr; funext p; congr; funext m
  cases m <;> first | exact W_none | (simp only [W_bind, W_some])
/-! tests -/
@[simp ↓] theorem w_tb : W (tB fa ρ S) QT = W (fa ρ S) fun p => match p.1 with | .p (.bool b) => QT (b, p.2) | _ => False := by
  unfold tB
  simp only [W_bind]
  congr; funext p
  obtain ⟨x, S1⟩ := p
  cases x <;> first | exact W_none | (rename_i d; cases d <;> first | exact W_none | exact W_some)
@[simp ↓] theorem w_tt : W (tTr fa ρ S) QT = W (fa ρ S) fun p => W (vw p.2 p.1) fun d => W (truthD d) fun b => QT (b, p.2) := by
  unfold tTr
  simp only [W_bind, W_some]
@[simp ↓] theorem w_tand : W (tAnd t u ρ S) QT = W (t ρ S) fun p => if p.1 = true then W (u ρ p.2) QT else QT (false, p.2) := by
  unfold tAnd
  simp only [W_bind, W_ite, W_some]
@[simp ↓] theorem w_tor : W (tOr t u ρ S) QT = W (t ρ S) fun p => if p.1 = true then QT (true, p.2) else W (u ρ p.2) QT := by
  unfold tOr
  simp only [W_bind, W_ite, W_some]
@[simp ↓] theorem w_tnot : W (tNot t ρ S) QT = W (t ρ S) fun p => QT (!p.1, p.2) := by
  unfold tNot
  simp only [W_bind, W_some]
@[simp ↓] theorem w_tyes : W (tYes ρ S) QT = QT (true, S) := W_some
/-! arguments -/
@[simp ↓] theorem w_a0 : W (aNil ρ S) QA = QA ([], S) := W_some
@[simp ↓] theorem w_a1 : W (aCons fa fs ρ S) QA = W (fa ρ S) fun p => W (fs ρ p.2) fun q => QA (p.1 :: q.1, q.2) := by
  unfold aCons
  simp only [W_bind, W_some]
/-! fresh lists, objects -/
@[simp ↓] theorem w_ldisp : W (lDisp fs ρ S) QL = W (fs ρ S) fun p => W (pvs p.1) fun ds => ds.length ≤ 10000 ∧ QL (ds, p.2) := by
  unfold lDisp
  simp only [W_bind, W_ite, W_some, W_none]
  congr; funext p; congr; funext ds
  split <;> simp [*]
@[simp ↓] theorem w_lb {op : List PyData → Option (List PyData)} : W (lB op fs ρ S) QL = W (fs ρ S) fun p => W (vws p.2 p.1) fun ds => W (op ds) fun r => QL (r, p.2) := by
  unfold lB
  simp only [W_bind, W_some]
@[simp ↓] theorem w_le2 {op : PyData → PyData → Option (List PyData)} : W (lE2 op fa fb ρ S) QL = W (fa ρ S) fun p => W (fb ρ p.2) fun q => W (vw1 q.2 p.1) fun a => W (vw1 q.2 q.1) fun b => W (op a b) fun r => QL (r, q.2) := by
  unfold lE2
  simp only [W_bind, W_some]
@[simp ↓] theorem w_lcomp {is : List Nat} {it : Lsv} {gg : Gv} : W (lComp is it gg t fa ρ S) QL = W (it ρ S) fun p => W (compL gg t fa (wipeE ρ is) p.1 p.2) QL := by
  unfold lComp
  simp only [W_bind]
@[simp ↓] theorem w_fl {fl : Lsv} : W (fL fl ρ S) QF = W (fl ρ S) fun p => QF (.list p.1, p.2) := by
  unfold fL
  simp only [W_bind, W_some]
@[simp ↓] theorem w_femp : W (fEmp ρ S) QF = QF (.dict [], S) := W_some
@[simp ↓] theorem w_fdisp {pv : Pv} : W (fDisp pv ρ S) QF = W (pv ρ S) fun p => ((p.1.all fun q => isKK q.1) = true ∧ p.1.length ≤ 15) ∧ QF (.dict (mergeD p.1), p.2) := by
  unfold fDisp
  simp only [W_bind, W_req]
@[simp ↓] theorem w_p0 {QP : List (PyData × PyData) × Sto → Prop} : W (pNil ρ S) QP = QP ([], S) := W_some
@[simp ↓] theorem w_p1 {QP : List (PyData × PyData) × Sto → Prop} {r : Pv} : W (pCons fa fb r ρ S) QP = W (fa ρ S) fun p => match p.1 with
    | .p k => W (fb ρ p.2) fun q => (match q.1 with | .p v => W (r ρ q.2) fun z => QP ((k, v) :: z.1, z.2) | _ => False)
    | _ => False := by
  unfold pCons
  simp only [W_bind]
  congr; funext p
  obtain ⟨x, S1⟩ := p
  cases x <;> first | exact W_none | skip
  refine W_bind.trans ?_
  congr; funext q
  obtain ⟨y, S2⟩ := q
  cases y <;> first | exact W_none | (refine W_bind.trans ?_; simp only [W_some])
/-! iterators -/
@[simp ↓] theorem w_ir : W (iR fs ρ S) QL = W (fs ρ S) fun p => match p.1 with
    | [.p (.int j)] => (j ≤ 16777216 ∧ -4611686018427387904 ≤ j) ∧ QL (rngD 0 j.toNat, p.2)
    | [.p (.int i), .p (.int j)] => (-4611686018427387904 ≤ i ∧ i < 4611686018427387904 ∧ -4611686018427387904 ≤ j ∧ j < 4611686018427387904 ∧ (j - i).toNat ≤ 16777216) ∧ QL (rngD i (j - i).toNat, p.2)
    | _ => False := by
  unfold iR
  simp only [W_bind]
  congr; funext p
  obtain ⟨x, S1⟩ := p
  simp only
  split
  · exact W_req
  · exact W_req
  · rename_i h1 h2
    rw [W_none] <;> (split; (exact absurd rfl (h1 _)); (exact absurd rfl (h2 _ _)); rfl)
@[simp ↓] theorem w_iz : W (iZ fs ρ S) QL = W (fs ρ S) fun p => match p.1 with
    | [.p (.list ds), .p (.list es)] => ds.length ≤ sizeLine ∧ QL (zipD ds es, p.2)
    | [.p (.tuple ds), .p (.tuple es)] => ds.length ≤ sizeLine ∧ QL (zipD ds es, p.2)
    | _ => False := by
  unfold iZ
  simp only [W_bind]
  congr; funext p
  obtain ⟨x, S1⟩ := p
  simp only
  split
  · exact W_req
  · exact W_req
  · rename_i h1 h2
    rw [W_none] <;> (split; (exact absurd rfl (h1 _ _)); (exact absurd rfl (h2 _ _)); rfl)
@[simp ↓] theorem w_irm : W (iRm fs ρ S) QL = W (fs ρ S) fun p => match p.1 with
    | [.p (.int i), .p (.int j), .p (.int c)] => (c = -1 ∧ -4611686018427387904 ≤ i ∧ i < 4611686018427387904 ∧ -4611686018427387904 ≤ j ∧ j < 4611686018427387904 ∧ (i - j).toNat ≤ 16777216) ∧ QL (rngC i (-1) (i - j).toNat, p.2)
    | _ => False := by
  unfold iRm
  simp only [W_bind]
  congr; funext p
  obtain ⟨x, S1⟩ := p
  simp only
  split
  · exact W_req
  · rename_i h1
    rw [W_none] <;> (split; (exact absurd rfl (h1 _ _ _)); rfl)
@[simp ↓] theorem w_ip : W (iP fa ρ S) QL = W (fa ρ S) fun p => match p.1 with
    | .p (.list ds) => ds.length ≤ sizeLine ∧ QL (ds, p.2)
    | .p (.tuple ds) => ds.length ≤ sizeLine ∧ QL (ds, p.2)
    | _ => False := by
  unfold iP
  simp only [W_bind]
  congr; funext p
  obtain ⟨x, S1⟩ := p
  cases x <;> first | exact W_none | (rename_i d; cases d <;> first | exact W_none | exact W_req)
@[simp ↓] theorem w_ipo : W (iPO fa ρ S) QL = W (fa ρ S) fun p => match p.1 with
    | .p (.list ds) => ds.length ≤ sizeLine ∧ QL (ds, p.2)
    | .p (.tuple ds) => ds.length ≤ sizeLine ∧ QL (ds, p.2)
    | .o (.list ds) => ds.length ≤ sizeLine ∧ QL (ds, p.2)
    | _ => False := by
  unfold iPO
  simp only [W_bind]
  congr; funext p
  obtain ⟨x, S1⟩ := p
  cases x <;> first | exact W_none | (rename_i d; cases d <;> first | exact W_none | exact W_req)
/-! statements -/
@[simp ↓] theorem w_nx : W (sNx ρ S) QS = QS (.nx ρ S) := W_some
@[simp ↓] theorem w_bk : W (sBk ρ S) QS = QS (.bk ρ S) := W_some
@[simp ↓] theorem w_ct : W (sCt ρ S) QS = QS (.ct ρ S) := W_some
@[simp ↓] theorem w_seq : W (sSeq f g ρ S) QS = W (f ρ S) fun o => match o with | .nx ρ' S' => W (g ρ' S') QS | .rt d S' => QS (.rt d S') | .bk ρ' S' => QS (.bk ρ' S') | .ct ρ' S' => QS (.ct ρ' S') := by
  unfold sSeq
  rw [W_bind]
  congr; funext o
  cases o <;> first | rfl | exact W_some
@[simp ↓] theorem w_sif : W (sIf t f g ρ S) QS = W (t ρ S) fun p => if p.1 = true then W (f ρ p.2) QS else W (g ρ p.2) QS := by
  unfold sIf
  simp only [W_bind, W_ite]
@[simp ↓] theorem w_ret : W (sRet fa ρ S) QS = W (fa ρ S) fun p => match p.1 with | .p d => QS (.rt (.p d) p.2) | .c k => QS (.rt (.c k) p.2) | _ => False := by
  unfold sRet
  simp only [W_bind]
  congr; funext p
  obtain ⟨x, S1⟩ := p
  cases x <;> first | exact W_none | exact W_some
@[simp ↓] theorem w_retN : W (sRetN ρ S) QS = QS (.rt (.p .none) S) := W_some
@[simp ↓] theorem w_retV : W (sRetV i ρ S) QS = W (sl ρ i) fun d => match d with | .o m => QS (.rt (.p m) S) | .p m => QS (.rt (.p m) S) | .c k => QS (.rt (.c k) S) | _ => False := by
  unfold sRetV sl
  rcases h : ρ[i]? with _ | (_ | d)
  · simp [W_none]
  · simp [W_none]
  · cases d <;> simp [W_none, W_some]
@[simp ↓] theorem w_asg {gg : Gv} : W (sAsg fa gg ρ S) QS = W (fa ρ S) fun p => match p.1 with | .p d => W (gg d ρ) fun ρ' => QS (.nx ρ' p.2) | _ => False := by
  unfold sAsg
  simp only [W_bind]
  congr; funext p
  obtain ⟨x, S1⟩ := p
  cases x <;> first | exact W_none | (refine W_bind.trans ?_; simp only [W_some])
@[simp ↓] theorem w_gn : W (gN i d ρ) QR = (i < ρ.length ∧ QR (ρ.set i (some (.p d)))) := W_req
@[simp ↓] theorem w_gt {gs : Gsv} : W (gT gs d ρ) QR = match d with | .tuple ds => W (gs ds ρ) QR | _ => False := by
  unfold gT
  cases d <;> first | exact W_none | rfl
@[simp ↓] theorem w_g0 : W (gNil [] ρ) QR = QR ρ := W_some
@[simp ↓] theorem w_g1 {gg : Gv} {gs : Gsv} {ds : List PyData} : W (gCons gg gs (d :: ds) ρ) QR = W (gg d ρ) fun ρ1 => W (gs ds ρ1) QR := W_bind
@[simp ↓] theorem w_g1n {gg : Gv} {gs : Gsv} : W (gCons gg gs [] ρ) QR = False := W_none
@[simp ↓] theorem w_g0c {ds : List PyData} : W (gNil (d :: ds) ρ) QR = False := W_none
@[simp ↓] theorem w_own {fl : Lsv} : W (sOwn i fl ρ S) QS = W (fl ρ S) fun p => i < ρ.length ∧ QS (.nx (ρ.set i (some (.o (.list p.1)))) p.2) := by
  unfold sOwn
  simp only [W_bind, W_req]
@[simp ↓] theorem w_ownF {fl : Fsv} : W (sOwnF i fl ρ S) QS = W (fl ρ S) fun p => i < ρ.length ∧ QS (.nx (ρ.set i (some (.o p.1))) p.2) := by
  unfold sOwnF
  simp only [W_bind, W_req]
@[simp ↓] theorem w_cell {fl : Fsv} : W (sCell i fl ρ S) QS = W (fl ρ S) fun p => i < ρ.length ∧ QS (.nx (ρ.set i (some (.c p.2.length))) (p.2 ++ [some (.d p.1)])) := by
  unfold sCell
  simp only [W_bind, W_req]
/-- a cell's data -/
def cd (S : Sto) (k : Nat) : Option PyData := match S[k]? with | some (some (.d m)) => some m | _ => none
@[simp ↓] theorem w_mut {hh : PyData → PyData → Option PyData} : W (sMut hh i fa ρ S) QS = W (sl ρ i) fun x => match x with
    | .o m => W (fa ρ S) fun p => (match p.1 with | .p d => W (hh m d) fun m' => QS (.nx (ρ.set i (some (.o m'))) p.2) | _ => False)
    | .c k => W (cd S k) fun m0 => (match m0 with | .list _ => W (fa ρ S) fun p => (match p.1 with | .p d => W (cd p.2 k) fun m => W (hh m d) fun m' => QS (.nx ρ (p.2.set k (some (.d m')))) | _ => False) | _ => False)
    | _ => False := by
  unfold sMut sl cd
  rcases h : ρ[i]? with _ | (_ | x)
  · simp [W_none]
  · simp [W_none]
  · cases x with
    | o m =>
      simp only [Option.bind_some, id, W_some, W_bind]
      congr; funext p
      obtain ⟨y, S1⟩ := p
      cases y <;> first | exact W_none | (refine W_bind.trans ?_; simp only [W_some])
    | c k =>
      simp only [Option.bind_some, id, W_some]
      split
      · rename_i ds hk
        simp only [hk, W_bind, W_some]
        congr; funext p
        obtain ⟨y, S1⟩ := p
        cases y <;> first | exact W_none | skip
        simp only
        split
        · rename_i m hm
          simp only [hm, W_bind, W_some]
        · rename_i hm
          simp only [W_none]
      · rename_i hk
        rw [W_none]
        split
        · rename_i m hm
          rw [W_some]
          cases m <;> first | rfl | exact absurd hm (hk _)
        · rw [W_none]
    | _ => simp [W_none, W_some]
@[simp ↓] theorem w_drop : W (sDrop fa ρ S) QS = W (fa ρ S) fun p => QS (.nx ρ p.2) := by
  unfold sDrop
  simp only [W_bind, W_some]
@[simp ↓] theorem w_aug {op : PyData → PyData → Option PyData} : W (sAug op i fa ρ S) QS = W (sl ρ i) fun x => match x with
    | .p a => W (fa ρ S) fun p => W (vw p.2 p.1) fun b => W (op a b) fun r => QS (.nx (ρ.set i (some (.p r))) p.2)
    | _ => False := by
  unfold sAug sl
  rcases h : ρ[i]? with _ | (_ | x)
  · simp [W_none]
  · simp [W_none]
  · cases x with
    | p a => simp only [Option.bind_some, id, W_some, W_bind]
    | _ => simp [W_none, W_some]
@[simp ↓] theorem w_chgd {gg : PyData → Option PyData} : W (chgD i gg ρ S) QS = W (sl ρ i) fun x => match x with
    | .o m => W (gg m) fun m' => QS (.nx (ρ.set i (some (.o m'))) S)
    | .c k => W (cd S k) fun m => W (gg m) fun m' => QS (.nx ρ (S.set k (some (.d m'))))
    | _ => False := by
  unfold chgD sl cd
  rcases h : ρ[i]? with _ | (_ | x)
  · simp [W_none]
  · simp [W_none]
  · cases x with
    | o m => simp only [Option.bind_some, id, W_some, W_bind]
    | c k =>
      simp only [Option.bind_some, id, W_some]
      split
      · rename_i m hm
        simp only [hm, W_bind, W_some]
      · rename_i hm
        simp only [W_none]
    | _ => simp [W_none, W_some]
@[simp ↓] theorem w_put {fk fv : Ev} : W (sPut i fk fv ρ S) QS = W (fv ρ S) fun p => match p.1 with
    | .p v => i < ρ.length ∧ W (fk ρ p.2) fun q => (match q.1 with | .p k => W (chgD i (fun m => setD m k v) ρ q.2) QS | _ => False)
    | _ => False := by
  unfold sPut
  rw [W_bind]
  congr; funext p
  obtain ⟨x, S1⟩ := p
  cases x <;> first | exact W_none | skip
  simp only [W_ite, W_none, W_bind]
  split
  · rename_i hl
    simp only [hl, true_and]
    congr; funext q
    obtain ⟨y, S2⟩ := q
    cases y <;> first | exact W_none | rfl
  · rename_i hl
    simp [hl]
@[simp ↓] theorem w_putAug {op : PyData → PyData → Option PyData} {fk fv : Ev} : W (sPutAug op i fk fv ρ S) QS = W (fk ρ S) fun q => match q.1 with
    | .p k => W (vw1 q.2 ((sl ρ i).getD (.p .none))) fun m0 => W (ixD m0 k) fun old => W (fv ρ q.2) fun p => W (vw p.2 p.1) fun v => W (op old v) fun r => W (chgD i (fun m => setD m k r) ρ p.2) QS
    | _ => False := by
  unfold sPutAug sl
  rw [W_bind]
  congr; funext p
  obtain ⟨x, S1⟩ := p
  cases x <;> first | exact W_none | skip
  simp only [W_bind]
@[simp ↓] theorem w_par {is : List Nat} : W (sPar is fs ρ S) QS = W (fs ρ S) fun p => W (setAll is p.1 ρ) fun ρ' => QS (.nx ρ' p.2) := by
  unfold sPar
  simp only [W_bind, W_some]
@[simp ↓] theorem w_fz : W (sFz i f ρ S) QS = W (f (frzE i ρ) S) QS := rfl
@[simp ↓] theorem w_fg {is : List Nat} : W (sFg is f ρ S) QS = W (f ρ S) fun o => QS (fgO is o) := by
  unfold sFg
  simp only [W_bind, W_some]
@[simp ↓] theorem w_for {is : List Nat} {it : Lsv} {gg : Gv} {b : Sv} : W (sFor is it gg b ρ S) QS = W (it ρ S) fun p => W (forL gg (sFg is b) p.1 (wipeE ρ is) p.2) QS := by
  unfold sFor
  simp only [W_bind]
end
end DL
namespace DL
open PySem PySem.Spec L2
open PyProof.Rows hiding St
/-! ### plain walking: places -/
@[simp] theorem sl_0 {x : Option D} {ρ : Env'} : sl (x :: ρ) 0 = x := by cases x <;> rfl
@[simp] theorem sl_s {x : Option D} {ρ : Env'} {i : Nat} : sl (x :: ρ) (i + 1) = sl ρ i := rfl
@[simp] theorem wipe_0 {ρ : Env'} : wipeE ρ [] = ρ := rfl
@[simp] theorem wipe_s {ρ : Env'} {i : Nat} {is : List Nat} : wipeE ρ (i :: is) = (wipeE ρ is).set i none := rfl
@[simp] theorem frz_o {ρ : Env'} {m : PyData} : frzE 0 (some (.o m) :: ρ) = some (.p m) :: ρ := rfl
@[simp] theorem frz_p {ρ : Env'} {m : PyData} : frzE 0 (some (.p m) :: ρ) = some (.p m) :: ρ := rfl
@[simp] theorem frz_n {ρ : Env'} : frzE 0 (none :: ρ) = none :: ρ := rfl
@[simp] theorem frz_s {ρ : Env'} {x : Option D} {i : Nat} : frzE (i + 1) (x :: ρ) = x :: frzE i ρ := by
  unfold frzE
  rw [List.getElem?_cons_succ]
  split
  · rename_i h; simp [h]
  · rfl
@[simp] theorem fgO_nx {is : List Nat} {ρ : Env'} {S : Sto} : fgO is (.nx ρ S) = .nx (wipeE ρ is) S := rfl
@[simp] theorem fgO_rt {is : List Nat} {d : D} {S : Sto} : fgO is (.rt d S) = .rt d S := rfl
@[simp] theorem fgO_bk {is : List Nat} {ρ : Env'} {S : Sto} : fgO is (.bk ρ S) = .bk (wipeE ρ is) S := rfl
@[simp] theorem fgO_ct {is : List Nat} {ρ : Env'} {S : Sto} : fgO is (.ct ρ S) = .ct (wipeE ρ is) S := rfl
@[simp] theorem vw_p {S : Sto} {d : PyData} : vw S (.p d) = some d := rfl
@[simp] theorem vw_o {S : Sto} {d : PyData} : vw S (.o d) = some d := rfl
@[simp] theorem vw_f {S : Sto} {d : PyData} : vw S (.f d) = some d := rfl
@[simp] theorem vw_c {S : Sto} {k : Nat} : vw S (.c k) = cd S k := rfl
@[simp] theorem vw1_p {S : Sto} {d : PyData} : vw1 S (.p d) = some d := rfl
@[simp] theorem vw1_o {S : Sto} {d : PyData} : vw1 S (.o d) = some d := rfl
@[simp] theorem vw1_c {S : Sto} {k : Nat} : vw1 S (.c k) = cd S k := rfl
@[simp] theorem cd_0 {S : Sto} {m : PyData} : cd (some (.d m) :: S) 0 = some m := rfl
@[simp] theorem cd_s {S : Sto} {x : Option MO} {k : Nat} : cd (x :: S) (k + 1) = cd S k := rfl
@[simp] theorem vws_0 {S : Sto} : vws S [] = some [] := rfl
@[simp ↓] theorem w_vws0 {S : Sto} {Q : List PyData → Prop} : W (vws S []) Q = Q [] := W_some
@[simp ↓] theorem w_vws1 {S : Sto} {d : D} {ds : List D} {Q : List PyData → Prop} : W (vws S (d :: ds)) Q = W (vw S d) fun x => W (vws S ds) fun xs => Q (x :: xs) := by
  rw [vws]
  cases vw S d with
  | none => simp [W_none]
  | some x => cases h : vws S ds <;> simp [W_none, W_some, h]
@[simp ↓] theorem w_pvs0 {Q : List PyData → Prop} : W (pvs []) Q = Q [] := W_some
@[simp ↓] theorem w_pvs1 {d : PyData} {ds : List D} {Q : List PyData → Prop} : W (pvs (.p d :: ds)) Q = W (pvs ds) fun xs => Q (d :: xs) := by
  rw [pvs, W_map]
@[simp ↓] theorem w_pvs1o {d : PyData} {ds : List D} {Q : List PyData → Prop} : W (pvs (.o d :: ds)) Q = False := W_none
@[simp ↓] theorem w_pvs1f {d : PyData} {ds : List D} {Q : List PyData → Prop} : W (pvs (.f d :: ds)) Q = False := W_none
@[simp ↓] theorem w_sa0 {ρ : Env'} {Q : Env' → Prop} : W (setAll [] [] ρ) Q = Q ρ := W_some
@[simp ↓] theorem w_sap {i : Nat} {is : List Nat} {d : PyData} {ds : List D} {ρ : Env'} {Q : Env' → Prop} : W (setAll (i :: is) (.p d :: ds) ρ) Q = (i < ρ.length ∧ W (setAll is ds (ρ.set i (some (.p d)))) Q) := by
  show W (if _ then _ else _) Q = _
  rw [W_ite, W_none]
  split <;> simp [*]
@[simp ↓] theorem w_sac {i k : Nat} {is : List Nat} {ds : List D} {ρ : Env'} {Q : Env' → Prop} : W (setAll (i :: is) (.c k :: ds) ρ) Q = (i < ρ.length ∧ W (setAll is ds (ρ.set i (some (.c k)))) Q) := by
  show W (if _ then _ else _) Q = _
  rw [W_ite, W_none]
  split <;> simp [*]
/-! ### plain walking: data -/
section
variable {i j : Int} {x y : Str} {a b : PyData} {xs ys : List PyData}
@[simp] theorem addD_i : addD (.int i) (.int j) = some (.int (i + j)) := rfl
@[simp] theorem addI_i : addI (.int i) (.int j) = some (.int (i + j)) := rfl
@[simp] theorem subD_i : subD (.int i) (.int j) = some (.int (i - j)) := rfl
@[simp ↓] theorem w_addT {Q : PyData → Prop} : W (addD (.tuple xs) (.tuple ys)) Q = (xs.length + ys.length ≤ sizeLine ∧ Q (.tuple (xs ++ ys))) := W_req
@[simp ↓] theorem w_addS {Q : PyData → Prop} : W (addD (.str x) (.str y)) Q = (x.length + y.length ≤ sizeLine ∧ Q (.str (x ++ y))) := W_req
@[simp ↓] theorem w_mulI {Q : PyData → Prop} : W (mulI (.int i) (.int j)) Q = ((i.natAbs < 2 ^ 64 ∨ j.natAbs < 2 ^ 64) ∧ Q (.int (i * j))) := W_req
@[simp ↓] theorem w_fdiv {Q : PyData → Prop} : W (fdivD (.int i) (.int j)) Q = ((j ≠ 0 ∧ j.natAbs < 340282366920938463463374607431768211456) ∧ Q (.int (i.fdiv j))) := W_req
@[simp ↓] theorem w_mod {Q : PyData → Prop} : W (modD (.int i) (.int j)) Q = (j ≠ 0 ∧ Q (.int (i.fmod j))) := W_req
@[simp ↓] theorem w_pow {Q : PyData → Prop} : W (powD (.int i) (.int j)) Q = ((0 ≤ j ∧ j ≤ 1000000 ∧ i.natAbs < 2 ^ 64) ∧ Q (.int (i ^ j.toNat))) := W_req
@[simp] theorem fit_i : fit (.int i) = true := rfl
@[simp] theorem fit_b {k : Bool} : fit (.bool k) = true := rfl
@[simp] theorem fit_s : fit (.str x) = true := rfl
@[simp] theorem fit_n : fit .none = true := rfl
@[simp] theorem eqD_i : eqD (.int i) (.int j) = some (.bool (decide (i = j))) := by
  show some (PyData.bool (i == j)) = _
  rw [Bool.beq_eq_decide_eq]
@[simp] theorem neD_i : neD (.int i) (.int j) = some (.bool (decide (i ≠ j))) := by
  show some (PyData.bool (!(i == j))) = _
  rw [Bool.beq_eq_decide_eq]
  simp
theorem eqv_bb {k l : Bool} : PyData.eqv (.bool k) (.bool l) = (k == l) := by
  cases k <;> cases l <;> rfl
@[simp] theorem eqD_b {k l : Bool} : eqD (.bool k) (.bool l) = some (.bool (k == l)) := by
  show some (PyData.bool (PyData.eqv (.bool k) (.bool l))) = _
  rw [eqv_bb]
@[simp] theorem eqD_s : eqD (.str x) (.str y) = some (.bool (x == y)) := rfl
@[simp] theorem neD_s : neD (.str x) (.str y) = some (.bool (!(x == y))) := rfl
@[simp] theorem ltD_i : ltD (.int i) (.int j) = some (.bool (decide (i < j))) := rfl
@[simp] theorem gtD_i : gtD (.int i) (.int j) = some (.bool (decide (j < i))) := rfl
@[simp] theorem leD_i : leD (.int i) (.int j) = some (.bool (decide (i ≤ j))) := rfl
@[simp] theorem geD_i : geD (.int i) (.int j) = some (.bool (decide (j ≤ i))) := rfl
@[simp] theorem isD_n : isD a .none = some (.bool (isND a)) := rfl
@[simp] theorem isD_b {k l : Bool} : isD (.bool k) (.bool l) = some (.bool (decide (k = l))) := rfl
@[simp] theorem isNotD_b {k l : Bool} : isNotD (.bool k) (.bool l) = some (.bool (!decide (k = l))) := rfl
@[simp] theorem isNotD_n : isNotD a .none = some (.bool (!isND a)) := rfl
@[simp] theorem isND_i : isND (.int i) = false := rfl
@[simp] theorem isND_n : isND .none = true := rfl
@[simp] theorem isND_t : isND (.tuple xs) = false := rfl
@[simp] theorem isND_l : isND (.list xs) = false := rfl
@[simp] theorem isND_b {k : Bool} : isND (.bool k) = false := rfl
@[simp] theorem isND_s : isND (.str x) = false := rfl
@[simp] theorem truth_b {k : Bool} : truthD (.bool k) = some k := rfl
@[simp] theorem truth_i : truthD (.int i) = some (i != 0) := rfl
@[simp] theorem truth_n : truthD .none = some false := rfl
@[simp] theorem truth_l : truthD (.list xs) = some (!xs.isEmpty) := rfl
@[simp] theorem truth_t : truthD (.tuple xs) = some (!xs.isEmpty) := rfl
@[simp] theorem ixD_t : ixD (.tuple xs) (.int i) = atI xs i := rfl
@[simp] theorem ixD_l : ixD (.list xs) (.int i) = atI xs i := rfl
theorem atI_pos {n : Nat} : atI xs (n : Int) = xs[n]? := by
  unfold atI
  by_cases h : n < xs.length
  · unfold ixN
    rw [if_pos (by omega), if_pos (by omega)]
    simp
  · rw [List.getElem?_eq_none (by omega)]
    unfold ixN
    rw [if_pos (by omega), if_neg (by omega)]
    rfl
theorem atI_i (h0 : 0 ≤ i) : atI xs i = xs[i.toNat]? := by
  obtain ⟨n, rfl⟩ : ∃ n : Nat, i = n := ⟨i.toNat, by omega⟩
  rw [atI_pos]
  rfl
theorem atI_n (h0 : i < 0) (h : -(xs.length : Int) ≤ i) : atI xs i = xs[(i + xs.length).toNat]? := by
  unfold atI ixN
  rw [if_neg (by omega), if_pos h]
  rfl
@[simp] theorem atI_0 : atI (a :: xs) 0 = some a := by rw [atI_i (by omega)]; rfl
@[simp] theorem sx_t {lo hi : Option Int} : sliceX (.tuple xs) lo hi = some (.tuple (cutD xs lo hi)) := rfl
@[simp] theorem sx_l {lo hi : Option Int} : sliceX (.list xs) lo hi = some (.list (cutD xs lo hi)) := rfl
@[simp] theorem lenD_t : lenD [.tuple xs] = some (.int xs.length) := rfl
@[simp] theorem lenD_l : lenD [.list xs] = some (.int xs.length) := rfl
@[simp] theorem absD_i : absD [.int i] = some (.int i.natAbs) := by
  show some (PyData.int (if i < 0 then -i else i)) = _
  congr 2
  split <;> omega
@[simp] theorem intD_i : intD [.int i] = some (.int i) := rfl
@[simp] theorem tupleD_l : tupleD [.list xs] = some (.tuple xs) := rfl
@[simp] theorem tupleD_t : tupleD [.tuple xs] = some (.tuple xs) := rfl
@[simp ↓] theorem w_app {Q : PyData → Prop} : W (appD (.list xs) a) Q = (xs.length < sizeLine ∧ Q (.list (xs ++ [a]))) := W_req
@[simp ↓] theorem w_addL {Q : List PyData → Prop} : W (addL (.list xs) (.list ys)) Q = (xs.length + ys.length ≤ sizeLine ∧ Q (xs ++ ys)) := W_req
@[simp] theorem isa_tt : isaN "tuple" (.tuple xs) = some (.bool true) := by kernel_rfl
@[simp] theorem isa_ti : isaN "tuple" (.int i) = some (.bool false) := by kernel_rfl
@[simp] theorem isa_tb {k : Bool} : isaN "tuple" (.bool k) = some (.bool false) := by kernel_rfl
@[simp] theorem isa_ts : isaN "tuple" (.str x) = some (.bool false) := by kernel_rfl
@[simp] theorem isa_tn : isaN "tuple" .none = some (.bool false) := by kernel_rfl
@[simp] theorem isa_tl : isaN "tuple" (.list xs) = some (.bool false) := by kernel_rfl
@[simp] theorem isa_st : isaN "str" (.tuple xs) = some (.bool false) := by kernel_rfl
@[simp] theorem isa_si : isaN "str" (.int i) = some (.bool false) := by kernel_rfl
@[simp] theorem isa_sb {k : Bool} : isaN "str" (.bool k) = some (.bool false) := by kernel_rfl
@[simp] theorem isa_ss : isaN "str" (.str x) = some (.bool true) := by kernel_rfl
@[simp] theorem isa_sn : isaN "str" .none = some (.bool false) := by kernel_rfl
@[simp] theorem isa_sl : isaN "str" (.list xs) = some (.bool false) := by kernel_rfl
@[simp] theorem isa_it : isaN "int" (.tuple xs) = some (.bool false) := by kernel_rfl
@[simp] theorem isa_ii : isaN "int" (.int i) = some (.bool true) := by kernel_rfl
@[simp] theorem isa_ib {k : Bool} : isaN "int" (.bool k) = some (.bool true) := by kernel_rfl
@[simp] theorem isa_is : isaN "int" (.str x) = some (.bool false) := by kernel_rfl
@[simp] theorem isa_in : isaN "int" .none = some (.bool false) := by kernel_rfl
@[simp] theorem isa_il : isaN "int" (.list xs) = some (.bool false) := by kernel_rfl
@[simp] theorem isa_bt : isaN "bool" (.tuple xs) = some (.bool false) := by kernel_rfl
@[simp] theorem isa_bi : isaN "bool" (.int i) = some (.bool false) := by kernel_rfl
@[simp] theorem isa_bb {k : Bool} : isaN "bool" (.bool k) = some (.bool true) := by kernel_rfl
@[simp] theorem isa_bs : isaN "bool" (.str x) = some (.bool false) := by kernel_rfl
@[simp] theorem isa_bn : isaN "bool" .none = some (.bool false) := by kernel_rfl
@[simp] theorem isa_bl : isaN "bool" (.list xs) = some (.bool false) := by kernel_rfl
end
section
variable {n : Nat} {i : Int} {x : Str} {k : Bool} {xs ys : List PyData} {α : Type}
@[simp] theorem fitN_i : fitN n (.int i) = true := by cases n <;> rfl
@[simp] theorem fitN_b : fitN n (.bool k) = true := by cases n <;> rfl
@[simp] theorem fitN_s : fitN n (.str x) = true := by cases n <;> rfl
@[simp] theorem fitN_n : fitN n .none = true := by cases n <;> rfl
@[simp] theorem fitN_l : fitN (n + 1) (.list xs) = xs.all (fitN n) := rfl
@[simp] theorem fitN_t : fitN (n + 1) (.tuple xs) = xs.all (fitN n) := rfl
theorem eqv_l0 : PyData.eqv (.list xs) (.list []) = xs.isEmpty := by
  rw [PyData.eqv]
  cases xs <;> rfl
theorem eqv_t0 : PyData.eqv (.tuple xs) (.tuple []) = xs.isEmpty := by
  rw [PyData.eqv]
  cases xs <;> rfl
theorem eqD_l0 (h : xs.all (fitN 19) = true) : eqD (.list xs) (.list []) = some (.bool xs.isEmpty) := by
  unfold eqD
  rw [if_pos ⟨h, rfl⟩, eqv_l0]
theorem neD_l0 (h : xs.all (fitN 19) = true) : neD (.list xs) (.list []) = some (.bool (!xs.isEmpty)) := by
  unfold neD
  rw [if_pos ⟨h, rfl⟩, eqv_l0]
theorem eqD_t0 (h : xs.all (fitN 19) = true) : eqD (.tuple xs) (.tuple []) = some (.bool xs.isEmpty) := by
  unfold eqD
  rw [if_pos ⟨h, rfl⟩, eqv_t0]
theorem neD_t0 (h : xs.all (fitN 19) = true) : neD (.tuple xs) (.tuple []) = some (.bool (!xs.isEmpty)) := by
  unfold neD
  rw [if_pos ⟨h, rfl⟩, eqv_t0]
@[simp] theorem eqD_l00 : eqD (.list []) (.list []) = some (.bool true) := rfl
@[simp] theorem neD_l00 : neD (.list []) (.list []) = some (.bool false) := rfl
@[simp] theorem eqD_l0i {ns : List α} {F : α → Int} : eqD (.list (ns.map fun a => .int (F a))) (.list []) = some (.bool ns.isEmpty) := by
  rw [eqD_l0 (by simp)]
  cases ns <;> rfl
@[simp] theorem neD_l0i {ns : List α} {F : α → Int} : neD (.list (ns.map fun a => .int (F a))) (.list []) = some (.bool (!ns.isEmpty)) := by
  rw [neD_l0 (by simp)]
  cases ns <;> rfl
end
/-! ### runs -/
@[simp ↓] theorem w_runG {n N : Nat} {b : Sv} {ds : List D} {S : Sto} {Q : D × Sto → Prop} : W (runG n N b ds S) Q = (ds.length = n ∧ W (b (ds.map (fun d => some (inS d)) ++ List.replicate (N - n) none) S) fun o => match o with | .rt d S' => Q (d, S') | .nx _ S' => Q (.p .none, S') | _ => False) := by
  unfold runG
  rw [W_ite, W_none]
  split
  · rename_i h
    simp only [h, true_and]
    cases b (ds.map (fun d => some (inS d)) ++ List.replicate (N - n) none) S with
    | none => simp [W_none]
    | some o => cases o <;> simp [W_none, W_some]
  · rename_i h
    simp [h]
theorem w_runP {n N : Nat} {b : Sv} {ds : List PyData} {Q : PyData → Prop} : W (runP n N b ds) Q = W (runG n N b (ds.map .p) []) fun q => match q.1 with | .p d => Q d | _ => False := by
  unfold runP
  cases runG n N b (ds.map .p) [] with
  | none => simp [W_none]
  | some o =>
    obtain ⟨d, S⟩ := o
    cases d <;> simp [W_none, W_some]
@[simp] theorem inS_p {d : PyData} : inS (.p d) = .p d := rfl
@[simp] theorem inS_c {d : Nat} : inS (.c d) = .c d := rfl
@[simp] theorem inS_o {d : PyData} : inS (.o d) = .f d := rfl
@[simp] theorem inS_f {d : PyData} : inS (.f d) = .f d := rfl
/-! ### loops -/
theorem forL_ind {α : Type} {F : α → PyData} {g : Gv} {b : Sv} {Q : Out → Prop} (I : List α → Env' → Sto → Prop)
    (h : ∀ x r ρ S, I (x :: r) ρ S → W (g (F x) ρ) fun ρ1 => W (b ρ1 S) fun o => match o with | .nx ρ' S' => I r ρ' S' | .ct ρ' S' => I r ρ' S' | .bk ρ' S' => Q (.nx ρ' S') | .rt d S' => Q (.rt d S'))
    (hn : ∀ ρ S, I [] ρ S → Q (.nx ρ S)) : ∀ (xs : List α) (ρ : Env') (S : Sto), I xs ρ S → W (forL g b (xs.map F) ρ S) Q
  | [], ρ, S, i => ⟨_, rfl, hn ρ S i⟩
  | x :: r, ρ, S, i => by
    obtain ⟨ρ1, e1, o, e2, q⟩ := h x r ρ S i
    rw [List.map_cons]
    cases o with
    | nx ρ' S' =>
      obtain ⟨z, e3, q3⟩ := forL_ind I h hn r ρ' S' q
      exact ⟨z, by simp [forL, e1, e2, e3], q3⟩
    | ct ρ' S' =>
      obtain ⟨z, e3, q3⟩ := forL_ind I h hn r ρ' S' q
      exact ⟨z, by simp [forL, e1, e2, e3], q3⟩
    | bk ρ' S' => exact ⟨_, by simp [forL, e1, e2], q⟩
    | rt d S' => exact ⟨_, by simp [forL, e1, e2], q⟩
/-- a loop that folds -/
theorem forL_fold {α β : Type} {F : α → PyData} {g : Gv} {b : Sv} {Q : Out → Prop} (E : β → Env') (T : β → Sto) (stp : β → α → β) (P : List α → β → Prop) {xs : List α} {a : β}
    (h : ∀ x r a, P (x :: r) a → W (g (F x) (E a)) fun ρ1 => W (b ρ1 (T a)) fun o => (o = .nx (E (stp a x)) (T (stp a x)) ∨ o = .ct (E (stp a x)) (T (stp a x))) ∧ P r (stp a x)) (h0 : P xs a) (hn : P [] (xs.foldl stp a) → Q (.nx (E (xs.foldl stp a)) (T (xs.foldl stp a)))) : W (forL g b (xs.map F) (E a) (T a)) Q := by
  refine forL_ind (fun r ρ S => ∃ a', ρ = E a' ∧ S = T a' ∧ P r a' ∧ r.foldl stp a' = xs.foldl stp a) (fun x r ρ S hi => ?_) (fun ρ S hi => ?_) xs _ _ ⟨a, rfl, rfl, h0, rfl⟩
  · obtain ⟨a', rfl, rfl, p, e⟩ := hi
    refine (h x r a' p).mono fun ρ1 w => w.mono fun o ho => ?_
    rcases ho with ⟨rfl | rfl, p'⟩ <;> exact ⟨_, rfl, rfl, p', e⟩
  · obtain ⟨a', rfl, rfl, p, e⟩ := hi
    have e : a' = xs.foldl stp a := e
    subst e
    exact hn p
/-! ### comprehensions -/
theorem compL_map {α : Type} {F : α → PyData} {g : Gv} {t : Tv} {f : Ev} {ρ : Env'} {S : Sto} (p : α → Bool) (r : α → PyData) :
    ∀ (xs : List α), (∀ x ∈ xs, W (g (F x) ρ) fun ρ1 => W (t ρ1 S) fun b => b = (p x, S) ∧ (p x = true → W (f ρ1 S) fun y => y = (.p (r x), S))) → compL g t f ρ (xs.map F) S = some ((xs.filter p).map r, S)
  | [], _ => rfl
  | x :: xs, h => by
    obtain ⟨ρ1, e1, b, e2, rfl, k⟩ := h x List.mem_cons_self
    have ih := compL_map p r xs fun y hy => h y (List.mem_cons_of_mem _ hy)
    rw [List.map_cons]
    cases hp : p x with
    | true =>
      obtain ⟨y, e3, rfl⟩ := k hp
      simp [compL, e1, e2, hp, e3, ih]
    | false => simp [compL, e1, e2, hp, ih]
/-- each item gives one, and the store moves -/
theorem compL_ind {α β : Type} {F : α → PyData} {G : β → PyData} {g : Gv} {f : Ev} {ρ : Env'} (J : Sto → Prop) (R : β → Prop) :
    ∀ (xs : List α) (S : Sto), J S → (∀ x ∈ xs, ∀ S, J S → W (g (F x) ρ) fun ρ1 => W (f ρ1 S) fun y => ∃ z, y.1 = .p (G z) ∧ R z ∧ J y.2) → W (compL g tYes f ρ (xs.map F) S) fun q => ∃ zs : List β, q.1 = zs.map G ∧ zs.length = xs.length ∧ (∀ z ∈ zs, R z) ∧ J q.2
  | [], S, j, _ => ⟨_, rfl, [], rfl, rfl, fun z hz => by simp at hz, j⟩
  | x :: xs, S, j, h => by
    obtain ⟨ρ1, e1, ⟨y, S1⟩, e2, z, e3, rz, j1⟩ := h x List.mem_cons_self S j
    simp only at e3 j1
    subst e3
    obtain ⟨q, e4, zs, e5, l, r, j2⟩ := compL_ind J R xs S1 j1 fun y hy => h y (List.mem_cons_of_mem _ hy)
    rw [List.map_cons]
    refine ⟨(G z :: q.1, q.2), by simp [compL, tYes, e1, e2, e4], z :: zs, by simp [e5], by simp [l], fun y hy => ?_, j2⟩
    rcases List.mem_cons.mp hy with rfl | hy
    · exact rz
    · exact r y hy
theorem rng_0 {n : Nat} : rngD 0 n = (List.range n).map fun i : Nat => PyData.int i := by
  unfold rngD
  simp
end DL
namespace DL
open PySem PySem.Spec L2
open PyProof.Rows hiding St
/-! ### the defs that many laws have -/
/-! _law_draws -/
noncomputable def b__law_draws : Sv := sSeq (sOwn 2 (lDisp (aNil))) (sSeq (sAsg (eC (.int 7)) (gN 3)) (sSeq (sFor [4, 5, 6, 7] (iR (aCons (eB lenD (aCons (eVar 0) (aNil))) (aNil))) (gN 4) (sSeq (sAsg (eB absD (aCons (eB intD (aCons (e2 ixD (eVar 0) (eVar 4)) (aNil))) (aNil))) (gN 5)) (sSeq (sAsg (e2 modD (eB intD (aCons (e2 addD (e2 addD (e2 mulI (eVar 3) (eC (.int 48271))) (e2 modD (eVar 5) (eC (.int 1000003)))) (eVar 4)) (aNil))) (eC (.int 65537))) (gN 3)) (sSeq (sAsg (eC (.int 0)) (gN 6)) (sSeq (sIf (tB (e2 geD (eVar 5) (e2 powD (eC (.int 10)) (eC (.int 18))))) (sAsg (eVar 5) (gN 6)) (sSeq (sMut appD 2 (e2 modD (eB intD (aCons (eVar 5) (aNil))) (eC (.int 997)))) (sMut appD 2 (e2 modD (e2 modD (eB intD (aCons (e2 addD (e2 mulI (eVar 3) (eC (.int 69621))) (eC (.int 5))) (aNil))) (eC (.int 65521))) (eC (.int 997)))))) (sFor [7] (iR (aCons (eC (.int 60)) (aNil))) (gN 7) (sIf (tB (e2 gtD (eVar 6) (eC (.int 0)))) (sSeq (sMut appD 2 (e2 modD (eB intD (aCons (eVar 6) (aNil))) (eC (.int 997)))) (sAsg (e2 fdivD (eVar 6) (eC (.int 997))) (gN 6))) (sNx)))))))) (sSeq (sFor [4] (iR (aCons (eVar 1) (aNil))) (gN 4) (sSeq (sAsg (e2 modD (eB intD (aCons (e2 addD (e2 addD (e2 mulI (eVar 3) (eC (.int 16807))) (eVar 4)) (eC (.int 1))) (aNil))) (eC (.int 65537))) (gN 3)) (sMut appD 2 (e2 modD (eB intD (aCons (eVar 3) (aNil))) (eC (.int 997)))))) (sRet (eSx (eVar 2) (oNone) (oSome (eVar 1)))))))
/-! _law_next -/
noncomputable def b__law_next : Sv := sSeq (sPutAug addI 0 (eC (.str "at")) (eC (.int 1))) (sSeq (sIf (tB (e2 gtD (e2 ixD (eVar 0) (eC (.str "at"))) (eB lenD (aCons (e2 ixD (eVar 0) (eC (.str "draws"))) (aNil))))) (sRet (eC (.int 0))) (sNx)) (sRet (e2 modD (eB intD (aCons (e2 ixD (e2 ixD (eVar 0) (eC (.str "draws"))) (e2 subD (e2 ixD (eVar 0) (eC (.str "at"))) (eC (.int 1)))) (aNil))) (eVar 1))))
noncomputable def f__law_draws := runG 2 8 b__law_draws
noncomputable def f__law_next := runG 2 2 b__law_next
noncomputable def b__law_same (self : List PyData → Option PyData) : Sv := sSeq (sIf (tTr (eIsa "tuple" (eVar 1))) (sSeq (sIf (tOr (tNot (tTr (eIsa "tuple" (eVar 0)))) (tB (e2 neD (eB lenD (aCons (eVar 0) (aNil))) (eB lenD (aCons (eVar 1) (aNil)))))) (sRet (eC (.bool false))) (sNx)) (sRet (e2 eqD (eL (lComp [2] (iR (aCons (eB lenD (aCons (eVar 1) (aNil))) (aNil))) (gN 2) (tNot (tTr (eCP self (aCons (e2 ixD (eVar 0) (eVar 2)) (aCons (e2 ixD (eVar 1) (eVar 2)) (aNil)))))) (eVar 2))) (eL (lDisp (aNil)))))) (sNx)) (sSeq (sIf (tB (e2 isD (eVar 1) (eC .none))) (sRet (e2 isD (eVar 0) (eC .none))) (sNx)) (sSeq (sIf (tTr (eIsa "str" (eVar 1))) (sRet (eAnd (eIsa "str" (eVar 0)) (e2 eqD (eVar 0) (eVar 1)))) (sNx)) (sRet (eAnd (eIsa "int" (eVar 0)) (eAnd (e2 eqD (eIsa "bool" (eVar 0)) (eIsa "bool" (eVar 1))) (e2 eqD (eVar 0) (eVar 1)))))))
noncomputable def f__law_same : Nat → List PyData → Option PyData
  | 0 => fun _ => none
  | n + 1 => runP 2 3 (b__law_same (f__law_same n))
/-- a list of ints -/
def IntL (l : List PyData) : Prop := ∃ ds : List Int, l = ds.map .int
theorem IntL.nil : IntL [] := ⟨[], rfl⟩
theorem IntL.snoc {l : List PyData} {x : Int} (h : IntL l) : IntL (l ++ [.int x]) := let ⟨ds, e⟩ := h; ⟨ds ++ [x], by simp [e]⟩
theorem IntL.snoc2 {l : List PyData} {x y : Int} (h : IntL l) : IntL (l ++ [.int x, .int y]) := let ⟨ds, e⟩ := h; ⟨ds ++ [x, y], by simp [e]⟩
theorem IntL.cut {l : List PyData} {lo hi : Option Int} (h : IntL l) : IntL (cutD l lo hi) := by
  obtain ⟨ds, rfl⟩ := h
  unfold cutD
  exact ⟨(ds.drop _).take _, by rw [List.map_take, List.map_drop]⟩
theorem draws_in {A B C E F : Option D} {S : Sto} {Q : Out → Prop} (hs : 10000 < sizeLine) (r : List Nat) (l : List PyData) (x : Int) (hL : IntL l) (hl : l.length + r.length ≤ 10000)
    (hQ : ∀ (l' : List PyData) (x' : Int), IntL l' → l'.length ≤ l.length + r.length → Q (.nx [A, B, some (.o (.list l')), C, E, F, some (.p (.int x')), none] S)) :
    W (forL (gN 7) (sFg [7] (sIf (tB (e2 gtD (eVar 6) (eC (PyData.int 0)))) (sSeq (sMut appD 2 (e2 modD (eB intD (aCons (eVar 6) aNil)) (eC (PyData.int 997)))) (sAsg (e2 fdivD (eVar 6) (eC (PyData.int 997))) (gN 6))) sNx)) (r.map fun i : Nat => PyData.int i)
      [A, B, some (.o (.list l)), C, E, F, some (.p (.int x)), none] S) Q := by
  refine forL_ind (fun r' ρ S' => S' = S ∧ ∃ (l' : List PyData) (x' : Int), ρ = [A, B, some (.o (.list l')), C, E, F, some (.p (.int x')), none] ∧ IntL l' ∧ l'.length + r'.length ≤ l.length + r.length) (fun k' r' ρ S' hi => ?_) (fun ρ S' hi => ?_) _ _ _ ⟨rfl, l, x, rfl, hL, Nat.le_refl _⟩
  · obtain ⟨rfl, l', x', rfl, hL', hl'⟩ := hi
    simp only [List.length_cons] at hl'
    simp
    split
    · exact ⟨by omega, hL'.snoc, by omega⟩
    · exact ⟨hL', by omega⟩
  · obtain ⟨rfl, ds', x', rfl, hL', hl'⟩ := hi
    exact hQ ds' x' hL' (by simpa using hl')
theorem draws_okN {many : Nat} (hm : many ≤ 5000) (ns : List Int) (h : ns.length ≤ 63) (S : Sto) : ∃ ds : List Int, f__law_draws [.f (.list (ns.map .int)), .p (.int (many : Int))] S = some (.p (.list (ds.map .int)), S) := by
  suffices H : W (f__law_draws [.f (.list (ns.map .int)), .p (.int (many : Int))] S) fun q => ∃ l, IntL l ∧ q = (.p (.list l), S) by
    obtain ⟨q, e, l, ⟨ds, rfl⟩, rfl⟩ := H
    exact ⟨ds, e⟩
  unfold f__law_draws b__law_draws
  have hz : (sizeLine : Nat) = 16777216 := sizeLine_eq
  simp
  rw [rng_0]
  refine ⟨by omega, ?_⟩
  refine forL_ind (fun r ρ S' => S' = S ∧ ∃ (l : List PyData) (m : Int), ρ = [some (.f (.list (ns.map .int))), some (.p (.int (many : Int))), some (.o (.list l)), some (.p (.int m)), none, none, none, none] ∧ IntL l ∧ (∀ x ∈ r, x < ns.length) ∧ l.length + 62 * r.length ≤ 62 * 63) (fun k r ρ S' hi => ?_) (fun ρ S' hi => ?_) _ _ _ ?_
  · obtain ⟨rfl, l, m, rfl, hL, hr, hl⟩ := hi
    have hk : k < ns.length := hr k List.mem_cons_self
    have hr' : ∀ x ∈ r, x < ns.length := fun x hx => hr x (List.mem_cons_of_mem _ hx)
    simp only [List.length_cons] at hl
    simp [atI_pos, hk]
    split
    · rw [rng_0]
      refine draws_in (by omega) _ l _ hL (by simp; omega) fun l' x' hL' hl' => ?_
      simp at hl' ⊢
      exact ⟨hL', hr', by omega⟩
    · refine ⟨by omega, by omega, ?_⟩
      rw [rng_0]
      refine draws_in (by omega) _ _ _ hL.snoc2 (by simp; omega) fun l' x' hL' hl' => ?_
      simp at hl' ⊢
      exact ⟨hL', hr', by omega⟩
  · obtain ⟨rfl, l, m, rfl, hL, hr, hl⟩ := hi
    simp
    refine ⟨by omega, ?_⟩
    rw [rng_0]
    refine forL_ind (fun r ρ S'' => S'' = S' ∧ ∃ (l : List PyData) (m : Int), ρ = [some (.f (.list (ns.map .int))), some (.p (.int (many : Int))), some (.o (.list l)), some (.p (.int m)), none, none, none, none] ∧ IntL l ∧ l.length + r.length ≤ 10000) (fun k r ρ S'' hi => ?_) (fun ρ S'' hi => ?_) _ _ _ ?_
    · obtain ⟨rfl, l, m, rfl, hL, hl⟩ := hi
      simp only [List.length_cons] at hl
      simp
      exact ⟨by omega, hL.snoc, by omega⟩
    · obtain ⟨rfl, l, m, rfl, hL, hl⟩ := hi
      simp
      exact hL.cut
    · refine ⟨rfl, l, m, rfl, hL, ?_⟩
      simp at hl ⊢
      omega
  · refine ⟨rfl, [], 7, rfl, .nil, fun x hx => by simpa using hx, ?_⟩
    simp
    omega
theorem draws_ok {m : Int} (h0 : 0 ≤ m) (hm : m ≤ 5000) (ns : List Int) (h : ns.length ≤ 63) (S : Sto) : ∃ ds : List Int, f__law_draws [.f (.list (ns.map .int)), .p (.int m)] S = some (.p (.list (ds.map .int)), S) := by
  obtain ⟨many, rfl⟩ : ∃ n : Nat, m = n := ⟨m.toNat, by omega⟩
  exact draws_okN (by omega) ns h S
/-! the draws, and where they are read -/
def Wd (ds : List Int) (a : Nat) : PyData := .dict [(.str "draws", .list (ds.map .int)), (.str "at", .int a)]
def Wdi (ds : List Int) (a : Int) : PyData := .dict [(.str "draws", .list (ds.map .int)), (.str "at", .int a)]
theorem wd_at {ds : List Int} {a : Int} : ixD (Wdi ds a) (.str "at") = some (.int a) := by kernel_rfl
theorem wd_draws {ds : List Int} {a : Int} : ixD (Wdi ds a) (.str "draws") = some (.list (ds.map .int)) := by kernel_rfl
theorem wd_set {ds : List Int} {a b : Int} : setD (Wdi ds a) (.str "at") (.int b) = some (Wdi ds b) := by kernel_rfl
theorem wd_i {ds : List Int} {a : Nat} : Wd ds a = Wdi ds a := rfl
theorem w_next {ds : List Int} {a : Nat} {m : Int} {rest : Sto} {Q : D × Sto → Prop} (hm : 0 < m) (h : ∀ (r : Int) (a' : Nat), 0 ≤ r → r < m → Q (.p (.int r), some (.d (Wd ds a')) :: rest)) : W (f__law_next [.c 0, .p (.int m)] (some (.d (Wd ds a)) :: rest)) Q := by
  unfold f__law_next b__law_next
  rw [wd_i]
  simp [wd_at, wd_draws, wd_set]
  split
  · exact h 0 (a + 1) (Int.le_refl _) hm
  · have e : (a : Int) + 1 - 1 = (a : Int) := by omega
    have ha : a < ds.length := by omega
    simp [e, atI_pos, ha]
    refine ⟨by omega, ?_⟩
    exact h _ (a + 1) (Int.fmod_nonneg_of_pos _ hm) (Int.fmod_lt_of_pos _ hm)
/-! the same -/
theorem same_refl_t {n : Nat} {xs : List PyData} (h : ∀ x ∈ xs, f__law_same n [x, x] = some (.bool true)) (hz : xs.length ≤ 100000) : f__law_same (n + 1) [.tuple xs, .tuple xs] = some (.bool true) := by
  suffices H : W (f__law_same (n + 1) [.tuple xs, .tuple xs]) fun q => q = .bool true from W_out H
  show W (runP 2 3 (b__law_same (f__law_same n)) _) _
  unfold b__law_same
  rw [w_runP]
  have hz : (sizeLine : Nat) = 16777216 := sizeLine_eq
  simp
  refine ⟨by omega, ?_⟩
  rw [rng_0]
  refine W.eq (compL_map (fun _ => false) (fun k : Nat => .int k) _ fun k hk => ?_) ?_
  · simp at hk
    simp [atI_pos, hk, h _ (List.getElem_mem hk)]
  · have e : List.filter (fun _ : Nat => false) (List.range xs.length) = [] := by simp
    rw [e]
    simp
theorem same_refl_i {n : Nat} {i : Int} : f__law_same (n + 1) [.int i, .int i] = some (.bool true) := by
  suffices H : W (f__law_same (n + 1) [.int i, .int i]) fun q => q = .bool true from W_out H
  show W (runP 2 3 (b__law_same (f__law_same n)) _) _
  unfold b__law_same
  rw [w_runP]
  simp
theorem same_refl_b {n : Nat} {i : Bool} : f__law_same (n + 1) [.bool i, .bool i] = some (.bool true) := by
  suffices H : W (f__law_same (n + 1) [.bool i, .bool i]) fun q => q = .bool true from W_out H
  show W (runP 2 3 (b__law_same (f__law_same n)) _) _
  unfold b__law_same
  rw [w_runP]
  simp
theorem same_refl_s {n : Nat} {i : Str} : f__law_same (n + 1) [.str i, .str i] = some (.bool true) := by
  suffices H : W (f__law_same (n + 1) [.str i, .str i]) fun q => q = .bool true from W_out H
  show W (runP 2 3 (b__law_same (f__law_same n)) _) _
  unfold b__law_same
  rw [w_runP]
  simp
theorem same_refl_n {n : Nat} : f__law_same (n + 1) [.none, .none] = some (.bool true) := by
  suffices H : W (f__law_same (n + 1) [.none, .none]) fun q => q = .bool true from W_out H
  show W (runP 2 3 (b__law_same (f__law_same n)) _) _
  unfold b__law_same
  rw [w_runP]
  simp
noncomputable def b__law_alike (self : List PyData → Option PyData) : Sv := sSeq (sIf (tTr (eIsa "tuple" (eVar 1))) (sSeq (sIf (tOr (tNot (tTr (eIsa "tuple" (eVar 0)))) (tB (e2 neD (eB lenD (aCons (eVar 0) (aNil))) (eB lenD (aCons (eVar 1) (aNil)))))) (sRet (eC (.bool false))) (sNx)) (sRet (e2 eqD (eL (lComp [2] (iR (aCons (eB lenD (aCons (eVar 1) (aNil))) (aNil))) (gN 2) (tNot (tTr (eCP self (aCons (e2 ixD (eVar 0) (eVar 2)) (aCons (e2 ixD (eVar 1) (eVar 2)) (aNil)))))) (eVar 2))) (eL (lDisp (aNil)))))) (sNx)) (sSeq (sIf (tB (e2 isD (eVar 1) (eC .none))) (sRet (e2 isD (eVar 0) (eC .none))) (sNx)) (sSeq (sIf (tTr (eIsa "bool" (eVar 1))) (sRet (eAnd (eIsa "bool" (eVar 0)) (e2 eqD (eVar 0) (eVar 1)))) (sNx)) (sSeq (sIf (tTr (eIsa "int" (eVar 1))) (sRet (eAnd (eIsa "int" (eVar 0)) (eAnd (eNot (eIsa "bool" (eVar 0))) (e2 eqD (eVar 0) (eVar 1))))) (sNx)) (sRet (eAnd (eIsa "str" (eVar 0)) (e2 eqD (eVar 0) (eVar 1)))))))
noncomputable def f__law_alike : Nat → List PyData → Option PyData
  | 0 => fun _ => none
  | n + 1 => runP 2 3 (b__law_alike (f__law_alike n))
theorem alike_refl_t {n : Nat} {xs : List PyData} (h : ∀ x ∈ xs, f__law_alike n [x, x] = some (.bool true)) (hz : xs.length ≤ 100000) : f__law_alike (n + 1) [.tuple xs, .tuple xs] = some (.bool true) := by
  suffices H : W (f__law_alike (n + 1) [.tuple xs, .tuple xs]) fun q => q = .bool true from W_out H
  show W (runP 2 3 (b__law_alike (f__law_alike n)) _) _
  unfold b__law_alike
  rw [w_runP]
  have hz : (sizeLine : Nat) = 16777216 := sizeLine_eq
  simp
  refine ⟨by omega, ?_⟩
  rw [rng_0]
  refine W.eq (compL_map (fun _ => false) (fun k : Nat => .int k) _ fun k hk => ?_) ?_
  · simp at hk
    simp [atI_pos, hk, h _ (List.getElem_mem hk)]
  · have e : List.filter (fun _ : Nat => false) (List.range xs.length) = [] := by simp
    rw [e]
    simp
theorem alike_refl_i {n : Nat} {i : Int} : f__law_alike (n + 1) [.int i, .int i] = some (.bool true) := by
  suffices H : W (f__law_alike (n + 1) [.int i, .int i]) fun q => q = .bool true from W_out H
  show W (runP 2 3 (b__law_alike (f__law_alike n)) _) _
  unfold b__law_alike
  rw [w_runP]
  simp
theorem alike_refl_b {n : Nat} {i : Bool} : f__law_alike (n + 1) [.bool i, .bool i] = some (.bool true) := by
  suffices H : W (f__law_alike (n + 1) [.bool i, .bool i]) fun q => q = .bool true from W_out H
  show W (runP 2 3 (b__law_alike (f__law_alike n)) _) _
  unfold b__law_alike
  rw [w_runP]
  simp
theorem alike_refl_s {n : Nat} {i : Str} : f__law_alike (n + 1) [.str i, .str i] = some (.bool true) := by
  suffices H : W (f__law_alike (n + 1) [.str i, .str i]) fun q => q = .bool true from W_out H
  show W (runP 2 3 (b__law_alike (f__law_alike n)) _) _
  unfold b__law_alike
  rw [w_runP]
  simp
theorem alike_refl_n {n : Nat} : f__law_alike (n + 1) [.none, .none] = some (.bool true) := by
  suffices H : W (f__law_alike (n + 1) [.none, .none]) fun q => q = .bool true from W_out H
  show W (runP 2 3 (b__law_alike (f__law_alike n)) _) _
  unfold b__law_alike
  rw [w_runP]
  simp
end DL
namespace DL
open PySem PySem.Spec L2
open PyProof.Rows hiding St
/-! ### more of ints -/
section
variable {i j : Int} {ns : List Int} {α : Type} {xs : List α} {F : α → PyData} {G : α → Int}
@[simp] theorem maxD_ii : maxD [.int i, .int j] = some (.int (max i j)) := by
  show some (PyData.int (if j > i then j else i)) = _
  congr 2
  split <;> omega
@[simp] theorem minD_ii : minD [.int i, .int j] = some (.int (min i j)) := by
  show some (PyData.int (if j < i then j else i)) = _
  congr 2
  split <;> omega
theorem intsD_map : intsD (xs.map fun a => .int (G a)) = some (xs.map G) := by
  induction xs with
  | nil => rfl
  | cons x xs ih => rw [List.map_cons, intsD, ih]; rfl
@[simp] theorem sumD_l : sumD [.list (xs.map fun a => .int (G a))] = some (.int (xs.map G).sum) := by
  show (intsD _).map _ = _
  rw [intsD_map]; rfl
@[simp] theorem sumD_t : sumD [.tuple (xs.map fun a => .int (G a))] = some (.int (xs.map G).sum) := by
  show (intsD _).map _ = _
  rw [intsD_map]; rfl
@[simp] theorem sumD_l1 : sumD [.list (ns.map .int)] = some (.int ns.sum) := by
  have := sumD_l (G := id) (xs := ns)
  simpa using this
@[simp] theorem sumD_t1 : sumD [.tuple (ns.map .int)] = some (.int ns.sum) := by
  have := sumD_t (G := id) (xs := ns)
  simpa using this
def cut {α : Type} (xs : List α) (lo hi : Option Int) : List α := (xs.drop (HT.sIx xs.length 0 lo)).take (HT.sIx xs.length xs.length hi - HT.sIx xs.length 0 lo)
@[simp] theorem cutD_map {lo hi : Option Int} : cutD (xs.map F) lo hi = (cut xs lo hi).map F := by
  unfold cutD cut
  rw [List.length_map, List.map_take, List.map_drop]
theorem cut_nn {a b : Nat} (h : a ≤ b) (hb : b ≤ xs.length) : cut xs (some (a : Int)) (some (b : Int)) = (xs.drop a).take (b - a) := by
  unfold cut
  rw [HT.sIx_nat, HT.sIx_nat, Nat.min_eq_left hb, Nat.min_eq_left (by omega)]
theorem cut_n1 {a b : Nat} (h : a ≤ b + 1) (hb : b + 1 ≤ xs.length) : cut xs (some (a : Int)) (some ((b : Int) + 1)) = (xs.drop a).take (b + 1 - a) := cut_nn (b := b + 1) h hb
theorem alikeB_int : alikeB (xs.map fun a => .int (G a)) = true := by
  unfold alikeB
  rw [List.all_eq_true]
  intro d hd
  obtain ⟨a, _, rfl⟩ := List.mem_map.mp hd
  rw [Bool.and_eq_true, List.all_eq_true]
  refine ⟨fun e he => ?_, rfl⟩
  obtain ⟨b, _, rfl⟩ := List.mem_map.mp he
  rfl
theorem maxF_int : PySem.W.maxD (.int i) (xs.map fun a => .int (G a)) = .int ((xs.map G).foldl max i) := by
  unfold PySem.W.maxD
  induction xs generalizing i with
  | nil => rfl
  | cons x xs ih =>
    rw [List.map_cons, List.foldl_cons, List.map_cons, List.foldl_cons]
    have : (if PySem.W.dataLt (PyData.int i) (.int (G x)) = true then PyData.int (G x) else .int i) = .int (max i (G x)) := by
      have e : PySem.W.dataLt (PyData.int i) (.int (G x)) = decide (i < G x) := PySem.W.dataLt_int _ _
      rw [e]
      by_cases h : i < G x
      · rw [if_pos (decide_eq_true h), Int.max_eq_right (by omega)]
      · rw [if_neg (by rw [decide_eq_false h]; exact Bool.false_ne_true), Int.max_eq_left (by omega)]
    rw [this, ih]
theorem minF_int : PySem.W.minD (.int i) (xs.map fun a => .int (G a)) = .int ((xs.map G).foldl min i) := by
  unfold PySem.W.minD
  induction xs generalizing i with
  | nil => rfl
  | cons x xs ih =>
    rw [List.map_cons, List.foldl_cons, List.map_cons, List.foldl_cons]
    have : (if PySem.W.dataLt (PyData.int (G x)) (.int i) = true then PyData.int (G x) else .int i) = .int (min i (G x)) := by
      have e : PySem.W.dataLt (PyData.int (G x)) (.int i) = decide (G x < i) := PySem.W.dataLt_int _ _
      rw [e]
      by_cases h : G x < i
      · rw [if_pos (decide_eq_true h), Int.min_eq_right (by omega)]
      · rw [if_neg (by rw [decide_eq_false h]; exact Bool.false_ne_true), Int.min_eq_left (by omega)]
    rw [this, ih]
/-- max of ints -/
def maxOf : List Int → Int
  | [] => 0
  | x :: xs => xs.foldl max x
def minOf : List Int → Int
  | [] => 0
  | x :: xs => xs.foldl min x
theorem maxD_l (h : xs ≠ []) : maxD [.list (xs.map fun a => .int (G a))] = some (.int (maxOf (xs.map G))) := by
  cases xs with
  | nil => exact absurd rfl h
  | cons x xs =>
    show (if _ then _ else _) = _
    rw [← List.map_cons (f := fun a => PyData.int (G a)), if_pos ⟨by simp, alikeB_int⟩, maxF_int]
    rfl
theorem maxD_t (h : xs ≠ []) : maxD [.tuple (xs.map fun a => .int (G a))] = some (.int (maxOf (xs.map G))) := by
  cases xs with
  | nil => exact absurd rfl h
  | cons x xs =>
    show (if _ then _ else _) = _
    rw [← List.map_cons (f := fun a => PyData.int (G a)), if_pos ⟨by simp, alikeB_int⟩, maxF_int]
    rfl
theorem minD_l (h : xs ≠ []) : minD [.list (xs.map fun a => .int (G a))] = some (.int (minOf (xs.map G))) := by
  cases xs with
  | nil => exact absurd rfl h
  | cons x xs =>
    show (if _ then _ else _) = _
    rw [← List.map_cons (f := fun a => PyData.int (G a)), if_pos ⟨by simp, alikeB_int⟩, minF_int]
    rfl
theorem minD_t (h : xs ≠ []) : minD [.tuple (xs.map fun a => .int (G a))] = some (.int (minOf (xs.map G))) := by
  cases xs with
  | nil => exact absurd rfl h
  | cons x xs =>
    show (if _ then _ else _) = _
    rw [← List.map_cons (f := fun a => PyData.int (G a)), if_pos ⟨by simp, alikeB_int⟩, minF_int]
    rfl
theorem le_foldl_max : ∀ (xs : List Int) (i : Int), i ≤ xs.foldl max i ∧ ∀ x ∈ xs, x ≤ xs.foldl max i
  | [], i => ⟨Int.le_refl _, by simp⟩
  | y :: xs, i => by
    obtain ⟨a, b⟩ := le_foldl_max xs (max i y)
    rw [List.foldl_cons]
    refine ⟨by omega, fun x hx => ?_⟩
    rcases List.mem_cons.mp hx with rfl | hx
    · omega
    · exact b x hx
theorem foldl_max_mem : ∀ (xs : List Int) (i : Int), xs.foldl max i = i ∨ xs.foldl max i ∈ xs
  | [], i => .inl rfl
  | y :: xs, i => by
    rw [List.foldl_cons]
    rcases foldl_max_mem xs (max i y) with h | h
    · rw [h]
      by_cases hh : i ≤ y
      · rw [Int.max_eq_right hh]; exact .inr List.mem_cons_self
      · rw [Int.max_eq_left (by omega)]; exact .inl rfl
    · exact .inr (List.mem_cons_of_mem _ h)
theorem maxOf_le {x : Int} (h : x ∈ ns) : x ≤ maxOf ns := by
  cases ns with
  | nil => simp at h
  | cons y ns =>
    obtain ⟨a, b⟩ := le_foldl_max ns y
    rcases List.mem_cons.mp h with rfl | h
    · exact a
    · exact b x h
theorem maxOf_mem (h : ns ≠ []) : maxOf ns ∈ ns := by
  cases ns with
  | nil => exact absurd rfl h
  | cons y ns =>
    rcases foldl_max_mem ns y with e | e
    · show ns.foldl max y ∈ _; rw [e]; exact List.mem_cons_self
    · exact List.mem_cons_of_mem _ e
theorem foldl_min_le : ∀ (xs : List Int) (i : Int), xs.foldl min i ≤ i ∧ ∀ x ∈ xs, xs.foldl min i ≤ x
  | [], i => ⟨Int.le_refl _, by simp⟩
  | y :: xs, i => by
    obtain ⟨a, b⟩ := foldl_min_le xs (min i y)
    rw [List.foldl_cons]
    refine ⟨by omega, fun x hx => ?_⟩
    rcases List.mem_cons.mp hx with rfl | hx
    · omega
    · exact b x hx
theorem foldl_min_mem : ∀ (xs : List Int) (i : Int), xs.foldl min i = i ∨ xs.foldl min i ∈ xs
  | [], i => .inl rfl
  | y :: xs, i => by
    rw [List.foldl_cons]
    rcases foldl_min_mem xs (min i y) with h | h
    · rw [h]
      by_cases hh : y ≤ i
      · rw [Int.min_eq_right hh]; exact .inr List.mem_cons_self
      · rw [Int.min_eq_left (by omega)]; exact .inl rfl
    · exact .inr (List.mem_cons_of_mem _ h)
theorem minOf_le {x : Int} (h : x ∈ ns) : minOf ns ≤ x := by
  cases ns with
  | nil => simp at h
  | cons y ns =>
    obtain ⟨a, b⟩ := foldl_min_le ns y
    rcases List.mem_cons.mp h with rfl | h
    · exact a
    · exact b x h
theorem minOf_mem (h : ns ≠ []) : minOf ns ∈ ns := by
  cases ns with
  | nil => exact absurd rfl h
  | cons y ns =>
    rcases foldl_min_mem ns y with e | e
    · show ns.foldl min y ∈ _; rw [e]; exact List.mem_cons_self
    · exact List.mem_cons_of_mem _ e
end
/-- a comprehension: what it gives -/
theorem w_compL {α : Type} {F : α → PyData} {g : Gv} {t : Tv} {f : Ev} {ρ : Env'} {S : Sto} {Q : List PyData × Sto → Prop} (p : α → Bool) (r : α → PyData) {xs ys : List α} (e : xs.filter p = ys) (h : ∀ x ∈ xs, W (g (F x) ρ) fun ρ1 => W (t ρ1 S) fun b => b = (p x, S) ∧ (p x = true → W (f ρ1 S) fun y => y = (.p (r x), S)))
    (q : Q (ys.map r, S)) : W (compL g t f ρ (xs.map F) S) Q := W.eq (compL_map p r xs h) (by rw [e]; exact q)
/-- .. of all -/
theorem w_compA {α : Type} {F : α → PyData} {g : Gv} {f : Ev} {ρ : Env'} {S : Sto} {Q : List PyData × Sto → Prop} (r : α → PyData) {xs : List α} (h : ∀ x ∈ xs, W (g (F x) ρ) fun ρ1 => W (f ρ1 S) fun y => y = (.p (r x), S))
    (q : Q (xs.map r, S)) : W (compL g tYes f ρ (xs.map F) S) Q :=
  w_compL (fun _ => true) r (by simp) (fun x hx => (h x hx).mono fun ρ1 w => W.eq (show tYes ρ1 S = some (true, S) from rfl) ⟨rfl, fun _ => w⟩) q
@[simp] theorem atI_m1 {xs : List PyData} : atI xs (-1) = xs.getLast? := by
  rw [List.getLast?_eq_getElem?]
  cases xs with
  | nil => rfl
  | cons x xs =>
    rw [atI_n (by omega) (by simp; omega)]
    congr 1
    simp only [List.length_cons]
    omega
@[simp] theorem isKK_s {x : Str} : isKK (.str x) = true := rfl
@[simp] theorem isKK_i {x : Int} : isKK (.int x) = true := rfl
/-- the store of a law without objects of its own -/
def Stw (ds : List Int) (S : Sto) : Prop := ∃ a, S = [some (.d (Wd ds a))]
@[simp] theorem merge_w {ds : List Int} : PyData.dict (mergeD [(.str "draws", .list (ds.map .int)), (.str "at", .int 0)]) = Wd ds 0 := by kernel_rfl
/-- a comprehension of draws -/
theorem w_compW {α β : Type} {F : α → PyData} {g : Gv} {f : Ev} {ρ : Env'} {S : Sto} {Q : List PyData × Sto → Prop} {ds : List Int} {xs : List α} (G : β → PyData) (R : β → Prop) (hS : Stw ds S)
    (h : ∀ x ∈ xs, ∀ a, W (g (F x) ρ) fun ρ1 => W (f ρ1 [some (.d (Wd ds a))]) fun y => ∃ z, y.1 = .p (G z) ∧ R z ∧ Stw ds y.2)
    (q : ∀ (zs : List β) (a : Nat), zs.length = xs.length → (∀ z ∈ zs, R z) → Q (zs.map G, [some (.d (Wd ds a))])) : W (compL g tYes f ρ (xs.map F) S) Q :=
  (compL_ind (G := G) (Stw ds) R xs S hS fun x hx S hS => by obtain ⟨a, rfl⟩ := hS; exact h x hx a).mono fun ⟨y, S'⟩ ⟨zs, e, l, r, a, e2⟩ => by
    simp only at e e2
    subst e e2
    exact q zs a l r
/-- loops over a range, by the turn -/
theorem forL_rng {g : Gv} {b : Sv} {Q : Out → Prop} {n : Nat} {ρ : Env'} {S : Sto} (I : Nat → Env' → Sto → Prop)
    (h : ∀ k, k < n → ∀ ρ S, I k ρ S → W (g (.int k) ρ) fun ρ1 => W (b ρ1 S) fun o => match o with | .nx ρ' S' => I (k + 1) ρ' S' | .ct ρ' S' => I (k + 1) ρ' S' | .bk ρ' S' => Q (.nx ρ' S') | .rt d S' => Q (.rt d S'))
    (hn : ∀ ρ S, I n ρ S → Q (.nx ρ S)) (h0 : I 0 ρ S) : W (forL g b (rngD 0 n) ρ S) Q := by
  rw [rng_0]
  refine forL_ind (fun r ρ S => ∃ k, r = (List.range n).drop k ∧ k ≤ n ∧ I k ρ S) (fun x r ρ S hi => ?_) (fun ρ S hi => ?_) _ _ _ ⟨0, by simp, Nat.zero_le _, h0⟩
  · obtain ⟨k, e, hk, i⟩ := hi
    have hlt : k < n := by
      rcases Nat.lt_or_ge k n with z | z
      · exact z
      · rw [List.drop_of_length_le (by simpa using z)] at e; cases e
    have e2 : (List.range n).drop k = k :: (List.range n).drop (k + 1) := by
      rw [List.drop_eq_getElem_cons (by simpa using hlt)]
      simp
    rw [e2] at e
    obtain ⟨rfl, rfl⟩ := List.cons.inj e
    refine (h x hlt ρ S i).mono fun ρ1 w => w.mono fun o q => ?_
    cases o with
    | nx ρ' S' => exact ⟨x + 1, rfl, hlt, q⟩
    | ct ρ' S' => exact ⟨x + 1, rfl, hlt, q⟩
    | bk ρ' S' => exact q
    | rt d S' => exact q
  · obtain ⟨k, e, hk, i⟩ := hi
    have hge : n ≤ k := by
      rcases Nat.lt_or_ge k n with z | z
      · have := congrArg List.length e
        simp at this
        omega
      · exact z
    have : k = n := by omega
    subst this
    exact hn ρ S i
/-- .. over a list, by the turn -/
theorem forL_ix {α : Type} {F : α → PyData} {g : Gv} {b : Sv} {Q : Out → Prop} {xs : List α} {ρ : Env'} {S : Sto} (I : Nat → Env' → Sto → Prop)
    (h : ∀ k (hk : k < xs.length), ∀ ρ S, I k ρ S → W (g (F xs[k]) ρ) fun ρ1 => W (b ρ1 S) fun o => match o with | .nx ρ' S' => I (k + 1) ρ' S' | .ct ρ' S' => I (k + 1) ρ' S' | .bk ρ' S' => Q (.nx ρ' S') | .rt d S' => Q (.rt d S'))
    (hn : ∀ ρ S, I xs.length ρ S → Q (.nx ρ S)) (h0 : I 0 ρ S) : W (forL g b (xs.map F) ρ S) Q := by
  refine forL_ind (fun r ρ S => ∃ k, r = xs.drop k ∧ k ≤ xs.length ∧ I k ρ S) (fun x r ρ S hi => ?_) (fun ρ S hi => ?_) _ _ _ ⟨0, by simp, Nat.zero_le _, h0⟩
  · obtain ⟨k, e, hk, i⟩ := hi
    have hlt : k < xs.length := by
      rcases Nat.lt_or_ge k xs.length with z | z
      · exact z
      · rw [List.drop_of_length_le z] at e; cases e
    rw [List.drop_eq_getElem_cons hlt] at e
    cases e
    refine (h k hlt ρ S i).mono fun ρ1 w => w.mono fun o q => ?_
    cases o with
    | nx ρ' S' => exact ⟨k + 1, rfl, hlt, q⟩
    | ct ρ' S' => exact ⟨k + 1, rfl, hlt, q⟩
    | bk ρ' S' => exact q
    | rt d S' => exact q
  · obtain ⟨k, e, hk, i⟩ := hi
    have hge : xs.length ≤ k := by
      rcases Nat.lt_or_ge k xs.length with z | z
      · have := congrArg List.length e
        simp at this
        omega
      · exact z
    have : k = xs.length := by omega
    subst this
    exact hn ρ S i
theorem maxOf_eq {l : List Int} {M : Int} (h1 : M ∈ l) (h2 : ∀ x ∈ l, x ≤ M) : maxOf l = M := by
  have h3 := maxOf_le h1
  have h4 := h2 _ (maxOf_mem (ns := l) (by intro e; rw [e] at h1; simp at h1))
  omega
theorem minOf_eq {l : List Int} {M : Int} (h1 : M ∈ l) (h2 : ∀ x ∈ l, M ≤ x) : minOf l = M := by
  have h3 := minOf_le h1
  have h4 := h2 _ (minOf_mem (ns := l) (by intro e; rw [e] at h1; simp at h1))
  omega
theorem same_ints {n : Nat} {l : List Int} (h : l.length ≤ 100000) : f__law_same (n + 2) [.tuple (l.map .int), .tuple (l.map .int)] = some (.bool true) :=
  same_refl_t (fun x hx => by obtain ⟨i, _, rfl⟩ := List.mem_map.mp hx; exact same_refl_i) (by simpa using h)
end DL
namespace DL
open PySem PySem.Spec L2
open PyProof.Rows hiding St
/-! ### sorted -/
section
variable {α : Type} {xs : List α} {F : α → PyData} {G : α → Int} {ns : List Int}
theorem sorted_map {le : α → α → Bool} (h : sortB (xs.map F) = true) (hle : ∀ a b, le a b = PySem.W.dataLe false id (F a) (F b)) : sortedL [.list (xs.map F)] = some ((xs.mergeSort le).map F) := by
  show (if _ then _ else _) = _
  rw [if_pos h, List.map_mergeSort fun a _ b _ => hle a b]
theorem sortB_int : sortB (xs.map fun a => .int (G a)) = true := by
  unfold sortB
  rw [alikeB_int]
  simp [ntB]
def sortI (ns : List Int) : List Int := ns.mergeSort fun a b => decide (a ≤ b)
@[simp] theorem sorted_i : sortedL [.list (ns.map .int)] = some ((sortI ns).map .int) :=
  sorted_map (F := PyData.int) (by have := sortB_int (G := id) (xs := ns); simpa using this) fun a b => by
    show _ = !PySem.W.dataLt (.int b) (.int a)
    rw [PySem.W.dataLt_int]
    by_cases h : a ≤ b
    · rw [decide_eq_true h, decide_eq_false (by omega)]; rfl
    · rw [decide_eq_false h, decide_eq_true (by omega)]; rfl
@[simp] theorem sorted_it : sortedL [.tuple (ns.map .int)] = some ((sortI ns).map .int) := sorted_i
@[simp] theorem sortI_len : (sortI ns).length = ns.length := List.length_mergeSort _
theorem sortI_perm : (sortI ns).Perm ns := List.mergeSort_perm _ _
theorem sortI_of (h : ns.Pairwise (· ≤ ·)) : sortI ns = ns := List.mergeSort_of_pairwise (h.imp fun h => decide_eq_true h)
/-! pairs of ints -/
def pr (p : Int × Int) : PyData := .tuple [.int p.1, .int p.2]
@[simp] theorem fitN_pr {n : Nat} {p : Int × Int} : fitN (n + 1) (pr p) = true := by simp [pr]
theorem alike_pr (p q : Int × Int) : PySem.W.alike (pr p) (pr q) = true := rfl
theorem sortB_pr {ps : List (Int × Int)} : sortB (ps.map pr) = true := by
  unfold sortB alikeB
  rw [Bool.and_eq_true, Bool.and_eq_true]
  refine ⟨⟨by simp, ?_⟩, by simp [pr, tupB]⟩
  rw [List.all_eq_true]
  intro d hd
  obtain ⟨a, _, rfl⟩ := List.mem_map.mp hd
  rw [Bool.and_eq_true, List.all_eq_true]
  refine ⟨fun e he => ?_, rfl⟩
  obtain ⟨b, _, rfl⟩ := List.mem_map.mp he
  exact alike_pr a b
def leP (p q : Int × Int) : Bool := decide (p.1 < q.1) || (decide (p.1 = q.1) && decide (p.2 ≤ q.2))
theorem leP_data (p q : Int × Int) : leP p q = PySem.W.dataLe false id (pr p) (pr q) := by
  show _ = !PySem.W.dataLt (pr q) (pr p)
  unfold pr
  rw [PySem.W.dataLt_pair rfl rfl, PySem.W.dataLt_int, PySem.W.dataLt_int]
  show _ = !(if (q.1 == p.1) = true then (if (q.2 == p.2) = true then false else decide (q.2 < p.2)) else decide (q.1 < p.1))
  unfold leP
  by_cases h1 : p.1 = q.1
  · by_cases h2 : p.2 = q.2
    · simp [h1, h2]
    · simp only [h1, h2, beq_self_eq_true, if_true, Int.lt_irrefl, decide_false, decide_true, Bool.false_or, Bool.true_and]
      rw [if_neg (by simp; omega)]
      by_cases h3 : p.2 ≤ q.2
      · rw [decide_eq_true h3, decide_eq_false (by omega)]; rfl
      · rw [decide_eq_false h3, decide_eq_true (by omega)]; rfl
  · rw [if_neg (by simp; omega)]
    simp only [h1, decide_false, Bool.false_and, Bool.or_false]
    by_cases h3 : p.1 < q.1
    · rw [decide_eq_true h3, decide_eq_false (by omega)]; rfl
    · rw [decide_eq_false h3, decide_eq_true (by omega)]; rfl
def sortP (ps : List (Int × Int)) : List (Int × Int) := ps.mergeSort leP
@[simp ↓ high] theorem w_gtpr {gs : Gsv} {p : Int × Int} {ρ : Env'} {Q : Env' → Prop} : W (gT gs (pr p) ρ) Q = W (gs [.int p.1, .int p.2] ρ) Q := w_gt
@[simp] theorem ix_pr0 {p : Int × Int} : ixD (pr p) (.int 0) = some (.int p.1) := rfl
@[simp] theorem ix_pr1 {p : Int × Int} : ixD (pr p) (.int 1) = some (.int p.2) := by
  show atI [PyData.int p.1, .int p.2] 1 = _
  rw [atI_i (by decide)]
  rfl
theorem neD_pr {ps : List (Int × Int)} : neD (.list (ps.map pr)) (.list []) = some (.bool (!ps.isEmpty)) := by
  rw [neD_l0 (by simp)]
  cases ps <;> rfl
theorem pr_mk {a b : Int} : PyData.tuple [.int a, .int b] = pr (a, b) := rfl
theorem ixN_m1 {n : Nat} : ixN (n + 1) (-1) = some n := by
  unfold ixN
  rw [if_neg (by decide), if_pos (by omega)]
  congr 1
  omega
theorem set_m1 {xs : List PyData} {a v : PyData} : setD (.list (xs ++ [a])) (.int (-1)) v = some (.list (xs ++ [v])) := by
  show (ixN (xs ++ [a]).length (-1)).map _ = _
  rw [List.length_append, List.length_singleton, ixN_m1]
  simp
theorem sorted_p {ps : List (Int × Int)} : sortedL [.list (ps.map pr)] = some ((sortP ps).map pr) := sorted_map sortB_pr leP_data
theorem sorted_pt {ps : List (Int × Int)} : sortedL [.tuple (ps.map pr)] = some ((sortP ps).map pr) := sorted_p
@[simp] theorem sortP_len {ps : List (Int × Int)} : (sortP ps).length = ps.length := List.length_mergeSort _
theorem sortP_of {ps : List (Int × Int)} (h : ps.Pairwise fun p q => p.1 < q.1) : sortP ps = ps := List.mergeSort_of_pairwise (h.imp fun h => by unfold leP; rw [decide_eq_true h]; rfl)
end
theorem alike_ints {n : Nat} {l : List Int} (h : l.length ≤ 100000) : f__law_alike (n + 2) [.tuple (l.map .int), .tuple (l.map .int)] = some (.bool true) :=
  alike_refl_t (fun x hx => by obtain ⟨i, _, rfl⟩ := List.mem_map.mp hx; exact alike_refl_i) (by simpa using h)
theorem alike_prs {n : Nat} {l : List (Int × Int)} (h : l.length ≤ 100000) : f__law_alike (n + 3) [.tuple (l.map pr), .tuple (l.map pr)] = some (.bool true) :=
  alike_refl_t (fun x hx => by
    obtain ⟨p, _, rfl⟩ := List.mem_map.mp hx
    exact alike_refl_t (fun y hy => by
      rcases List.mem_cons.mp hy with rfl | hy
      · exact alike_refl_i
      · rw [List.mem_singleton.mp hy]; exact alike_refl_i) (by simp)) (by simpa using h)
/-! ### while -/
@[simp ↓] theorem w_swh {is : List Nat} {t : Tv} {b : Sv} {ρ : Env'} {S : Sto} {Q : Out → Prop} : W (sWh is t b ρ S) Q = W (whD t (sFg is b) (wipeE ρ is) S) Q := rfl
/-- a loop by a falling measure -/
theorem wh_ind {t : Tv} {b : Sv} {Q : Out → Prop} (I : Nat → Env' → Sto → Prop)
    (h : ∀ n ρ S, I n ρ S → W (t ρ S) fun p => if p.1 = true then W (b ρ p.2) fun o => (match o with | .nx ρ' S' => ∃ m, m < n ∧ I m ρ' S' | .ct ρ' S' => ∃ m, m < n ∧ I m ρ' S' | .bk ρ' S' => Q (.nx ρ' S') | .rt d S' => Q (.rt d S')) else Q (.nx ρ p.2)) :
    ∀ (n : Nat) (ρ : Env') (S : Sto), I n ρ S → W (whD t b ρ S) Q := by
  have key : ∀ (N n : Nat), n ≤ N → ∀ (ρ : Env') (S : Sto), I n ρ S → ∃ (k : Nat) (o : Out), whN t b k ρ S = some o ∧ Q o := by
    intro N
    induction N with
    | zero =>
      intro n hn ρ S i
      obtain ⟨⟨k, S1⟩, e1, q⟩ := h n ρ S i
      simp only at q
      cases k with
      | false => exact ⟨1, .nx ρ S1, by simp [whN, e1], by simpa using q⟩
      | true =>
        rw [if_pos rfl] at q
        obtain ⟨o, e2, q⟩ := q
        cases o with
        | nx ρ' S' => obtain ⟨m, hm, _⟩ := q; omega
        | ct ρ' S' => obtain ⟨m, hm, _⟩ := q; omega
        | bk ρ' S' => exact ⟨1, .nx ρ' S', by simp [whN, e1, e2], q⟩
        | rt d S' => exact ⟨1, .rt d S', by simp [whN, e1, e2], q⟩
    | succ N ih =>
      intro n hn ρ S i
      obtain ⟨⟨k, S1⟩, e1, q⟩ := h n ρ S i
      simp only at q
      cases k with
      | false => exact ⟨1, .nx ρ S1, by simp [whN, e1], by simpa using q⟩
      | true =>
        rw [if_pos rfl] at q
        obtain ⟨o, e2, q⟩ := q
        cases o with
        | nx ρ' S' =>
          obtain ⟨m, hm, i'⟩ := q
          obtain ⟨k, o, e3, q3⟩ := ih m (by omega) ρ' S' i'
          exact ⟨k + 1, o, by simp [whN, e1, e2, e3], q3⟩
        | ct ρ' S' =>
          obtain ⟨m, hm, i'⟩ := q
          obtain ⟨k, o, e3, q3⟩ := ih m (by omega) ρ' S' i'
          exact ⟨k + 1, o, by simp [whN, e1, e2, e3], q3⟩
        | bk ρ' S' => exact ⟨1, .nx ρ' S', by simp [whN, e1, e2], q⟩
        | rt d S' => exact ⟨1, .rt d S', by simp [whN, e1, e2], q⟩
  intro n ρ S i
  obtain ⟨k, o, e, q⟩ := key n n (Nat.le_refl n) ρ S i
  exact ⟨o, whD_eq e, q⟩
end DL
namespace DL
open PySem PySem.Spec L2
open PyProof.Rows hiding St
/-! ### fractions -/
noncomputable def b_common : Sv := sSeq (sPar [0, 1] (aCons (eB absD (aCons (eVar 0) (aNil))) (aCons (eB absD (aCons (eVar 1) (aNil))) (aNil)))) (sSeq (sWh [] (tB (e2 gtD (eVar 1) (eC (.int 0)))) (sPar [0, 1] (aCons (eVar 1) (aCons (e2 modD (eVar 0) (eVar 1)) (aNil))))) (sRet (eVar 0)))
noncomputable def f_common := runP 2 2 b_common
noncomputable def b_fraction : Sv := sSeq (sAsg (eIf (tB (e2 gtD (eVar 1) (eC (.int 0)))) (eCP f_common (aCons (eVar 0) (aCons (eVar 1) (aNil)))) (eNeg (eCP f_common (aCons (eVar 0) (aCons (eVar 1) (aNil)))))) (gN 2)) (sRet (eTup (aCons (e2 fdivD (eVar 0) (eVar 2)) (aCons (e2 fdivD (eVar 1) (eVar 2)) (aNil)))))
noncomputable def f_fraction := runP 2 3 b_fraction
theorem common_ok {a b : Int} : f_common [.int a, .int b] = some (.int (Int.gcd a b)) := by
  suffices H : W (f_common [.int a, .int b]) fun q => q = .int (Int.gcd a b) from W_out H
  unfold f_common b_common
  rw [w_runP]
  simp
  refine wh_ind (fun n ρ S => S = [] ∧ ∃ x : Nat, ρ = [some (.p (.int x)), some (.p (.int n))] ∧ Nat.gcd x n = Int.gcd a b) (fun n ρ S hi => ?_) b.natAbs _ _ ⟨rfl, a.natAbs, rfl, rfl⟩
  obtain ⟨rfl, x, rfl, hg⟩ := hi
  simp
  split
  · rename_i hn
    refine ⟨by omega, x % n, Nat.mod_lt _ hn, n, ⟨rfl, ?_⟩, ?_⟩
    · rw [Int.fmod_eq_emod_of_nonneg _ (by omega)]; rfl
    · rw [← hg, Nat.gcd_comm n, ← Nat.gcd_rec, Nat.gcd_comm]
  · rename_i hn
    have : n = 0 := by omega
    subst this
    simp at hg
    rw [hg]
/-- in lowest terms, the lower above nought where .. -/
def frac (u l : Int) : Int × Int := let d := if 0 < l then (Int.gcd u l : Int) else -(Int.gcd u l : Int); (u.fdiv d, l.fdiv d)
theorem fraction_ok {u l : Int} (h0 : l ≠ 0 ∨ u ≠ 0) (hs : Int.gcd u l < 340282366920938463463374607431768211456) : f_fraction [.int u, .int l] = some (pr (frac u l)) := by
  suffices H : W (f_fraction [.int u, .int l]) fun q => q = pr (frac u l) from W_out H
  unfold f_fraction b_fraction
  rw [w_runP]
  have hg : 0 < Int.gcd u l := Int.gcd_pos_iff.mpr (h0.symm)
  simp [common_ok]
  split
  · rename_i h
    simp [frac, h, pr]
    omega
  · rename_i h
    simp [frac, h, pr]
    omega
end DL
namespace DL
open PySem PySem.Spec L2
open PyProof.Rows hiding St
/-! ### windows -/
theorem cut_kh {α : Type} {xs : List α} {k h : Nat} (hk : k ≤ xs.length) : cut xs (some (k : Int)) (some ((k : Int) + (h : Int))) = (xs.drop k).take h := by
  unfold cut
  rw [show (k : Int) + (h : Int) = ((k + h : Nat) : Int) by omega, HT.sIx_nat, HT.sIx_nat, Nat.min_eq_left hk]
  by_cases z : k + h ≤ xs.length
  · rw [Nat.min_eq_left z, Nat.add_sub_cancel_left]
  · rw [Nat.min_eq_right (by omega), List.take_of_length_le (by simp), List.take_of_length_le (by simp; omega)]
theorem cut_nn' {α : Type} {xs : List α} {a b : Nat} (ha : a ≤ xs.length) : cut xs (some (a : Int)) (some (b : Int)) = (xs.drop a).take (b - a) := by
  unfold cut
  rw [HT.sIx_nat, HT.sIx_nat, Nat.min_eq_left ha]
  by_cases z : b ≤ xs.length
  · rw [Nat.min_eq_left z]
  · rw [Nat.min_eq_right (by omega), List.take_of_length_le (by simp), List.take_of_length_le (by simp; omega)]
theorem row_ix (a b : Nat) : ∀ (xs : List Int) (s : Nat), ((List.range' s xs.length).filter fun j => decide (a ≤ j) && decide (j < b)).map (fun j => xs.getD (j - s) 0) = (xs.drop (a - s)).take (b - max a s)
  | [], s => by simp
  | x :: xs, s => by
    have ih := row_ix a b xs (s + 1)
    rw [List.length_cons, List.range'_succ]
    have e : ((List.range' (s + 1) xs.length).filter fun j => decide (a ≤ j) && decide (j < b)).map (fun j => (x :: xs).getD (j - s) 0) = ((List.range' (s + 1) xs.length).filter fun j => decide (a ≤ j) && decide (j < b)).map (fun j => xs.getD (j - (s + 1)) 0) := by
      refine List.map_congr_left fun j hj => ?_
      have := (List.mem_filter.mp hj).1
      rw [List.mem_range'_1] at this
      rw [show j - s = (j - (s + 1)) + 1 by omega, List.getD_cons_succ]
    rw [List.filter_cons]
    by_cases h1 : a ≤ s
    · by_cases h2 : s < b
      · rw [if_pos (by simp [h1, h2]), List.map_cons, e, ih, show a - s = 0 by omega, show a - (s + 1) = 0 by omega, show b - max a s = (b - max a (s + 1)) + 1 by omega]
        simp
      · rw [if_neg (by simp; omega), e, ih, show b - max a (s + 1) = 0 by omega, show b - max a s = 0 by omega]
        simp
    · rw [if_neg (by simp; omega), e, ih, show a - s = (a - (s + 1)) + 1 by omega, List.drop_succ_cons, show max a (s + 1) = max a s by omega]
theorem row_range (a b : Nat) (xs : List Int) : ((List.range xs.length).filter fun j => decide (a ≤ j) && decide (j < b)).map (fun j => xs.getD j 0) = (xs.drop a).take (b - a) := by
  have := row_ix a b xs 0
  simpa [List.range_eq_range'] using this
noncomputable def b_spans_of : Sv := sSeq (sOwn 1 (lDisp (aNil))) (sSeq (sFor [2, 3] (iP (eL (lB sortedL (aCons (eVar 0) (aNil))))) (gT (gCons (gN 2) (gCons (gN 3) (gNil)))) (sIf (tAnd (tB (e2 neD (eVar 1) (eL (lDisp (aNil))))) (tB (e2 leD (eVar 2) (e2 ixD (e2 ixD (eVar 1) (eNeg (eC (.int 1)))) (eC (.int 1)))))) (sPut 1 (eNeg (eC (.int 1))) (eTup (aCons (e2 ixD (e2 ixD (eVar 1) (eNeg (eC (.int 1)))) (eC (.int 0))) (aCons (eB maxD (aCons (e2 ixD (e2 ixD (eVar 1) (eNeg (eC (.int 1)))) (eC (.int 1))) (aCons (eVar 3) (aNil)))) (aNil))))) (sMut appD 1 (eTup (aCons (eVar 2) (aCons (eVar 3) (aNil))))))) (sRet (eB tupleD (aCons (eVar 1) (aNil)))))
noncomputable def f_spans_of := runP 1 4 b_spans_of
noncomputable def b__law_spans : Sv := sSeq (sAsg (eL (lDisp (aNil))) (gN 1)) (sSeq (sFor [2] (iP (eL (lB sortedL (aCons (eVar 0) (aNil))))) (gN 2) (sIf (tAnd (tB (e2 neD (eVar 1) (eL (lDisp (aNil))))) (tB (e2 geD (e2 ixD (e2 ixD (eVar 1) (e2 subD (eB lenD (aCons (eVar 1) (aNil))) (eC (.int 1)))) (eC (.int 1))) (eVar 2)))) (sAsg (eL (lE2 addL (eSx (eVar 1) (oNone) (oSome (eNeg (eC (.int 1))))) (eL (lDisp (aCons (eTup (aCons (e2 ixD (e2 ixD (eVar 1) (e2 subD (eB lenD (aCons (eVar 1) (aNil))) (eC (.int 1)))) (eC (.int 0))) (aCons (eB maxD (aCons (e2 ixD (e2 ixD (eVar 1) (e2 subD (eB lenD (aCons (eVar 1) (aNil))) (eC (.int 1)))) (eC (.int 1))) (aCons (e2 addD (eVar 2) (eC (.int 1))) (aNil)))) (aNil)))) (aNil)))))) (gN 1)) (sAsg (eL (lE2 addL (eVar 1) (eL (lDisp (aCons (eTup (aCons (eVar 2) (aCons (e2 addD (eVar 2) (eC (.int 1))) (aNil)))) (aNil)))))) (gN 1)))) (sRet (eB tupleD (aCons (eVar 1) (aNil)))))
noncomputable def f__law_spans := runP 1 3 b__law_spans
/-! ### spans -/
def stepP (fs : List (Int × Int)) (p : Int × Int) : List (Int × Int) := match fs.getLast? with
  | none => fs ++ [p]
  | some q => if p.1 ≤ q.2 then fs.dropLast ++ [(q.1, max q.2 p.2)] else fs ++ [p]
theorem stepP_len {fs : List (Int × Int)} {p : Int × Int} : (stepP fs p).length ≤ fs.length + 1 := by
  unfold stepP
  split
  · simp
  · rename_i q h
    have : fs ≠ [] := by rintro rfl; simp at h
    have := List.length_pos_iff.mpr this
    split <;> simp <;> omega
def spansP (ps : List (Int × Int)) : List (Int × Int) := ps.foldl stepP []
theorem spans_ok {ps : List (Int × Int)} (hl : ps.length ≤ 1000) : f_spans_of [.list (ps.map pr)] = some (.tuple ((spansP (sortP ps)).map pr)) := by
  suffices H : W (f_spans_of [.list (ps.map pr)]) fun q => q = .tuple ((spansP (sortP ps)).map pr) from W_out H
  unfold f_spans_of b_spans_of
  rw [w_runP]
  have hz : (sizeLine : Nat) = 16777216 := sizeLine_eq
  simp [sorted_p]
  refine ⟨by omega, ?_⟩
  have hlen : (sortP ps).length ≤ 1000 := by simpa using hl
  generalize sortP ps = qs at hlen
  refine forL_ind (fun r ρ S => S = [] ∧ ∃ fs : List (Int × Int), ρ = [some (.p (.list (ps.map pr))), some (.o (.list (fs.map pr))), none, none] ∧ fs.length + r.length ≤ 1000 ∧ r.foldl stepP fs = spansP qs) (fun p r ρ S hi => ?_) (fun ρ S hi => ?_) _ _ _ ⟨rfl, [], rfl, by simpa using hlen, rfl⟩
  · obtain ⟨rfl, fs, rfl, hl2, ef⟩ := hi
    simp only [List.length_cons] at hl2
    rw [List.foldl_cons] at ef
    rcases List.eq_nil_or_concat fs with rfl | ⟨l, q, rfl⟩
    · simp
      exact ⟨by omega, [p], by simp [pr], by simp; omega, ef⟩
    · rw [List.concat_eq_append] at hl2 ef ⊢
      have e0 : (l ++ [q]).map pr = l.map pr ++ [pr q] := by simp
      simp [neD_pr, -List.map_append]
      simp only [List.length_append, List.length_singleton] at hl2
      have es : stepP (l ++ [q]) p = if p.1 ≤ q.2 then l ++ [(q.1, max q.2 p.2)] else l ++ [q] ++ [p] := by simp [stepP]
      rw [es] at ef
      split
      · rename_i h
        rw [if_pos h] at ef
        rw [e0, set_m1]
        simp
        exact ⟨l ++ [(q.1, max q.2 p.2)], by simp [pr], by simp; omega, ef⟩
      · rename_i h
        rw [if_neg h] at ef
        exact ⟨by omega, l ++ [q] ++ [p], by simp [pr], by simp; omega, ef⟩
  · obtain ⟨rfl, fs, rfl, hl2, ef⟩ := hi
    simp
    rw [← ef]
    rfl
def ab (h : Nat) : Int × Int := ((h : Int), (h : Int) + 1)
theorem ab_sorted {l : List Nat} (h : l.Pairwise (· < ·)) : sortP (l.map ab) = l.map ab := sortP_of (List.pairwise_map.mpr (h.imp fun {a b} h => by show (a : Int) < (b : Int); omega))
theorem int_sorted {l : List Nat} (h : l.Pairwise (· < ·)) : sortI (l.map fun k : Nat => (k : Int)) = l.map fun k : Nat => (k : Int) := sortI_of (List.pairwise_map.mpr (h.imp fun {a b} h => by show (a : Int) ≤ (b : Int); omega))
theorem range_sorted {n : Nat} {p : Nat → Bool} : ((List.range n).filter p).Pairwise (· < ·) := List.Pairwise.filter _ List.pairwise_lt_range
theorem law_spans_ok {hs : List Nat} (hs2 : hs.Pairwise (· < ·)) (hl : hs.length ≤ 1000) : f__law_spans [.list (hs.map fun k : Nat => PyData.int k)] = some (.tuple ((spansP (hs.map ab)).map pr)) := by
  suffices H : W (f__law_spans [.list (hs.map fun k : Nat => PyData.int k)]) fun q => q = .tuple ((spansP (hs.map ab)).map pr) from W_out H
  unfold f__law_spans b__law_spans
  rw [w_runP]
  have hz : (sizeLine : Nat) = 16777216 := sizeLine_eq
  have e0 : (hs.map fun k : Nat => PyData.int k) = (hs.map fun k : Nat => (k : Int)).map PyData.int := by simp
  have hsort : sortedL [.list (hs.map fun k : Nat => PyData.int k)] = some (hs.map fun k : Nat => PyData.int k) := by rw [e0, sorted_i, int_sorted hs2]
  simp [hsort]
  refine ⟨by omega, ?_⟩
  refine forL_ind (fun r ρ S => S = [] ∧ ∃ fs : List (Int × Int), ρ = [some (.p (.list (hs.map fun k : Nat => PyData.int k))), some (.p (.list (fs.map pr))), none] ∧ fs.length + r.length ≤ 1000 ∧ (r.map ab).foldl stepP fs = spansP (hs.map ab)) (fun p r ρ S hi => ?_) (fun ρ S hi => ?_) _ _ _ ⟨rfl, [], by simp, by simpa using hl, rfl⟩
  · obtain ⟨rfl, fs, rfl, hl2, ef⟩ := hi
    simp only [List.length_cons] at hl2
    rw [List.map_cons, List.foldl_cons] at ef
    rcases List.eq_nil_or_concat fs with rfl | ⟨l, q, rfl⟩
    · simp
      exact ⟨by omega, [ab p], by simp [pr, ab], by simp; omega, ef⟩
    · rw [List.concat_eq_append] at hl2 ef ⊢
      have e0 : (l ++ [q]).map pr = l.map pr ++ [pr q] := by simp
      simp only [List.length_append, List.length_singleton] at hl2
      have hat : atI ((l ++ [q]).map pr) (l.length : Int) = some (pr q) := by
        rw [atI_pos]
        simp
      have hcut : cut (l ++ [q]) none (some (-1)) = l := by
        unfold cut
        have h1 : HT.sIx (l ++ [q]).length (l ++ [q]).length (some (-1)) = l.length := by
          show (if (-1 : Int) < 0 then (-1 + ((l ++ [q]).length : Int)).toNat else min (-1 : Int).toNat (l ++ [q]).length) = _
          rw [if_pos (by decide)]
          simp
          omega
        rw [h1, HT.sIx_none]
        simp
      have es : stepP (l ++ [q]) (ab p) = if (ab p).1 ≤ q.2 then l ++ [(q.1, max q.2 (ab p).2)] else l ++ [q] ++ [ab p] := by simp [stepP]
      rw [es] at ef
      simp [neD_pr, -List.map_append, hat, hcut]
      split
      · rename_i h
        have h' : (ab p).1 ≤ q.2 := h
        rw [if_pos h'] at ef
        exact ⟨by omega, l ++ [(q.1, max q.2 (ab p).2)], by simp [pr, ab], by simp; omega, ef⟩
      · rename_i h
        have h' : ¬ (ab p).1 ≤ q.2 := h
        rw [if_neg h'] at ef
        exact ⟨by omega, l ++ [q] ++ [ab p], by simp [pr, ab], by simp; omega, ef⟩
  · obtain ⟨rfl, fs, rfl, hl2, ef⟩ := hi
    simp
    rw [← ef]
    rfl
theorem filter_len {n : Nat} {p : Nat → Bool} : ((List.range n).filter p).length ≤ n := by
  have := List.length_filter_le p (List.range n)
  simpa using this
theorem spansP_len {l : List Nat} (hl : l.length ≤ 1000) : (spansP (l.map ab)).length ≤ 1000 := by
  have : ∀ (r : List (Int × Int)) (fs : List (Int × Int)), (r.foldl stepP fs).length ≤ fs.length + r.length := by
    intro r
    induction r with
    | nil => intro fs; simp
    | cons p r ih =>
      intro fs
      have h1 := ih (stepP fs p)
      have h2 := stepP_len (fs := fs) (p := p)
      simp only [List.foldl_cons, List.length_cons]
      omega
  have := this (l.map ab) []
  unfold spansP
  simp at this
  omega
end DL
namespace DL
open PySem PySem.Spec L2
open PyProof.Rows hiding St
/-! ### a, b = x, y with fresh objects among these -/
/-- the fresh objects' values -/
def oA : List V → List D → List V
  | v :: vs, .o _ :: ds => v :: oA vs ds
  | _ :: vs, _ :: ds => oA vs ds
  | _, _ => []
abbrev OrO (Lf O : AdP) : AdP := fun a => Lf a ∨ O a
def AfOk (c : Cxt) (t : TA) (f : Av) : Prop := ∀ Lf adr S σ H ρ ds S' (Q : List V → Hp → Prop), EOk c Lf adr S σ H ρ → f ρ S = some (ds, S') →
  (∀ vs adr' H' (O : AdP), Ext adr S H adr' S' H' → StOk c (OrO Lf O) adr' S' H' → (∀ a, O a → H a = none) → DRL c.K H' (Lvv (OrO Lf O) adr' S') (OrO Lf O) (LvC adr' S') adr' S'.length vs ds →
    (oA vs ds).Nodup → (∀ v ∈ oA vs ds, ∃ a, v = .ref a ∧ O a) → Q vs H') → t σ H Q
def DAf (c : Cxt) (es : List Expr) (f : Av) : Prop := ∃ t, (∀ X, InC c X → PA X es t) ∧ AfOk c t f
def afP (fa : Ev) (fs : Av) : Av := fun ρ S => (fa ρ S).bind fun p => match p.1 with
  | .p d => (fs ρ p.2).bind fun q => some (.p d :: q.1, q.2)
  | .c k => (fs ρ p.2).bind fun q => some (.c k :: q.1, q.2)
  | _ => none
def afF (ff : Fsv) (fs : Av) : Av := fun ρ S => (ff ρ S).bind fun p => (fs ρ p.2).bind fun q => some (.o p.1 :: q.1, q.2)
section
variable {c : Cxt} {e : En} {Lf : AdP} {adr : Nat → Addr} {S : Sto} {H : Hp} {σ : L2.St} {ρ : Env'} {pos : Pos} {a : Expr} {es : List Expr} {fa : Ev} {fs : Av} {ff : Fsv}
theorem orO_none : OrO Lf (fun _ => False) = Lf := funext fun a => propext ⟨fun z => z.elim id False.elim, .inl⟩
theorem daf_nil : DAf c [] aNil := ⟨_, fun X _ => pa_nil, fun Lf adr S σ H ρ ds S' Q I e w => by
  cases e
  exact w [] adr H (fun _ => False) .refl (by rw [orO_none]; exact I.sto) (fun a z => z.elim) .nil List.nodup_nil fun v z => by cases z⟩
theorem dr_pc {K : PySem.W.Frag} {L L2 Lf2 C C2 : AdP} {n : Nat} {v : V} {d : D} : (∃ x, d = .p x) ∨ (∃ k, d = .c k) → DR K H L2 Lf2 C2 adr n v d → DR K H L2 Lf C adr n v d := by
  rintro (⟨x, rfl⟩ | ⟨k, rfl⟩) h <;> exact h
theorem daf_p (ha : DE c a fa) (hs : DAf c es fs) (hst : noStar (a :: es) = true) : DAf c (a :: es) (afP fa fs) := by
  obtain ⟨ta, pa, va⟩ := ha
  obtain ⟨ts, ps, vs⟩ := hs
  refine ⟨_, fun X hX => pa_cons (pa X hX) (ps X hX) (star_cons hst), fun Lf adr S σ H ρ ds S' Q I e w => ?_⟩
  unfold afP at e
  obtain ⟨⟨x, S1⟩, e1, e2⟩ := Option.bind_eq_some_iff.mp e
  have key : ∀ d, x = d → ((∃ y, d = .p y) ∨ (∃ k, d = .c k)) → ((fs ρ S1).bind fun q => some (d :: q.1, q.2)) = some (ds, S') → tCons ta ts σ H Q := by
    rintro d rfl hd e2
    obtain ⟨⟨y, S2⟩, e3, e4⟩ := Option.bind_eq_some_iff.mp e2
    cases e4
    refine va Lf adr S σ H ρ _ _ _ I e1 fun v adr1 H1 x1 s1 r1 => ?_
    refine vs Lf adr1 S1 σ H1 ρ _ _ _ (I.ext x1 s1) e3 fun us adr2 H2 O x2 s2 hO r2 nd al => ?_
    have hOn : ∀ a, O a → H a = none := fun a z => by
      cases q : H a with
      | none => rfl
      | some o => exact absurd (hO a z) (x1.trk a (by rw [q]; exact fun z => nomatch z))
    have r1' := r1.ext x2 (Lf' := OrO Lf O) (fun b z => z.imp id (hO b)) (fun b z => .inl z) s1.disj
    have eo : oA (v :: us) (x :: y) = oA us y := by rcases hd with ⟨y', rfl⟩ | ⟨k, rfl⟩ <;> rfl
    exact w _ adr2 H2 O (x1.trans x2) s2 hOn (.cons r1' r2) (by rw [eo]; exact nd) (by rw [eo]; exact al)
  cases x with
  | p d => exact key _ rfl (.inl ⟨d, rfl⟩) e2
  | c k => exact key _ rfl (.inr ⟨k, rfl⟩) e2
  | o m => cases e2
  | f m => cases e2
theorem daf_f (ha : DF c a ff) (hs : DAf c es fs) (hst : noStar (a :: es) = true) : DAf c (a :: es) (afF ff fs) := by
  obtain ⟨ta, pa, va⟩ := ha
  obtain ⟨ts, ps, vs⟩ := hs
  refine ⟨_, fun X hX => pa_cons (pa X hX) (ps X hX) (star_cons hst), fun Lf adr S σ H ρ ds S' Q I e w => ?_⟩
  unfold afF at e
  simp only [Option.bind_eq_some_iff] at e
  obtain ⟨⟨m, S1⟩, e1, ⟨y, S2⟩, e3, e4⟩ := e
  cases e4
  refine va Lf adr S σ H ρ _ _ _ I e1 fun p adr1 H1 x1 s1 hp ob => ?_
  have hl0 : ∀ a, (Lf a ∨ a = p) → Lf a ∨ H a = none := fun a z => z.imp id fun q => by rw [q]; exact hp
  refine vs (fun a => Lf a ∨ a = p) adr1 S1 σ H1 ρ _ _ _ (I.ext' x1 s1 hl0 fun a z => .inl z) e3 fun us adr2 H2 O x2 s2 hO r2 nd al => ?_
  have eL : OrO (fun a => Lf a ∨ a = p) O = OrO Lf (fun a => a = p ∨ O a) := funext fun a => propext or_assoc
  rw [eL] at s2 r2
  have hOn : ∀ a, (a = p ∨ O a) → H a = none := fun a z => by
    rcases z with z | z
    · rw [z]; exact hp
    · cases q : H a with
      | none => rfl
      | some o => exact absurd (hO a z) (x1.trk a (by rw [q]; exact fun z => nomatch z))
  have hp1 : H1 p ≠ none := s1.lf p (.inr rfl)
  have ob2 : Ob H2 (Lvv (OrO Lf (fun a => a = p ∨ O a)) adr2 S2) p m := ob.tr (x2.tr fun b z => z.elim (fun q => .inl (.inl q)) fun q => q.elim (fun q => .inl (.inr q)) fun q => .inr (hO b q)) fun o q => x2.keep p o q fun z => s1.disj p z (.inr rfl)
  refine w (.ref p :: us) adr2 H2 (fun a => a = p ∨ O a) (x1.trans x2) s2 hOn (.cons ⟨p, rfl, .inr (.inl rfl), ob2⟩ r2) (List.nodup_cons.mpr ⟨fun z => ?_, nd⟩) fun v hv => ?_
  · obtain ⟨a, e, ha⟩ := al _ z
    cases e
    exact hp1 (hO p ha)
  · rcases List.mem_cons.mp hv with rfl | hv
    · exact ⟨p, rfl, .inl rfl⟩
    · obtain ⟨a, e, ha⟩ := al _ hv
      exact ⟨a, e, .inr ha⟩
/-- the state, while some new objects are not yet in their slots -/
structure OkO (c : Cxt) (e : En) (adr : Nat → Addr) (S : Sto) (σ : L2.St) (H : Hp) (ρ : Env') (O : AdP) : Prop where
  eok : EOk c (OrO (LfN e σ ρ) O) adr S σ H ρ
  ext : Ext e.adr e.S e.H adr S H
  fresh : ∀ a, ownA σ ρ a → e.H a = none
  freshO : ∀ a, O a → e.H a = none
  sep : ∀ a, O a → ¬ ownA σ ρ a
  inj : ∀ (i j : Nat) (m m' : PyData) (a : Addr), ρ[i]? = some (some (D.o m)) → ρ[j]? = some (some (D.o m')) → σ[i]? = some (some (V.ref a)) → σ[j]? = some (some (V.ref a)) → i = j
  frz : ∀ (i : Nat) (m : PyData) (a : Addr), ρ[i]? = some (some (D.f m)) → σ[i]? = some (some (V.ref a)) → e.H a ≠ none ∨ FrW c e a m
  lf0 : ∀ a, e.Lf a → e.H a ≠ none
  base : Tr e.bH e.bL H (Lvv (OrO (LfN e σ ρ) O) adr S)
theorem Ok.toO {adr' : Nat → Addr} {S' : Sto} {H' : Hp} {O : AdP} (I : Ok c e adr S σ H ρ) (x : Ext adr S H adr' S' H') (s : StOk c (OrO (LfN e σ ρ) O) adr' S' H') (hO : ∀ a, O a → H a = none) : OkO c e adr' S' σ H' ρ O := by
  have hl0 : ∀ a, OrO (LfN e σ ρ) O a → LfN e σ ρ a ∨ H a = none := fun a z => z.imp id (hO a)
  refine ⟨I.eok.ext' x s hl0 fun a z => .inl z, I.ext.trans x, I.fresh, fun a z => ?_, fun a z q => ?_, I.inj, I.frz, I.lf0, I.base.trans (x.tr hl0)⟩
  · cases q : e.H a with
    | none => rfl
    | some o => exact absurd (hO a z) (I.ext.trk a (by rw [q]; exact fun z => nomatch z))
  · exact I.eok.sto.lf a (.inr q) (hO a z)
theorem OkO.ok {O : AdP} (I : OkO c e adr S σ H ρ O) : Ok c e adr S σ H ρ :=
  ⟨I.eok.reown (fun a z => .inl z) fun i m a h1 h2 => .inr ⟨i, m, h1, h2⟩, I.ext, I.fresh, I.inj, I.frz, I.lf0, I.base.trans (tr_less fun a z => z.imp .inl id)⟩
theorem own_set {v : V} {d : D} {i : Nat} (hl : i < ρ.length) {a : Addr} (h : ownA (σ.set i (some v)) (ρ.set i (some d)) a) (hd : ∀ m, d ≠ .o m) : ownA σ ρ a := by
  obtain ⟨j, m, h1, h2⟩ := h
  by_cases hj : j = i
  · subst hj
    rw [List.getElem?_set_self hl] at h1
    cases h1
    exact absurd rfl (hd m)
  · rw [List.getElem?_set_ne (Ne.symm hj)] at h1 h2
    exact ⟨j, m, h1, h2⟩
theorem OkO.setP {O : AdP} {v : V} {d : D} {i : Nat} (I : OkO c e adr S σ H ρ O) (hl : i < ρ.length) (h : DR c.K H (Lvv (OrO (LfN e σ ρ) O) adr S) (OrO (LfN e σ ρ) O) (LvC adr S) adr S.length v d) (h1 : ∀ m, d ≠ .o m) (h2 : ∀ m, d ≠ .f m) :
    OkO c e adr S (σ.set i (some v)) H (ρ.set i (some d)) O := by
  have own : ∀ a, ownA (σ.set i (some v)) (ρ.set i (some d)) a → ownA σ ρ a := fun a z => own_set hl z h1
  have sub : ∀ a, OrO (LfN e (σ.set i (some v)) (ρ.set i (some d))) O a → OrO (LfN e σ ρ) O a := fun a z => z.imp (fun q => q.imp id (own a)) id
  have get : ∀ (j : Nat) (d' : D), (ρ.set i (some d))[j]? = some (some d') → (∀ m, d ≠ .o m) → (j = i ∧ d' = d) ∨ (j ≠ i ∧ ρ[j]? = some (some d') ∧ (σ.set i (some v))[j]? = σ[j]?) := fun j d' q _ => by
    by_cases hj : j = i
    · subst hj
      rw [List.getElem?_set_self hl] at q
      cases q
      exact .inl ⟨rfl, rfl⟩
    · rw [List.getElem?_set_ne (Ne.symm hj)] at q
      exact .inr ⟨hj, q, List.getElem?_set_ne (Ne.symm hj)⟩
  refine ⟨(I.eok.set i h).reown sub fun j m a q1 q2 => .inl (.inr ⟨j, m, q1, q2⟩), I.ext, fun a z => I.fresh a (own a z), I.freshO, fun a z q => I.sep a z (own a q), fun j k m1 m2 a q1 q2 q3 q4 => ?_, fun j m a q1 q2 => ?_, I.lf0, I.base.trans (tr_less fun a z => z.imp (sub a) id)⟩
  · rcases get j _ q1 h1 with ⟨_, z⟩ | ⟨_, a1, a2⟩
    · exact absurd z.symm (h1 _)
    · rcases get k _ q2 h1 with ⟨_, z⟩ | ⟨_, b1, b2⟩
      · exact absurd z.symm (h1 _)
      · exact I.inj j k m1 m2 a a1 b1 (by rw [← a2]; exact q3) (by rw [← b2]; exact q4)
  · rcases get j _ q1 h1 with ⟨_, z⟩ | ⟨_, a1, a2⟩
    · exact absurd z.symm (h2 _)
    · exact I.frz j m a a1 (by rw [← a2]; exact q2)
theorem OkO.setO {O : AdP} {p : Addr} {m : PyData} {i : Nat} (I : OkO c e adr S σ H ρ O) (hl : i < ρ.length) (hp : O p) (ob : Ob H (Lvv (OrO (LfN e σ ρ) O) adr S) p m) :
    OkO c e adr S (σ.set i (some (.ref p))) H (ρ.set i (some (.o m))) (fun a => O a ∧ a ≠ p) := by
  have hσ : i < σ.length := by rw [I.eok.len]; exact hl
  have own : ∀ a, ownA (σ.set i (some (.ref p))) (ρ.set i (some (.o m))) a → ownA σ ρ a ∨ a = p := fun a ⟨j, m', q1, q2⟩ => by
    by_cases hj : j = i
    · subst hj
      rw [List.getElem?_set_self hσ] at q2
      cases q2
      exact .inr rfl
    · rw [List.getElem?_set_ne (Ne.symm hj)] at q1 q2
      exact .inl ⟨j, m', q1, q2⟩
  have sub : ∀ a, OrO (LfN e (σ.set i (some (.ref p))) (ρ.set i (some (.o m)))) (fun a => O a ∧ a ≠ p) a → OrO (LfN e σ ρ) O a := fun a z => by
    rcases z with (z | z) | z
    · exact .inl (.inl z)
    · rcases own a z with z | z
      · exact .inl (.inr z)
      · rw [z]; exact .inr hp
    · exact .inr z.1
  have np : ∀ (j : Nat) (m' : PyData), ρ[j]? = some (some (D.o m')) → σ[j]? = some (some (V.ref p)) → False := fun j m' q1 q2 => I.sep p hp ⟨j, m', q1, q2⟩
  refine ⟨(I.eok.set i (v := .ref p) (d := .o m) ⟨p, rfl, .inr hp, ob⟩).reown sub fun j m a q1 q2 => .inl (.inr ⟨j, m, q1, q2⟩), I.ext, fun a z => ?_, fun a z => I.freshO a z.1, fun a z q => ?_, fun j k m1 m2 a q1 q2 q3 q4 => ?_, fun j m' a q1 q2 => ?_, I.lf0, I.base.trans (tr_less fun a z => z.imp (sub a) id)⟩
  · rcases own a z with z | z
    · exact I.fresh a z
    · rw [z]; exact I.freshO p hp
  · rcases own a q with q | q
    · exact I.sep a z.1 q
    · exact z.2 q
  · by_cases hj : j = i
    · by_cases hk : k = i
      · rw [hj, hk]
      · subst hj
        rw [List.getElem?_set_self hσ] at q3
        cases q3
        rw [List.getElem?_set_ne (Ne.symm hk)] at q2 q4
        exact (np k m2 q2 q4).elim
    · by_cases hk : k = i
      · subst hk
        rw [List.getElem?_set_self hσ] at q4
        cases q4
        rw [List.getElem?_set_ne (Ne.symm hj)] at q1 q3
        exact (np j m1 q1 q3).elim
      · rw [List.getElem?_set_ne (Ne.symm hj)] at q1 q3
        rw [List.getElem?_set_ne (Ne.symm hk)] at q2 q4
        exact I.inj j k m1 m2 a q1 q2 q3 q4
  · by_cases hj : j = i
    · subst hj
      rw [List.getElem?_set_self hl] at q1
      cases q1
    · rw [List.getElem?_set_ne (Ne.symm hj)] at q1 q2
      exact I.frz j m' a q1 q2
/-- the slots get data, cells, fresh objects -/
def setAllO : List Nat → List D → Env' → Option Env'
  | [], [], ρ => some ρ
  | i :: is, .p d :: ds, ρ => if i < ρ.length then setAllO is ds (ρ.set i (some (.p d))) else none
  | i :: is, .c k :: ds, ρ => if i < ρ.length then setAllO is ds (ρ.set i (some (.c k))) else none
  | i :: is, .o m :: ds, ρ => if i < ρ.length then setAllO is ds (ρ.set i (some (.o m))) else none
  | _, _, _ => none
theorem drl_less {K : PySem.W.Frag} {Lf' C : AdP} {n : Nat} (h : ∀ a, Lf' a → Lf a) : ∀ {vs : List V} {ds : List D}, DRL K H (Lvv Lf adr S) Lf C adr n vs ds → (∀ v ∈ oA vs ds, ∃ a, v = .ref a ∧ Lf' a) → (∀ d ∈ ds, ∀ m, d ≠ .f m) → DRL K H (Lvv Lf' adr S) Lf' C adr n vs ds
  | _, _, .nil, _, _ => .nil
  | _, _, @DRL.cons _ _ _ _ _ _ _ v vs d ds a b, ho, hf => by
    have tl : ∀ (x : D), d = x → (∀ v ∈ oA vs ds, ∃ a, v = .ref a ∧ Lf' a) := fun x hx u hu => ho u (by cases d <;> first | exact hu | exact List.mem_cons_of_mem _ hu)
    refine .cons ?_ (drl_less h b (tl _ rfl) fun x hx => hf x (List.mem_cons_of_mem _ hx))
    cases d with
    | p d => exact At.tr (tr_less fun x z => z.imp (h x) id) d a
    | c k => exact a
    | o m =>
      obtain ⟨p, rfl, _, ob⟩ := a
      obtain ⟨q, e, hq⟩ := ho (.ref p) List.mem_cons_self
      cases e
      exact ⟨p, rfl, hq, ob.tr (tr_less fun x z => z.imp (h x) id) fun _ z => z⟩
    | f m => exact absurd rfl (hf _ List.mem_cons_self m)
theorem setAllO_f : ∀ {is : List Nat} {ds : List D} {ρ ρ' : Env'}, setAllO is ds ρ = some ρ' → ∀ d ∈ ds, ∀ m, d ≠ .f m
  | _, [], _, _, _, d, hd, _ => by cases hd
  | [], d :: ds, _, _, h, _, _, _ => by cases d <;> cases h
  | i :: is, .f m :: ds, _, _, h, _, _, _ => by cases h
  | i :: is, .p x :: ds, ρ, ρ', h, d, hd, m => by
    unfold setAllO at h
    split at h
    · rcases List.mem_cons.mp hd with rfl | hd
      · exact fun z => nomatch z
      · exact setAllO_f h d hd m
    · cases h
  | i :: is, .c x :: ds, ρ, ρ', h, d, hd, m => by
    unfold setAllO at h
    split at h
    · rcases List.mem_cons.mp hd with rfl | hd
      · exact fun z => nomatch z
      · exact setAllO_f h d hd m
    · cases h
  | i :: is, .o x :: ds, ρ, ρ', h, d, hd, m => by
    unfold setAllO at h
    split at h
    · rcases List.mem_cons.mp hd with rfl | hd
      · exact fun z => nomatch z
      · exact setAllO_f h d hd m
    · cases h
theorem OkO.setAll : ∀ {is : List Nat} {vs : List V} {ds : List D} {σ : L2.St} {ρ ρ' : Env'} {O : AdP}, OkO c e adr S σ H ρ O → DRL c.K H (Lvv (OrO (LfN e σ ρ) O) adr S) (OrO (LfN e σ ρ) O) (LvC adr S) adr S.length vs ds → (oA vs ds).Nodup → (∀ v ∈ oA vs ds, ∃ a, v = .ref a ∧ O a) →
    setAllO is ds ρ = some ρ' → vs.length = is.length ∧ Ok c e adr S (setV is vs σ) H ρ'
  | [], _, [], σ, ρ, ρ', O, I, r, nd, al, h => by cases r; cases h; exact ⟨rfl, I.ok⟩
  | [], _, d :: ds, _, _, _, _, I, r, nd, al, h => by cases d <;> cases h
  | i :: is, _, [], σ, ρ, ρ', O, I, r, nd, al, h => by cases h
  | i :: is, _, .f m :: ds, σ, ρ, ρ', O, I, r, nd, al, h => by cases h
  | i :: is, _, .p d :: ds, σ, ρ, ρ', O, I, r, nd, al, h => by
    cases r with
    | @cons v vs _ _ a b =>
      unfold setAllO at h
      split at h
      · rename_i hl
        have I1 := I.setP (d := .p d) (v := v) hl a (fun m z => nomatch z) (fun m z => nomatch z)
        have b' := drl_less (Lf' := OrO (LfN e (σ.set i (some v)) (ρ.set i (some (.p d)))) O) (fun x z => z.imp (fun q => q.imp id fun q => own_set (d := .p d) hl q (fun m z => nomatch z)) id) b (fun v hv => (al v hv).imp fun a q => ⟨q.1, .inr q.2⟩) (setAllO_f h)
        obtain ⟨q1, q2⟩ := OkO.setAll I1 b' nd al h
        exact ⟨by rw [List.length_cons, List.length_cons, q1], q2⟩
      · cases h
  | i :: is, _, .c d :: ds, σ, ρ, ρ', O, I, r, nd, al, h => by
    cases r with
    | @cons v vs _ _ a b =>
      unfold setAllO at h
      split at h
      · rename_i hl
        have I1 := I.setP (d := .c d) (v := v) hl a (fun m z => nomatch z) (fun m z => nomatch z)
        have b' := drl_less (Lf' := OrO (LfN e (σ.set i (some v)) (ρ.set i (some (.c d)))) O) (fun x z => z.imp (fun q => q.imp id fun q => own_set (d := .c d) hl q (fun m z => nomatch z)) id) b (fun v hv => (al v hv).imp fun a q => ⟨q.1, .inr q.2⟩) (setAllO_f h)
        obtain ⟨q1, q2⟩ := OkO.setAll I1 b' nd al h
        exact ⟨by rw [List.length_cons, List.length_cons, q1], q2⟩
      · cases h
  | i :: is, _, .o m :: ds, σ, ρ, ρ', O, I, r, nd, al, h => by
    cases r with
    | @cons v vs _ _ a b =>
      unfold setAllO at h
      split at h
      · rename_i hl
        obtain ⟨p, rfl, _, ob⟩ := a
        have nd' : (V.ref p :: oA vs ds).Nodup := nd
        have hp : O p := by
          obtain ⟨q, e, hq⟩ := al (.ref p) List.mem_cons_self
          cases e
          exact hq
        have I1 := I.setO (m := m) hl hp ob
        have al' : ∀ v ∈ oA vs ds, ∃ a, v = .ref a ∧ (O a ∧ a ≠ p) := fun v hv => by
          obtain ⟨a, rfl, ha⟩ := al v (List.mem_cons_of_mem _ hv)
          exact ⟨a, rfl, ha, fun z => (List.nodup_cons.mp nd').1 (by rw [← z]; exact hv)⟩
        have hσ : i < σ.length := by rw [I.eok.len]; exact hl
        have b' := drl_less (Lf' := OrO (LfN e (σ.set i (some (.ref p))) (ρ.set i (some (.o m)))) (fun a => O a ∧ a ≠ p)) (fun x z => by
          rcases z with (z | ⟨j, m', q1, q2⟩) | z
          · exact .inl (.inl z)
          · by_cases hj : j = i
            · subst hj
              rw [List.getElem?_set_self hσ] at q2
              cases q2
              exact .inr hp
            · rw [List.getElem?_set_ne (Ne.symm hj)] at q1 q2
              exact .inl (.inr ⟨j, m', q1, q2⟩)
          · exact .inr z.1) b (fun v hv => (al' v hv).imp fun a q => ⟨q.1, .inr q.2⟩) (setAllO_f h)
        obtain ⟨q1, q2⟩ := OkO.setAll I1 b' (List.nodup_cons.mp nd').2 al' h
        exact ⟨by rw [List.length_cons, List.length_cons, q1], q2⟩
      · cases h
def sParO (is : List Nat) (fs : Av) : Sv := fun ρ S => (fs ρ S).bind fun p => (setAllO is p.1 ρ).bind fun ρ' => some (.nx ρ' p.2)
variable {px py pz pt : Pos} {x y z : Str} {b d3 : Expr} {i j l kt k2 : Nat} {pt2 : Pos}
theorem ds_parO (hN : c.N.Nodup) (hi : c.N[i]? = some x) (hj : c.N[j]? = some y) (hij : i ≠ j) (hx : c.sc.names.lookup x = some .local) (hy : c.sc.names.lookup y = some .local) (ha : DAf c [a, b] fs)
    (hw : ∀ X, InC c X → swappedStores [.Tuple [.Name x px, .Name y py] kt pt] (.Tuple [a, b] k2 pt2) X.env = pure (some [x, y]))
    (hs : ∀ X, InC c X → swapsWithSole [.Tuple [.Name x px, .Name y py] kt pt] (.Tuple [a, b] k2 pt2) pos.line X.env = pure false) :
    DS c (.Assign [.Tuple [.Name x px, .Name y py] kt pt] (.Tuple [a, b] k2 pt2) pos) (sParO [i, j] fs) := by
  obtain ⟨ta, pa, va⟩ := ha
  refine ⟨tPar i j ta, fun X hX => ps_par hX.calm (by rw [hX.N]; exact hN) (by rw [hX.N]; exact hi) (by rw [hX.N]; exact hj) hij (by rw [hX.sc]; exact hx) (by rw [hX.sc]; exact hy) (pa X hX) (hw X hX) (hs X hX), ?_⟩
  intro e adr S σ H ρ o D I h w
  unfold sParO at h
  obtain ⟨⟨ds, S1⟩, e1, e2⟩ := Option.bind_eq_some_iff.mp h
  obtain ⟨ρ', e3, e4⟩ := Option.bind_eq_some_iff.mp e2
  cases e4
  refine va _ adr S σ H ρ _ _ _ I.eok e1 fun vs adr1 H1 O x1 s1 hO r1 nd al => ?_
  obtain ⟨q1, q2⟩ := (I.toO x1 s1 hO).setAll r1 nd al e3
  match vs, q1, q2 with
  | [v, u], _, q2 => exact ⟨v, u, rfl, w adr1 _ H1 q2⟩
theorem ds_parO3 (hN : c.N.Nodup) (hi : c.N[i]? = some x) (hj : c.N[j]? = some y) (hl : c.N[l]? = some z) (hij : i ≠ j) (hil : i ≠ l) (hjl : j ≠ l) (hx : c.sc.names.lookup x = some .local) (hy : c.sc.names.lookup y = some .local) (hz : c.sc.names.lookup z = some .local) (ha : DAf c [a, b, d3] fs)
    (hw : ∀ X, InC c X → swappedStores [.Tuple [.Name x px, .Name y py, .Name z pz] kt pt] (.Tuple [a, b, d3] k2 pt2) X.env = pure (some [x, y, z]))
    (hs : ∀ X, InC c X → swapsWithSole [.Tuple [.Name x px, .Name y py, .Name z pz] kt pt] (.Tuple [a, b, d3] k2 pt2) pos.line X.env = pure false) :
    DS c (.Assign [.Tuple [.Name x px, .Name y py, .Name z pz] kt pt] (.Tuple [a, b, d3] k2 pt2) pos) (sParO [i, j, l] fs) := by
  obtain ⟨ta, pa, va⟩ := ha
  refine ⟨tPar3 i j l ta, fun X hX => ps_par3 hX.calm (by rw [hX.N]; exact hN) (by rw [hX.N]; exact hi) (by rw [hX.N]; exact hj) (by rw [hX.N]; exact hl) hij hil hjl (by rw [hX.sc]; exact hx) (by rw [hX.sc]; exact hy) (by rw [hX.sc]; exact hz) (pa X hX) (hw X hX) (hs X hX), ?_⟩
  intro e adr S σ H ρ o D I h w
  unfold sParO at h
  obtain ⟨⟨ds, S1⟩, e1, e2⟩ := Option.bind_eq_some_iff.mp h
  obtain ⟨ρ', e3, e4⟩ := Option.bind_eq_some_iff.mp e2
  cases e4
  refine va _ adr S σ H ρ _ _ _ I.eok e1 fun vs adr1 H1 O x1 s1 hO r1 nd al => ?_
  obtain ⟨q1, q2⟩ := (I.toO x1 s1 hO).setAll r1 nd al e3
  match vs, q1, q2 with
  | [v, u, t], _, q2 => exact ⟨v, u, t, rfl, w adr1 _ H1 q2⟩
/-! by the tuple itself -/
def gNs : List Nat → TGs
  | [] => L2.gNil
  | i :: is => L2.gCons (gName i) (gNs is)
theorem gNs_run {Q : L2.St → Hp → Prop} : ∀ {is : List Nat} {vs : List V} {σ : L2.St}, vs.length = is.length → Q (setV is vs σ) H → gNs is vs σ H Q
  | [], [], _, _, q => ⟨rfl, q⟩
  | _ :: _, [], _, h, _ => by cases h
  | [], _ :: _, _, h, _ => by cases h
  | i :: is, v :: vs, σ, h, q => ⟨v, vs, rfl, gNs_run (is := is) (by simpa using h) q⟩
def DGn (c : Cxt) (is : List Nat) (es : List Expr) : Prop := ∀ X, InC c X → PGs X es (gNs is)
theorem dgn_nil : DGn c [] [] := fun X _ => pgs_nil
theorem dgn_cons {is : List Nat} {i : Nat} {x : Str} {p : Pos} {es : List Expr} (hN : c.N.Nodup) (hs : DGn c is es) (hi : c.N[i]? = some x := by rfl) (hx : Loc c.sc x := by first | exact Or.inl rfl | exact Or.inr rfl) (hf : c.fn x = true ∨ c.sc.names.lookup x = some .local := by first | exact Or.inl rfl | exact Or.inr rfl)
    (ht : ∀ X, InC c X → (assignEach (.Name x p :: es) X.env).map (·.2) = assign (.Name x p) X.env :: (assignEach es X.env).map (·.2) := by exact fun _ _ => rfl) : DGn c (i :: is) (.Name x p :: es) :=
  fun X hX => pgs_cons (pg_name (by rw [hX.N]; exact hN) (by rw [hX.N]; exact hi) (by rw [hX.sc]; exact hx) (by rw [hX.fn, hX.sc]; exact hf)) (hs X hX) (ht X hX)
theorem tupO {is : List Nat} {tgs es : List Expr} {pt pt2 : Pos} {kt k2 : Nat} (ha : DAf c es fs) (hg : DGn c is tgs) (hn : ∀ X, InC c X → (assignEach tgs X.env).length = is.length := by exact fun _ _ => rfl) (hst : ∀ X, InC c X → (assignEach tgs X.env).findIdx? (·.1) = none := by exact fun _ _ => rfl)
    (hw : ∀ env : Env, swappedStores [.Tuple tgs kt pt] (.Tuple es k2 pt2) { env with scope := c.sc } = pure none := by exact fun _ => rfl) (hs : ∀ X, InC c X → swapsWithSole [.Tuple tgs kt pt] (.Tuple es k2 pt2) pos.line X.env = pure false := by exact fun _ _ => rfl) (hz : is.length ≤ 100 := by decide) :
    DS c (.Assign [.Tuple tgs kt pt] (.Tuple es k2 pt2) pos) (sParO is fs) := by
  obtain ⟨ta, pa, va⟩ := ha
  refine ⟨tAsg (tTup ta) (gTup c.K is.length (gNs is)), fun X hX => ?_, ?_⟩
  · have h := ps_asg (pos := pos) (pe_tup (pa X hX)) (pg_tup (pos := pt) (k := kt) hX.calm (hg X hX) (hn X hX) (hst X hX)) (hs X hX) ((sw_env (env' := { X.env with scope := c.sc }) hX.sc).trans (hw _))
    rw [hX.K] at h
    exact h
  intro e adr S σ H ρ o D I h w
  unfold sParO at h
  obtain ⟨⟨ds, S1⟩, e1, e2⟩ := Option.bind_eq_some_iff.mp h
  obtain ⟨ρ', e3, e4⟩ := Option.bind_eq_some_iff.mp e2
  cases e4
  refine va _ adr S σ H ρ _ _ _ I.eok e1 fun vs adr1 H1 O x1 s1 hO r1 nd al => ?_
  obtain ⟨q1, q2⟩ := (I.toO x1 s1 hO).setAll r1 nd al e3
  refine ⟨by rw [q1, sizeLine_eq]; omega, fun p hp => ⟨p, vs, rfl, .of upd_same, q1, gNs_run q1 ?_⟩⟩
  exact w adr1 _ _ (q2.extE (.grow (upd_grow hp)) (grow_ok q2.eok.sto (upd_grow hp)))
theorem parO2 (i j : Nat) (hN : c.N.Nodup) (ha : DAf c [a, b] fs) (hi : c.N[i]? = some x := by rfl) (hj : c.N[j]? = some y := by rfl) (hij : i ≠ j := by decide) (hx : c.sc.names.lookup x = some .local := by rfl) (hy : c.sc.names.lookup y = some .local := by rfl)
    (hk : c.sc.kind = .function := by rfl) (hl : (py.line == px.line) = true := by rfl) (hne : [x, y].eraseDups.length = 2 := by kernel_rfl) (hst : noStar [a, b] = true := by rfl) (hf : [a, b].all (foldedForSure 8) = false := by kernel_rfl) (hc : [a, b].all (constantsAlone 8) = false := by kernel_rfl)
    (hs : ∀ X, InC c X → swapsWithSole [.Tuple [.Name x px, .Name y py] kt pt] (.Tuple [a, b] k2 pt2) pos.line X.env = pure false := by exact fun _ _ => rfl) :
    DS c (.Assign [.Tuple [.Name x px, .Name y py] kt pt] (.Tuple [a, b] k2 pt2) pos) (sParO [i, j] fs) := ds_parO hN hi hj hij hx hy ha (fun X hX => swp2 (by rw [hX.sc]; exact hk) (by rw [hX.sc]; exact hx) (by rw [hX.sc]; exact hy) hl hne hst hf hc) hs
theorem parO3 (i j l : Nat) (hN : c.N.Nodup) (ha : DAf c [a, b, d3] fs) (hi : c.N[i]? = some x := by rfl) (hj : c.N[j]? = some y := by rfl) (hlz : c.N[l]? = some z := by rfl) (hij : i ≠ j := by decide) (hil : i ≠ l := by decide) (hjl : j ≠ l := by decide) (hx : c.sc.names.lookup x = some .local := by rfl) (hy : c.sc.names.lookup y = some .local := by rfl) (hz : c.sc.names.lookup z = some .local := by rfl)
    (hk : c.sc.kind = .function := by rfl) (hl : (py.line == px.line) = true := by rfl) (hl2 : (pz.line == px.line) = true := by rfl) (hne : [x, y, z].eraseDups.length = 3 := by kernel_rfl) (hst : noStar [a, b, d3] = true := by rfl) (hf : [a, b, d3].all (foldedForSure 8) = false := by kernel_rfl) (hc : [a, b, d3].all (constantsAlone 8) = false := by kernel_rfl)
    (hs : ∀ X, InC c X → swapsWithSole [.Tuple [.Name x px, .Name y py, .Name z pz] kt pt] (.Tuple [a, b, d3] k2 pt2) pos.line X.env = pure false := by exact fun _ _ => rfl) :
    DS c (.Assign [.Tuple [.Name x px, .Name y py, .Name z pz] kt pt] (.Tuple [a, b, d3] k2 pt2) pos) (sParO [i, j, l] fs) := ds_parO3 hN hi hj hlz hij hil hjl hx hy hz ha (fun X hX => swp3 (by rw [hX.sc]; exact hk) (by rw [hX.sc]; exact hx) (by rw [hX.sc]; exact hy) (by rw [hX.sc]; exact hz) hl hl2 hne hst hf hc) hs
end
/-! plain walking -/
section
variable {ρ : Env'} {S : Sto} {fa : Ev} {fs : Av} {ff : Fsv} {i k : Nat} {is : List Nat} {d : PyData} {ds : List D} {QA : List D × Sto → Prop} {QS : Out → Prop} {Q : Env' → Prop}
@[simp ↓] theorem w_afP : W (afP fa fs ρ S) QA = W (fa ρ S) fun p => match p.1 with | .p d => W (fs ρ p.2) fun q => QA (.p d :: q.1, q.2) | .c k => W (fs ρ p.2) fun q => QA (.c k :: q.1, q.2) | _ => False := by
  unfold afP
  simp only [W_bind]
  congr; funext p
  obtain ⟨x, S1⟩ := p
  cases x <;> first | exact W_none | (refine W_bind.trans ?_; simp only [W_some])
@[simp ↓] theorem w_afF : W (afF ff fs ρ S) QA = W (ff ρ S) fun p => W (fs ρ p.2) fun q => QA (.o p.1 :: q.1, q.2) := by
  unfold afF
  simp only [W_bind, W_some]
@[simp ↓] theorem w_parO : W (sParO is fs ρ S) QS = W (fs ρ S) fun p => W (setAllO is p.1 ρ) fun ρ' => QS (.nx ρ' p.2) := by
  unfold sParO
  simp only [W_bind, W_some]
@[simp ↓] theorem w_sao0 : W (setAllO [] [] ρ) Q = Q ρ := W_some
@[simp ↓] theorem w_saop : W (setAllO (i :: is) (.p d :: ds) ρ) Q = (i < ρ.length ∧ W (setAllO is ds (ρ.set i (some (.p d)))) Q) := by
  show W (if _ then _ else _) Q = _
  rw [W_ite, W_none]
  split <;> simp [*]
@[simp ↓] theorem w_saoc : W (setAllO (i :: is) (.c k :: ds) ρ) Q = (i < ρ.length ∧ W (setAllO is ds (ρ.set i (some (.c k)))) Q) := by
  show W (if _ then _ else _) Q = _
  rw [W_ite, W_none]
  split <;> simp [*]
@[simp ↓] theorem w_saoo : W (setAllO (i :: is) (.o d :: ds) ρ) Q = (i < ρ.length ∧ W (setAllO is ds (ρ.set i (some (.o d)))) Q) := by
  show W (if _ then _ else _) Q = _
  rw [W_ite, W_none]
  split <;> simp [*]
end
end DL
namespace DL
open PySem PySem.Spec L2
open PyProof.Rows hiding St
/-! ### the order of data -/
abbrev dlt (a b : PyData) : Bool := PySem.W.dataLt a b
abbrev dle (a b : PyData) : Bool := PySem.W.dataLe false id a b
theorem dle_def {a b : PyData} : dle a b = !dlt b a := rfl
theorem dlt_irrefl (a : PyData) : dlt a a = false := PyProof.Rows.lex_irrefl _
theorem dlt_trans {a b c : PyData} (h1 : dlt a b = true) (h2 : dlt b c = true) : dlt a c = true := PyProof.Rows.lex_trans _ _ _ h1 h2
theorem dle_trans (a b c : PyData) (h1 : dle a b = true) (h2 : dle b c = true) : dle a c = true := by
  rw [dle_def] at *
  cases h : dlt c a with
  | false => rfl
  | true =>
    rcases PyProof.Rows.lex_negTrans _ (PySem.W.keyToks b) _ (show PyProof.Rows.lexLt PyProof.Rows.itemOrd (PySem.W.keyToks c) (PySem.W.keyToks a) = true from h) with q | q
    · rw [show dlt c b = true from q] at h2; cases h2
    · rw [show dlt b a = true from q] at h1; cases h1
theorem dlt_asymm {a b : PyData} (h : dlt a b = true) : dlt b a = false := by
  cases q : dlt b a with
  | false => rfl
  | true => have := dlt_trans h q; rw [dlt_irrefl] at this; cases this
theorem dle_total (a b : PyData) : (dle a b || dle b a) = true := by
  rw [dle_def, dle_def]
  cases h : dlt b a with
  | false => rfl
  | true => rw [dlt_asymm h]; rfl
theorem dlt_tri {a b : PyData} (hal : PySem.W.alike a b = true) (h1 : dlt a b = false) (h2 : dlt b a = false) : PyData.eqv a b = true := by
  have e : PySem.W.keyToks a = PySem.W.keyToks b := PyProof.Rows.lex_total _ _ h1 h2
  cases q : PyData.eqv a b with
  | true => rfl
  | false =>
    have z := (PySem.W.toks_eqv a b hal).2 q [] [.inl 0]
    rw [e] at z
    rw [PySem.W.lex_pre, PyProof.Rows.lex_irrefl] at z
    have : PyProof.Rows.lexLt PyProof.Rows.itemOrd [] [Sum.inl (0 : Int)] = true := rfl
    rw [this] at z
    cases z
theorem eqv_lt {a b : PyData} (hal : PySem.W.alike a b = true) (h : PyData.eqv a b = true) : dlt a b = false := by
  have e := (PySem.W.toks_eqv a b hal).1 h
  show PyProof.Rows.lexLt PyProof.Rows.itemOrd (PySem.W.keyToks a) (PySem.W.keyToks b) = false
  rw [e, PyProof.Rows.lex_irrefl]
theorem msort_sorted (ds : List PyData) : (ds.mergeSort dle).Pairwise fun a b => dle a b = true := List.pairwise_mergeSort dle_trans dle_total ds
/-- a strict order: the same members, the same list -/
theorem strict_ext {α : Type} {lt : α → α → Prop} (irr : ∀ a, ¬ lt a a) (tr : ∀ a b c, lt a b → lt b c → lt a c) : ∀ {xs ys : List α}, xs.Pairwise lt → ys.Pairwise lt → (∀ a, a ∈ xs ↔ a ∈ ys) → xs = ys
  | [], [], _, _, _ => rfl
  | [], y :: ys, _, _, h => by have := (h y).mpr List.mem_cons_self; cases this
  | x :: xs, [], _, _, h => by have := (h x).mp List.mem_cons_self; cases this
  | x :: xs, y :: ys, h1, h2, h => by
    obtain ⟨a1, a2⟩ := List.pairwise_cons.mp h1
    obtain ⟨b1, b2⟩ := List.pairwise_cons.mp h2
    have e : x = y := by
      rcases List.mem_cons.mp ((h x).mp List.mem_cons_self) with e | m
      · exact e
      · rcases List.mem_cons.mp ((h y).mpr List.mem_cons_self) with e | m'
        · exact e.symm
        · exact absurd (tr _ _ _ (b1 x m) (a1 y m')) (irr _)
    subst e
    rw [strict_ext irr tr a2 b2 fun a => ?_]
    constructor
    · intro m
      rcases List.mem_cons.mp ((h a).mp (List.mem_cons_of_mem _ m)) with e | m'
      · exact absurd (e ▸ a1 a m) (irr _)
      · exact m'
    · intro m
      rcases List.mem_cons.mp ((h a).mpr (List.mem_cons_of_mem _ m)) with e | m'
      · exact absurd (e ▸ b1 a m) (irr _)
      · exact m'
/-- neighbours that are equal: one of these -/
def dd1 : List PyData → List PyData
  | [] => []
  | x :: r => match r with
    | [] => [x]
    | y :: _ => if PyData.eqv x y = true then dd1 r else x :: dd1 r
theorem dd1_cons {x y : PyData} {r : List PyData} : dd1 (x :: y :: r) = if PyData.eqv x y = true then dd1 (y :: r) else x :: dd1 (y :: r) := by rw [dd1]
def usort (ds : List PyData) : List PyData := dd1 (ds.mergeSort dle)
theorem dd1_sub : ∀ (l : List PyData), ∀ x ∈ dd1 l, x ∈ l
  | [], x, h => by cases h
  | [y], x, h => h
  | y :: z :: r, x, h => by
    rw [dd1_cons] at h
    split at h
    · exact List.mem_cons_of_mem _ (dd1_sub (z :: r) x h)
    · rcases List.mem_cons.mp h with rfl | h
      · exact List.mem_cons_self
      · exact List.mem_cons_of_mem _ (dd1_sub (z :: r) x h)
theorem dd1_mem (pure : ∀ x y : PyData, PyData.eqv x y = true → x = y ∨ True) : ∀ (l : List PyData), (∀ x ∈ l, ∀ y ∈ l, PyData.eqv x y = true → x = y) → ∀ x ∈ l, x ∈ dd1 l
  | [], _, x, h => h
  | [y], _, x, h => h
  | y :: z :: r, hp, x, h => by
    rw [dd1_cons]
    have ih := dd1_mem pure (z :: r) fun a ha b hb => hp a (List.mem_cons_of_mem _ ha) b (List.mem_cons_of_mem _ hb)
    split
    · rename_i he
      rcases List.mem_cons.mp h with rfl | h
      · rw [hp _ List.mem_cons_self z (List.mem_cons_of_mem _ List.mem_cons_self) he]
        exact ih z List.mem_cons_self
      · exact ih x h
    · rcases List.mem_cons.mp h with rfl | h
      · exact List.mem_cons_self
      · exact List.mem_cons_of_mem _ (ih x h)
theorem dd1_strict : ∀ (l : List PyData), l.Pairwise (fun a b => dle a b = true) → (∀ x ∈ l, ∀ y ∈ l, PySem.W.alike x y = true) → (dd1 l).Pairwise fun a b => dlt a b = true
  | [], _, _ => List.Pairwise.nil
  | [y], _, _ => List.pairwise_singleton _ _
  | y :: z :: r, hs, hal => by
    rw [dd1_cons]
    obtain ⟨h1, h2⟩ := List.pairwise_cons.mp hs
    have ih := dd1_strict (z :: r) h2 fun a ha b hb => hal a (List.mem_cons_of_mem _ ha) b (List.mem_cons_of_mem _ hb)
    split
    · exact ih
    · rename_i he
      refine List.pairwise_cons.mpr ⟨fun x hx => ?_, ih⟩
      have hx' := dd1_sub _ x hx
      have yz : dlt y z = true := by
        cases q : dlt y z with
        | true => rfl
        | false =>
          have w := h1 z List.mem_cons_self
          rw [dle_def] at w
          exact absurd (dlt_tri (hal y List.mem_cons_self z (List.mem_cons_of_mem _ List.mem_cons_self)) q (by simpa using w)) he
      rcases List.mem_cons.mp hx' with rfl | hx'
      · exact yz
      · have w := (List.pairwise_cons.mp h2).1 x hx'
        rw [dle_def] at w
        rcases PyProof.Rows.lex_negTrans _ (PySem.W.keyToks x) _ (show PyProof.Rows.lexLt PyProof.Rows.itemOrd (PySem.W.keyToks y) (PySem.W.keyToks z) = true from yz) with q | q
        · exact q
        · rw [show dlt x z = true from q] at w; cases w
/-- keys of a set: ints, texts, tuples of ints -/
def isIT : PyData → Bool
  | .tuple xs => xs.all fun x => match x with | .int _ => true | _ => false
  | _ => false
theorem allI_ints : ∀ {xs : List PyData}, (xs.all fun x => match x with | .int _ => true | _ => false) = true → ∃ ns : List Int, xs = ns.map .int
  | [], _ => ⟨[], rfl⟩
  | x :: xs, h => by
    rw [List.all_cons, Bool.and_eq_true] at h
    obtain ⟨ns, e⟩ := allI_ints h.2
    cases x <;> first | (cases h.1; done) | skip
    rename_i i
    exact ⟨i :: ns, by rw [e]; rfl⟩
theorem isIT_ints {d : PyData} (h : isIT d = true) : ∃ ns : List Int, d = .tuple (ns.map .int) := by
  cases d <;> first | (cases h; done) | skip
  obtain ⟨ns, e⟩ := allI_ints h
  exact ⟨ns, by rw [e]⟩
theorem isIT_kt {d : PyData} (h : isIT d = true) : isKT d = true := by
  obtain ⟨ns, rfl⟩ := isIT_ints h
  show (keysK (ns.map .int)).isSome = true
  induction ns with
  | nil => rfl
  | cons n ns ih =>
    have ih := ih (by simp [isIT])
    obtain ⟨k, e⟩ := Option.isSome_iff_exists.mp ih
    simp [keysK, keyK, e]
def setB (ds : List PyData) : Bool := (ds.all isKK && decide (ds.length < 4000)) || (ds.all isIT && decide (ds.length < 64))
theorem setB_pure {ds : List PyData} (h : setB ds = true) : ∀ x ∈ ds, ∀ y ∈ ds, PyData.eqv x y = true → x = y := by
  intro x hx y hy e
  unfold setB at h
  rw [Bool.or_eq_true, Bool.and_eq_true, Bool.and_eq_true] at h
  rcases h with ⟨h, _⟩ | ⟨h, _⟩
  · obtain ⟨k, rfl⟩ := isKK_key (List.all_eq_true.mp h x hx)
    obtain ⟨k', rfl⟩ := isKK_key (List.all_eq_true.mp h y hy)
    rw [eqv_keyD] at e
    rw [of_decide_eq_true e]
  · obtain ⟨k, rfl⟩ := isKT_key (isIT_kt (List.all_eq_true.mp h x hx))
    obtain ⟨k', rfl⟩ := isKT_key (isIT_kt (List.all_eq_true.mp h y hy))
    have e : PyData.eqvAll _ _ = true := e
    rw [eqv_keyT] at e
    rw [of_decide_eq_true e]
theorem usort_mem {ds : List PyData} (h : ∀ x ∈ ds, ∀ y ∈ ds, PyData.eqv x y = true → x = y) (x : PyData) : x ∈ usort ds ↔ x ∈ ds := by
  have pm := List.mergeSort_perm ds dle
  constructor
  · intro hx
    exact pm.mem_iff.mp (dd1_sub _ x hx)
  · intro hx
    exact dd1_mem (fun _ _ _ => .inr trivial) _ (fun a ha b hb => h a (pm.mem_iff.mp ha) b (pm.mem_iff.mp hb)) x (pm.mem_iff.mpr hx)
theorem usort_strict {ds : List PyData} (h : ∀ x ∈ ds, ∀ y ∈ ds, PySem.W.alike x y = true) : (usort ds).Pairwise fun a b => dlt a b = true := by
  have pm := List.mergeSort_perm ds dle
  exact dd1_strict _ (msort_sorted ds) fun a ha b hb => h a (pm.mem_iff.mp ha) b (pm.mem_iff.mp hb)
/-- the only strictly rising list of these members -/
theorem usort_of {ds rs : List PyData} (h1 : rs.Pairwise fun a b => dlt a b = true) (h2 : ∀ x, x ∈ rs ↔ x ∈ ds) (hp : ∀ x ∈ ds, ∀ y ∈ ds, PyData.eqv x y = true → x = y) (hal : ∀ x ∈ ds, ∀ y ∈ ds, PySem.W.alike x y = true) : usort ds = rs :=
  strict_ext (lt := fun a b => dlt a b = true) (fun a => by rw [dlt_irrefl]; exact Bool.false_ne_true) (fun a b c => dlt_trans) (usort_strict hal) h1 fun a => (usort_mem hp a).trans (h2 a).symm
theorem each_perm {α β : Type} {R : α → β → Prop} {xs xs' : List α} (p : xs'.Perm xs) : ∀ {ys : List β}, PySem.W.EachIs R xs ys → ∃ ys' : List β, ys'.Perm ys ∧ PySem.W.EachIs R xs' ys' := by
  induction p with
  | nil => intro ys e; cases e; exact ⟨[], .refl _, .nil⟩
  | cons x p ih =>
    intro ys e
    cases e with
    | cons r t =>
      obtain ⟨ys', q1, q2⟩ := ih t
      exact ⟨_ :: ys', q1.cons _, .cons r q2⟩
  | swap x y l =>
    intro ys e
    cases e with
    | cons r t =>
      cases t with
      | cons r2 t => exact ⟨_ :: _ :: _, .swap _ _ _, .cons r2 (.cons r t)⟩
  | trans p1 p2 ih1 ih2 =>
    intro ys e
    obtain ⟨ys1, a1, a2⟩ := ih2 e
    obtain ⟨ys2, b1, b2⟩ := ih1 a2
    exact ⟨ys2, b1.trans a1, b2⟩
/-! sorted(set(..)), len(set(..)), by data -/
def soSetL : List PyData → Option (List PyData)
  | [.list ds] => if setB ds = true ∧ sortB ds = true then some (usort ds) else none
  | [.tuple ds] => if setB ds = true ∧ sortB ds = true then some (usort ds) else none
  | _ => none
def leSetD : List PyData → Option PyData
  | [.list ds] => if setB ds = true ∧ alikeB ds = true then some (.int ((usort ds).length : Nat)) else none
  | [.tuple ds] => if setB ds = true ∧ alikeB ds = true then some (.int ((usort ds).length : Nat)) else none
  | _ => none
theorem soSet_inv {ds rs : List PyData} (h : soSetL ds = some rs) : ∃ xs, (ds = [.list xs] ∨ ds = [.tuple xs]) ∧ setB xs = true ∧ sortB xs = true ∧ rs = usort xs := by
  unfold soSetL at h
  split at h
  · split at h
    · rename_i hc; cases h; exact ⟨_, .inl rfl, hc.1, hc.2, rfl⟩
    · cases h
  · split at h
    · rename_i hc; cases h; exact ⟨_, .inr rfl, hc.1, hc.2, rfl⟩
    · cases h
  · cases h
theorem leSet_inv {ds : List PyData} {r : PyData} (h : leSetD ds = some r) : ∃ xs, (ds = [.list xs] ∨ ds = [.tuple xs]) ∧ setB xs = true ∧ alikeB xs = true ∧ r = .int ((usort xs).length : Nat) := by
  unfold leSetD at h
  split at h
  · split at h
    · rename_i hc; cases h; exact ⟨_, .inl rfl, hc.1, hc.2, rfl⟩
    · cases h
  · split at h
    · rename_i hc; cases h; exact ⟨_, .inr rfl, hc.1, hc.2, rfl⟩
    · cases h
  · cases h
end DL
namespace DL
open PySem PySem.Spec L2 HT
open PyProof.Rows hiding St
/-! ### xs[::-1] -/
section
variable {prog : Program} {w : World} {A : Around} {E : Value → Shared → Prop} {s : Shared}
theorem applied_back {sl : Addr} {vs : Value} {n : Nat} {Q : Int × Int × Nat → Shared → Prop} (hs : s.heap.IsSliceOf sl .none .none vs) (ps : IsPart vs (some (-1))) (h : Q ((n : Int) - 1, -1, n) s) :
    wpAny (model prog w) A (Builtin.Slice.sliceApplied (.ref sl) (pure (n : Int))) Q E s := by
  obtain ⟨os, hos, hcs, hds⟩ := id hs
  unfold Builtin.Slice.sliceApplied Builtin.Slice.sliceFields
  refine wpAny_bind (wpAny_bind (wpAny_field hos hds (x := .none) rfl (wpAny_bind (wpAny_field hos hds (x := .none) rfl (wpAny_bind (wpAny_field hos hds (x := vs) rfl (wpAny_pure ?_)))))))
  refine wpAny_bind (slicePart_ ps ?_)
  show wpAny _ _ (if ((-1 : Int) == 0) = true then _ else _) _ _ s
  rw [if_neg (by decide)]
  refine wpAny_bind (slicePart_none (wpAny_bind (slicePart_none (wpAny_bind (wpAny_pure ?_)))))
  show wpAny _ _ (pure ((n : Int) - 1, (-1 : Int), Builtin.Slice.slicePlaces ((n : Int) - 1) (-1) (-1))) _ _ s
  have e : Builtin.Slice.slicePlaces ((n : Int) - 1) (-1) (-1) = n := by
    unfold Builtin.Slice.slicePlaces
    have h1 : ¬ ((-1 : Int) > 0) := by decide
    rw [if_neg h1, show (-(-1 : Int)) = 1 by decide, Int.ediv_one]
    split <;> omega
  rw [e]
  exact wpAny_pure h
theorem pick_back (xs : Array Value) : ((List.range xs.size).filterMap fun (m : Nat) => xs[((xs.size : Int) - 1 + (m : Int) * -1).toNat]?).toArray = xs.toList.reverse.toArray := by
  congr 1
  have e : ((List.range xs.size).filterMap fun (m : Nat) => xs[((xs.size : Int) - 1 + (m : Int) * -1).toNat]?) = ((List.range xs.size).map fun k => xs.size - 1 - k).filterMap (xs[·]?) := by
    rw [List.filterMap_map]
    congr 1
    funext m
    show xs[_]? = xs[xs.size - 1 - m]?
    congr 1
    omega
  rw [e, PySem.W.krv_range, List.filterMap_reverse, PySem.W.krv_all]
theorem getItem_tuple_back {t sl : Addr} {items : Array Value} {vs : Value} {Q : Value → Shared → Prop} (ht : IsTup s.heap t items) (hs : s.heap.IsSliceOf sl .none .none vs) (ps : IsPart vs (some (-1)))
    (h : Q (.ref s.heap.objs.size) { s with heap := s.heap.push { cls := .type "tuple", data := .seq items.toList.reverse.toArray } }) (hsz : items.size ≤ sizeLine) : wpAny (model prog w) A (getItem (.ref t) (.ref sl)) Q E s := by
  have hz : sizeOk (.seq items.toList.reverse.toArray) := by
    show items.toList.reverse.toArray.size ≤ sizeLine
    simpa using hsz
  obtain ⟨os, hos, hcs, hds⟩ := id hs
  have hTs : s.TypeIs (.ref sl) "slice" := ⟨os, hos, hcs⟩
  unfold getItem
  try with_reducible refine wpAny_holding ?_
  first | refine wpAny_bind (wpAny_pure ?_) | skip
  refine wpAny_bind (wpAny_sequenceKey ht.typeIs (by decide) ?_)
  refine wpAny_bind (wpAny_callSpecial?_slot (name := Str.ofString "__getitem__") ht.typeIs PyProof.Rows.slot_tuple_getitem
    (wpAny_call_entry PyProof.Rows.slot_tuple_getitem ht.typeIs entry_tuple_getitem ?_ (args_tuple_getitem _ _)))
  show wpAny _ _ (Builtin.Tuple.tupleItemsOf (.ref t) >>= _) _ _ s
  refine wpAny_bind (tupleItemsOf_ ht (wpAny_bind (wpAny_typeOf hTs ?_)))
  rw [if_pos (by decide)]
  refine wpAny_bind (applied_back hs ps ?_)
  have hno : ¬ ((((items.size : Int) - 1) == 0 && (-1 : Int) == 1 && items.size == items.size) = true) := by
    intro q
    rw [Bool.and_eq_true, Bool.and_eq_true] at q
    exact absurd q.1.2 (by decide)
  show wpAny _ _ (if (((items.size : Int) - 1) == 0 && (-1 : Int) == 1 && items.size == items.size) = true then _ else _) _ _ s
  rw [if_neg hno, pick_back]
  first
    | exact wpAny_bind (m := Builtin.Tuple.tupleExact _) (wpAny_newObj_type (wpAny_pure ⟨_, rfl, wpAny_pure h⟩) hz)
    | exact wpAny_bind (m := Builtin.Tuple.tupleExact _) (wpAny_newObj_type (wpAny_bind (wpAny_pure (wpAny_pure ⟨_, rfl, wpAny_pure h⟩))) hz)
    | exact wpAny_bind (wpAny_bind (m := Builtin.Tuple.tupleExact _) (wpAny_newObj_type (wpAny_pure (wpAny_pure ⟨_, rfl, wpAny_pure h⟩)) hz))
    | exact wpAny_bind (wpAny_bind (m := Builtin.Tuple.tupleExact _) (wpAny_newObj_type (wpAny_pure ⟨_, rfl, wpAny_pure h⟩) hz))
end
def backD : PyData → Option PyData
  | .list xs => some (.list xs.reverse)
  | .tuple xs => some (.tuple xs.reverse)
  | _ => none
theorem AtL.reverse {H : Hp} {L : AdP} : ∀ {xs : List V} {ds : List PyData}, AtL H L xs ds → AtL H L xs.reverse ds.reverse
  | _, _, .nil => .nil
  | _, _, .cons a b => by
    rw [List.reverse_cons, List.reverse_cons]
    exact b.reverse.append (.cons a .nil)
def tBack (K : PySem.W.Frag) (te : TE) : TE := fun σ H Q => te σ H fun x H1 => ∃ (L : AdP) (d r : PyData), (∀ z, L z → H1 z ≠ none) ∧ Vw K H1 L x d ∧ backD d = some r ∧ Gr H1 L Q r
section
variable {X : Cx}
theorem pe_back {e : Expr} {te : TE} {k : Nat} {p1 p2 p3 pos : Pos} (he : PE X e te) : PE X (.Subscript e (.Slice none none (some (.UnaryOp .USub (.Constant (.int 1) k p1) p2)) p3) pos) (tBack X.K te) := by
  refine ⟨fun pins s σ H Q I h => ?_⟩
  refine Subscript_ (thn (he.run pins s σ H _ I h) fun v s1 ⟨x, H1, I1, r1, q1⟩ => ?_)
  obtain ⟨L, d, r, hl, hv, e1, qq⟩ := q1
  have hst : PO X (some (.UnaryOp .USub (.Constant (.int 1) k p1) p2)) (tPart (tUn (rU fun i => .int (-i)) (tC (.int 1)))) := po_some (pe_un un_neg pe_int)
  refine wpAny_Slice (thn (po_none.run pins s1 σ H1 (fun o H2 => o = none ∧ H2 = H1) I1 ⟨rfl, rfl⟩) fun vl s2 ⟨l, H2, I2, pl, el, e2⟩ => ?_)
  subst el e2
  refine thn (po_none.run pins s2 σ H2 (fun o H3 => o = none ∧ H3 = H2) I2 ⟨rfl, rfl⟩) fun vu s3 ⟨u, H3, I3, pu, eu, e3⟩ => ?_
  subst eu e3
  refine thn (hst.run pins s3 σ H3 (fun o H4 => o = some (-1) ∧ H4 = H3) I3 ⟨1, rfl, -1, rfl, rfl, rfl⟩) fun vs s4 ⟨o, H4, I4, ps, eo, e4⟩ => ?_
  subst eo e4
  have I5 : Inv X pins σ H4 { s4 with heap := s4.heap.push { cls := .type "slice", data := .fields #[vl, vu, vs] } } := I4.kept (t' := s4.toks) fun b ob q => Heap.get?_push_of_some _ q
  have hn : H4 ({ s4 with heap := s4.heap.push { cls := .type "slice", data := .fields #[vl, vu, vs] } } : Shared).heap.objs.size = none := I5.hok.fresh (Nat.le_refl _)
  cases d with
  | list ds =>
    cases e1
    obtain ⟨a, xs, its, rfl, rv, hl', h2, r2, z1, z2⟩ := hv.isList I5
    cases r1
    show wpAny (model X.prog X.w) X.A (subscriptTail e (.Slice none none (some (.UnaryOp .USub (.Constant (.int 1) k p1) p2)) p3) (.ref a) (.ref s4.heap.objs.size)) (EP X pins σ Q) X.xe { s4 with heap := s4.heap.push { cls := .type "slice", data := .fields #[vl, vu, vs] } }
    refine tail_any (ops := [.ref a, .ref s4.heap.objs.size]) hl'.typeIs (PySem.slot_list_getitem.lookup) ?_ (by with_unfolding_all rfl)
    refine wpAny_getItem_list_slice hl' (Heap.IsSliceOf.new _ vl vu vs) pl pu ps (by decide) ?_ (by rw [List.size_toArray]; omega)
    rw [PySem.W.krv_pick]
    refine ⟨.ref _, _, I5.laid (t' := s4.toks) (o := .lst xs.reverse) (fun b ob q => Heap.get?_push_of_some _ q) (Nat.le_refl _) ?_, rfl, qq _ _ (upd_grow hn) (.newL hl hn r2.reverse)⟩
    exact ⟨by rw [List.length_reverse, r2.length]; omega, _, 0, rv.reverse, Heap.get?_push_size _ rfl⟩
  | tuple ds =>
    cases e1
    obtain ⟨a, xs, its, rfl, rv, hl', h2, r2, z1, z2⟩ := hv.isTup I5
    cases r1
    cases pl
    cases pu
    show wpAny (model X.prog X.w) X.A (subscriptTail e (.Slice none none (some (.UnaryOp .USub (.Constant (.int 1) k p1) p2)) p3) (.ref a) (.ref s4.heap.objs.size)) (EP X pins σ Q) X.xe { s4 with heap := s4.heap.push { cls := .type "slice", data := .fields #[.none, .none, vs] } }
    refine tail_any (ops := [.ref a, .ref s4.heap.objs.size]) (IsTup.typeIs hl') (PyProof.Rows.slot_tuple_getitem.lookup) ?_ (by with_unfolding_all rfl)
    refine getItem_tuple_back hl' (Heap.IsSliceOf.new _ _ _ vs) ps ?_ (by rw [List.size_toArray]; omega)
    refine ⟨.ref _, _, I5.laid (t' := s4.toks) (o := .tup xs.reverse) (fun b ob q => Heap.get?_push_of_some _ q) (Nat.le_refl _) ?_, rfl, qq _ _ (upd_grow hn) (.newT hl hn r2.reverse)⟩
    exact ⟨by rw [List.length_reverse, r2.length]; omega, _, by simpa using rv.reverse, IsTup.new _ _⟩
  | _ => cases e1
end
section
variable {c : Cxt} {a b : Expr} {fa : Ev} {pos p p2 q p1 p3 : Pos}
def eBack (fa : Ev) : Ev := fun ρ S => (fa ρ S).bind fun p => (vw p.2 p.1).bind fun d => (backD d).bind fun r => some (.p r, p.2)
theorem de_back {k : Nat} (ha : DE c a fa) : DE c (.Subscript a (.Slice none none (some (.UnaryOp .USub (.Constant (.int 1) k p1) p2)) p3) pos) (eBack fa) := by
  obtain ⟨ta, pa, va⟩ := ha
  refine ⟨tBack c.K ta, fun X hX => by have h := pe_back (k := k) (p1 := p1) (p2 := p2) (p3 := p3) (pos := pos) (pa X hX); rw [hX.K] at h; exact h, fun Lf adr S σ H ρ d S' Q I e w => ?_⟩
  unfold eBack at e
  simp only [Option.bind_eq_some_iff] at e
  obtain ⟨⟨x, S1⟩, e1, m, e2, r, e3, e4⟩ := e
  cases e4
  refine va Lf adr S σ H ρ _ _ _ I e1 fun v adr1 H1 x1 s1 r1 => ?_
  exact ⟨_, m, r, fun z => s1.lvv, vw_ok s1 r1 e2, e3, wi_gr s1 (w.trans x1)⟩
/-! sorted(set(..)), len(set(..)) -/
def lSet (fa : Ev) : Lsv := fun ρ S => (fa ρ S).bind fun p => (vw p.2 p.1).bind fun d => (soSetL [d]).bind fun r => some (r, p.2)
def eLset (fa : Ev) : Ev := fun ρ S => (fa ρ S).bind fun p => (vw p.2 p.1).bind fun d => (leSetD [d]).bind fun r => some (.p r, p.2)
end
section
variable {ρ : Env'} {S : Sto} {fa : Ev} {Q : QE} {QL : List PyData × Sto → Prop}
@[simp ↓] theorem w_back : W (eBack fa ρ S) Q = W (fa ρ S) fun p => W (vw p.2 p.1) fun d => W (backD d) fun r => Q (.p r, p.2) := by
  unfold eBack
  simp only [W_bind, W_some]
@[simp ↓] theorem w_lset : W (lSet fa ρ S) QL = W (fa ρ S) fun p => W (vw p.2 p.1) fun d => W (soSetL [d]) fun r => QL (r, p.2) := by
  unfold lSet
  simp only [W_bind, W_some]
@[simp ↓] theorem w_elset : W (eLset fa ρ S) Q = W (fa ρ S) fun p => W (vw p.2 p.1) fun d => W (leSetD [d]) fun r => Q (.p r, p.2) := by
  unfold eLset
  simp only [W_bind, W_some]
@[simp] theorem back_l {xs : List PyData} : backD (.list xs) = some (.list xs.reverse) := rfl
@[simp] theorem back_t {xs : List PyData} : backD (.tuple xs) = some (.tuple xs.reverse) := rfl
end
end DL
namespace DL
open PySem PySem.Spec L2
open PyProof.Rows hiding St
/-! ### Lean values as data -/
theorem fitN_mono : ∀ {n m : Nat} {d : PyData}, n ≤ m → fitN n d = true → fitN m d = true
  | _, m, .none, _, _ => by simp
  | _, m, .bool _, _, _ => by simp
  | _, m, .int _, _, _ => by simp
  | _, m, .str _, _, _ => by simp
  | 0, _, .list _, _, h => by simp [fitN] at h
  | 0, _, .tuple _, _, h => by simp [fitN] at h
  | _ + 1, 0, _, hm, _ => by omega
  | n + 1, m + 1, .list xs, hm, h => by
    rw [fitN_l, List.all_eq_true] at h ⊢
    exact fun x hx => fitN_mono (by omega) (h x hx)
  | n + 1, m + 1, .tuple xs, hm, h => by
    rw [fitN_t, List.all_eq_true] at h ⊢
    exact fun x hx => fitN_mono (by omega) (h x hx)
  | 0, _, .dict _, _, h => by simp [fitN] at h
  | _ + 1, _, .dict _, _, h => by simp [fitN] at h
structure Enc {α : Type} [DecidableEq α] (n : Nat) (e : α → PyData) : Prop where
  fit : ∀ a, fitN n (e a) = true
  eqv : ∀ a b, PyData.eqv (e a) (e b) = decide (a = b)
  alk : ∀ a b, PySem.W.alike (e a) (e b) = true
  nn : ∀ a, isND (e a) = false
  knd : (∀ a, tupB (e a) = true) ∨ (∀ a, ntB (e a) = true)
abbrev nat (k : Nat) : PyData := .int (k : Int)
theorem enc_int : Enc 0 PyData.int := ⟨fun _ => rfl, fun a b => by show (a == b) = _; rw [Bool.beq_eq_decide_eq], fun _ _ => rfl, fun _ => rfl, .inr fun _ => rfl⟩
theorem enc_nat : Enc 0 (fun k : Nat => PyData.int (k : Int)) := ⟨fun _ => rfl, fun a b => by show ((a : Int) == (b : Int)) = _; rw [Bool.beq_eq_decide_eq]; exact decide_eq_decide.mpr (by omega), fun _ _ => rfl, fun _ => rfl, .inr fun _ => rfl⟩
theorem enc_str : Enc 0 PyData.str := ⟨fun _ => rfl, fun a b => by show (a == b) = _; exact PySem.W.beq_decide a b, fun _ _ => rfl, fun _ => rfl, .inr fun _ => rfl⟩
section
variable {α β : Type} [DecidableEq α] [DecidableEq β] {n m : Nat} {e : α → PyData} {f : β → PyData}
theorem Enc.inj (h : Enc n e) {a b : α} (q : e a = e b) : a = b := by
  have := h.eqv a b
  rw [q] at this
  have h2 := h.eqv b b
  rw [decide_eq_true (rfl : b = b)] at h2
  rw [h2] at this
  exact of_decide_eq_true this.symm
theorem Enc.fit' (h : Enc n e) {k : Nat} (hk : n ≤ k) (a : α) : fitN k (e a) = true := fitN_mono hk (h.fit a)
theorem Enc.all (h : Enc n e) {k : Nat} (hk : n ≤ k) (xs : List α) : (xs.map e).all (fitN k) = true := by
  rw [List.all_map, List.all_eq_true]
  exact fun a _ => h.fit' hk a
theorem Enc.eqvAll (h : Enc n e) : ∀ xs ys : List α, PyData.eqvAll (xs.map e) (ys.map e) = decide (xs = ys)
  | [], [] => by simp [PyData.eqvAll]
  | [], _ :: _ => by simp [PyData.eqvAll]
  | _ :: _, [] => by simp [PyData.eqvAll]
  | x :: xs, y :: ys => by
    rw [List.map_cons, List.map_cons, PyData.eqvAll, h.eqv, h.eqvAll xs ys, ← Bool.decide_and]
    exact decide_eq_decide.mpr (by rw [List.cons.injEq])
theorem Enc.alkAll (h : Enc n e) : ∀ xs ys : List α, PySem.W.alikeAll (xs.map e) (ys.map e) = true
  | [], _ => by simp [PySem.W.alikeAll]
  | _ :: _, [] => by simp [PySem.W.alikeAll]
  | x :: xs, y :: ys => by rw [List.map_cons, List.map_cons, PySem.W.alikeAll, h.alk, h.alkAll xs ys]; rfl
theorem Enc.tup (h : Enc n e) : Enc (n + 1) (fun xs : List α => PyData.tuple (xs.map e)) :=
  ⟨fun xs => h.all (Nat.le_refl _) xs, fun xs ys => by show PyData.eqvAll _ _ = _; exact h.eqvAll xs ys, fun xs ys => by show PySem.W.alikeAll _ _ = true; exact h.alkAll xs ys, fun _ => rfl, .inl fun _ => rfl⟩
theorem Enc.pair (h : Enc n e) (g : Enc m f) : Enc (max n m + 1) (fun p : α × β => PyData.tuple [e p.1, f p.2]) :=
  ⟨fun p => by rw [fitN_t]; simp [h.fit' (Nat.le_max_left n m), g.fit' (Nat.le_max_right n m)], fun p q => by
    show PyData.eqvAll _ _ = _
    simp only [PyData.eqvAll]
    rw [h.eqv, g.eqv, Bool.and_true, ← Bool.decide_and]
    exact decide_eq_decide.mpr ⟨fun z => Prod.ext z.1 z.2, fun z => by rw [z]; exact ⟨rfl, rfl⟩⟩, fun p q => by
    show PySem.W.alikeAll _ _ = true
    simp only [PySem.W.alikeAll, h.alk, g.alk, Bool.and_self], fun _ => rfl, .inl fun _ => rfl⟩
theorem enc_pr : Enc 1 pr := enc_int.pair enc_int
/-- another type, told apart as well -/
theorem Enc.comap {γ : Type} [DecidableEq γ] (h : Enc n e) (g : γ → α) (hg : ∀ a b, g a = g b → a = b) : Enc n (fun c => e (g c)) :=
  ⟨fun c => h.fit _, fun a b => by rw [h.eqv]; exact decide_eq_decide.mpr ⟨hg a b, fun z => by rw [z]⟩, fun _ _ => h.alk _ _, fun _ => h.nn _, h.knd.imp (fun z c => z _) fun z c => z _⟩
/-! in, ==, count -/
theorem Enc.any (h : Enc n e) (xs : List α) (x : α) : anyEq (xs.map e) (e x) = decide (x ∈ xs) := by
  unfold anyEq
  rw [List.any_map]
  induction xs with
  | nil => simp
  | cons y ys ih =>
    rw [List.any_cons, ih]
    show (PyData.eqv (e y) (e x) || _) = _
    rw [h.eqv, ← Bool.decide_or]
    exact decide_eq_decide.mpr (by rw [List.mem_cons]; exact or_congr ⟨Eq.symm, Eq.symm⟩ Iff.rfl)
theorem Enc.mem_t (h : Enc n e) {xs : List α} {x : α} (hn : n ≤ 20 := by decide) : inD (e x) (.tuple (xs.map e)) = some (.bool (decide (x ∈ xs))) := by
  show (if _ then some (PyData.bool (anyEq (xs.map e) (e x))) else none) = _
  rw [if_pos ⟨h.all hn xs, h.fit' hn x⟩, h.any]
theorem Enc.mem_l (h : Enc n e) {xs : List α} {x : α} (hn : n ≤ 20 := by decide) : inD (e x) (.list (xs.map e)) = some (.bool (decide (x ∈ xs))) := h.mem_t hn
theorem Enc.nmem_t (h : Enc n e) {xs : List α} {x : α} (hn : n ≤ 20 := by decide) : notInD (e x) (.tuple (xs.map e)) = some (.bool (!decide (x ∈ xs))) := by
  show (if _ then some (PyData.bool (!anyEq (xs.map e) (e x))) else none) = _
  rw [if_pos ⟨h.all hn xs, h.fit' hn x⟩, h.any]
theorem Enc.nmem_l (h : Enc n e) {xs : List α} {x : α} (hn : n ≤ 20 := by decide) : notInD (e x) (.list (xs.map e)) = some (.bool (!decide (x ∈ xs))) := h.nmem_t hn
theorem Enc.eq (h : Enc n e) {x y : α} (hn : n ≤ 20 := by decide) : eqD (e x) (e y) = some (.bool (decide (x = y))) := by
  unfold eqD
  rw [if_pos ⟨h.fit' hn x, h.fit' hn y⟩, h.eqv]
theorem Enc.ne (h : Enc n e) {x y : α} (hn : n ≤ 20 := by decide) : neD (e x) (e y) = some (.bool (!decide (x = y))) := by
  unfold neD
  rw [if_pos ⟨h.fit' hn x, h.fit' hn y⟩, h.eqv]
theorem Enc.eq_t (h : Enc n e) {xs ys : List α} (hn : n ≤ 19 := by decide) : eqD (.tuple (xs.map e)) (.tuple (ys.map e)) = some (.bool (decide (xs = ys))) := h.tup.eq (by omega)
theorem Enc.ne_t (h : Enc n e) {xs ys : List α} (hn : n ≤ 19 := by decide) : neD (.tuple (xs.map e)) (.tuple (ys.map e)) = some (.bool (!decide (xs = ys))) := h.tup.ne (by omega)
theorem Enc.eq_l (h : Enc n e) {xs ys : List α} (hn : n ≤ 19 := by decide) : eqD (.list (xs.map e)) (.list (ys.map e)) = some (.bool (decide (xs = ys))) := by
  unfold eqD
  rw [if_pos ⟨h.all hn xs, h.all hn ys⟩]
  show some (PyData.bool (PyData.eqvAll _ _)) = _
  rw [h.eqvAll]
theorem Enc.ne_l (h : Enc n e) {xs ys : List α} (hn : n ≤ 19 := by decide) : neD (.list (xs.map e)) (.list (ys.map e)) = some (.bool (!decide (xs = ys))) := by
  unfold neD
  rw [if_pos ⟨h.all hn xs, h.all hn ys⟩]
  show some (PyData.bool (!PyData.eqvAll _ _)) = _
  rw [h.eqvAll]
theorem Enc.l0 (h : Enc n e) {xs : List α} (hn : n ≤ 19 := by decide) : eqD (.list (xs.map e)) (.list []) = some (.bool xs.isEmpty) := by
  rw [eqD_l0 (h.all hn xs)]
  cases xs <;> rfl
theorem Enc.nl0 (h : Enc n e) {xs : List α} (hn : n ≤ 19 := by decide) : neD (.list (xs.map e)) (.list []) = some (.bool (!xs.isEmpty)) := by
  rw [neD_l0 (h.all hn xs)]
  cases xs <;> rfl
theorem Enc.t0 (h : Enc n e) {xs : List α} (hn : n ≤ 19 := by decide) : eqD (.tuple (xs.map e)) (.tuple []) = some (.bool xs.isEmpty) := by
  rw [eqD_t0 (h.all hn xs)]
  cases xs <;> rfl
theorem Enc.nt0 (h : Enc n e) {xs : List α} (hn : n ≤ 19 := by decide) : neD (.tuple (xs.map e)) (.tuple []) = some (.bool (!xs.isEmpty)) := by
  rw [neD_t0 (h.all hn xs)]
  cases xs <;> rfl
theorem Enc.count (h : Enc n e) {xs : List α} {x : α} (hn : n ≤ 20 := by decide) : countD (.list (xs.map e)) (e x) = some (.int (xs.count x)) := by
  show (if _ then some (PyData.int (((xs.map e).countP fun y => PyData.eqv y (e x) : Nat) : Int)) else none) = _
  rw [if_pos ⟨h.all hn xs, h.fit' hn x⟩]
  congr 3
  rw [List.countP_map, List.count]
  congr 1
  funext y
  show PyData.eqv (e y) (e x) = (y == x)
  rw [h.eqv]
  exact (PySem.W.beq_decide y x).symm
/-! the order -/
theorem Enc.alikeB (h : Enc n e) (xs : List α) : alikeB (xs.map e) = true := by
  unfold DL.alikeB
  rw [List.all_eq_true]
  intro d hd
  obtain ⟨a, _, rfl⟩ := List.mem_map.mp hd
  rw [Bool.and_eq_true, List.all_eq_true]
  refine ⟨fun d' hd' => ?_, by rw [h.nn]; rfl⟩
  obtain ⟨b, _, rfl⟩ := List.mem_map.mp hd'
  exact h.alk a b
theorem Enc.sortB (h : Enc n e) (xs : List α) (hn : n ≤ 20) : sortB (xs.map e) = true := by
  unfold DL.sortB
  rw [h.alikeB, h.all hn xs]
  rcases h.knd with k | k
  · have : (xs.map e).all tupB = true := by rw [List.all_map, List.all_eq_true]; exact fun a _ => k a
    rw [this]; rfl
  · have : (xs.map e).all ntB = true := by rw [List.all_map, List.all_eq_true]; exact fun a _ => k a
    rw [this]; cases (xs.map e).all tupB <;> rfl
abbrev ltE (e : α → PyData) (a b : α) : Prop := dlt (e a) (e b) = true
abbrev leE (e : α → PyData) (a b : α) : Prop := dle (e a) (e b) = true
theorem ltE_irrefl (a : α) : ¬ ltE e a a := by unfold ltE; rw [dlt_irrefl]; exact Bool.false_ne_true
theorem ltE_trans {a b c : α} (h1 : ltE e a b) (h2 : ltE e b c) : ltE e a c := dlt_trans h1 h2
theorem Enc.tri (h : Enc n e) {a b : α} (h1 : ¬ ltE e a b) (h2 : ¬ ltE e b a) : a = b := of_decide_eq_true ((h.eqv a b).symm.trans (dlt_tri (h.alk a b) (Bool.eq_false_iff.mpr h1) (Bool.eq_false_iff.mpr h2)))
theorem leE_def {a b : α} : leE e a b ↔ ¬ ltE e b a := by
  unfold leE ltE
  rw [dle_def]
  cases dlt (e b) (e a) <;> simp
theorem Enc.anti (h : Enc n e) {a b : α} (h1 : leE e a b) (h2 : leE e b a) : a = b := h.tri (leE_def.mp h2) (leE_def.mp h1)
def sortE (e : α → PyData) (xs : List α) : List α := xs.mergeSort fun a b => dle (e a) (e b)
theorem sortE_perm {xs : List α} : (sortE e xs).Perm xs := List.mergeSort_perm _ _
theorem sortE_len {xs : List α} : (sortE e xs).length = xs.length := List.length_mergeSort _
theorem sortE_mem {xs : List α} {a : α} : a ∈ sortE e xs ↔ a ∈ xs := sortE_perm.mem_iff
theorem sortE_sorted {xs : List α} : (sortE e xs).Pairwise (leE e) := List.pairwise_mergeSort (le := fun a b => dle (e a) (e b)) (fun a b c => dle_trans (e a) (e b) (e c)) (fun a b => dle_total (e a) (e b)) xs
theorem Enc.sorted_l (h : Enc n e) {xs : List α} (hn : n ≤ 20 := by decide) : sortedL [.list (xs.map e)] = some ((sortE e xs).map e) := sorted_map (h.sortB xs hn) fun _ _ => rfl
theorem Enc.sorted_t (h : Enc n e) {xs : List α} (hn : n ≤ 20 := by decide) : sortedL [.tuple (xs.map e)] = some ((sortE e xs).map e) := h.sorted_l hn
/-- two sorted lists of the same items -/
theorem Enc.uniq (h : Enc n e) : ∀ {xs ys : List α}, xs.Perm ys → xs.Pairwise (leE e) → ys.Pairwise (leE e) → xs = ys
  | [], ys, p, _, _ => p.nil_eq
  | x :: xs, [], p, _, _ => by have := p.length_eq; simp at this
  | x :: xs, y :: ys, p, h1, h2 => by
    obtain ⟨a1, a2⟩ := List.pairwise_cons.mp h1
    obtain ⟨b1, b2⟩ := List.pairwise_cons.mp h2
    have e1 : x = y := by
      have m1 : x ∈ y :: ys := p.mem_iff.mp List.mem_cons_self
      have m2 : y ∈ x :: xs := p.mem_iff.mpr List.mem_cons_self
      rcases List.mem_cons.mp m1 with q | m1
      · exact q
      · rcases List.mem_cons.mp m2 with q | m2
        · exact q.symm
        · exact h.anti (a1 y m2) (b1 x m1)
    subst e1
    rw [h.uniq p.cons_inv a2 b2]
theorem Enc.sort_eq (h : Enc n e) {xs ys : List α} (p : ys.Perm xs) (s : ys.Pairwise (leE e)) : sortE e xs = ys := h.uniq (sortE_perm.trans p.symm) sortE_sorted s
theorem Enc.sort_congr (h : Enc n e) {xs ys : List α} (p : xs.Perm ys) : sortE e xs = sortE e ys := h.sort_eq (sortE_perm.trans p.symm) sortE_sorted
theorem sortE_of {xs : List α} (s : xs.Pairwise (leE e)) : sortE e xs = xs := List.mergeSort_of_pairwise s
/-! min, max -/
def minE (e : α → PyData) (x : α) (xs : List α) : α := xs.foldl (fun a y => if dlt (e y) (e a) = true then y else a) x
def maxE (e : α → PyData) (x : α) (xs : List α) : α := xs.foldl (fun a y => if dlt (e a) (e y) = true then y else a) x
theorem minE_map (x : α) (xs : List α) : PySem.W.minD (e x) (xs.map e) = e (minE e x xs) := by
  unfold PySem.W.minD minE
  induction xs generalizing x with
  | nil => rfl
  | cons y ys ih =>
    rw [List.map_cons, List.foldl_cons, List.foldl_cons, ← ih]
    congr 1
    show (if dlt (e y) (e x) = true then _ else _) = _
    split <;> rfl
theorem maxE_map (x : α) (xs : List α) : PySem.W.maxD (e x) (xs.map e) = e (maxE e x xs) := by
  unfold PySem.W.maxD maxE
  induction xs generalizing x with
  | nil => rfl
  | cons y ys ih =>
    rw [List.map_cons, List.foldl_cons, List.foldl_cons, ← ih]
    congr 1
    show (if dlt (e x) (e y) = true then _ else _) = _
    split <;> rfl
theorem Enc.min_l (h : Enc n e) {x : α} {xs : List α} (hn : n ≤ 20 := by decide) : minD [.list ((x :: xs).map e)] = some (e (minE e x xs)) := by
  show (if ((x :: xs).map e).all DL.fit = true ∧ DL.alikeB ((x :: xs).map e) = true then some (PySem.W.minD (e x) (xs.map e)) else none) = _
  rw [if_pos ⟨h.all hn (x :: xs), h.alikeB (x :: xs)⟩, minE_map]
theorem Enc.max_l (h : Enc n e) {x : α} {xs : List α} (hn : n ≤ 20 := by decide) : maxD [.list ((x :: xs).map e)] = some (e (maxE e x xs)) := by
  show (if ((x :: xs).map e).all DL.fit = true ∧ DL.alikeB ((x :: xs).map e) = true then some (PySem.W.maxD (e x) (xs.map e)) else none) = _
  rw [if_pos ⟨h.all hn (x :: xs), h.alikeB (x :: xs)⟩, maxE_map]
theorem Enc.min_spec (h : Enc n e) : ∀ (x : α) (xs : List α), minE e x xs ∈ x :: xs ∧ ∀ y ∈ x :: xs, leE e (minE e x xs) y
  | x, [] => ⟨List.mem_cons_self, fun y hy => by
    rw [List.mem_singleton.mp hy]
    exact leE_def.mpr (ltE_irrefl x)⟩
  | x, y :: ys => by
    have hs : minE e x (y :: ys) = minE e (if dlt (e y) (e x) = true then y else x) ys := rfl
    rw [hs]
    obtain ⟨a, b⟩ := h.min_spec (if dlt (e y) (e x) = true then y else x) ys
    have c := b _ List.mem_cons_self
    refine ⟨?_, fun z hz => ?_⟩
    · rcases List.mem_cons.mp a with q | q
      · rw [q]
        split
        · exact List.mem_cons_of_mem _ List.mem_cons_self
        · exact List.mem_cons_self
      · exact List.mem_cons_of_mem _ (List.mem_cons_of_mem _ q)
    · rcases List.mem_cons.mp hz with rfl | hz
      · split at c
        · rename_i q
          rw [if_pos q]
          exact dle_trans _ _ _ c (leE_def.mpr fun w => ltE_irrefl _ (ltE_trans w q))
        · rename_i q
          rw [if_neg q]
          exact c
      · rcases List.mem_cons.mp hz with rfl | hz
        · split at c
          · rename_i q
            rw [if_pos q]
            exact c
          · rename_i q
            rw [if_neg q]
            exact dle_trans _ _ _ c (leE_def.mpr q)
        · exact b z (List.mem_cons_of_mem _ hz)
theorem Enc.max_spec (h : Enc n e) : ∀ (x : α) (xs : List α), maxE e x xs ∈ x :: xs ∧ ∀ y ∈ x :: xs, leE e y (maxE e x xs)
  | x, [] => ⟨List.mem_cons_self, fun y hy => by
    rw [List.mem_singleton.mp hy]
    exact leE_def.mpr (ltE_irrefl x)⟩
  | x, y :: ys => by
    have hs : maxE e x (y :: ys) = maxE e (if dlt (e x) (e y) = true then y else x) ys := rfl
    rw [hs]
    obtain ⟨a, b⟩ := h.max_spec (if dlt (e x) (e y) = true then y else x) ys
    have c := b _ List.mem_cons_self
    refine ⟨?_, fun z hz => ?_⟩
    · rcases List.mem_cons.mp a with q | q
      · rw [q]
        split
        · exact List.mem_cons_of_mem _ List.mem_cons_self
        · exact List.mem_cons_self
      · exact List.mem_cons_of_mem _ (List.mem_cons_of_mem _ q)
    · rcases List.mem_cons.mp hz with rfl | hz
      · split at c
        · rename_i q
          rw [if_pos q]
          exact dle_trans _ _ _ (leE_def.mpr fun w => ltE_irrefl _ (ltE_trans w q)) c
        · rename_i q
          rw [if_neg q]
          exact c
      · rcases List.mem_cons.mp hz with rfl | hz
        · split at c
          · rename_i q
            rw [if_pos q]
            exact c
          · rename_i q
            rw [if_neg q]
            exact dle_trans _ _ _ (leE_def.mpr q) c
        · exact b z (List.mem_cons_of_mem _ hz)
theorem Enc.min_eq (h : Enc n e) {x a : α} {xs : List α} (h1 : a ∈ x :: xs) (h2 : ∀ y ∈ x :: xs, leE e a y) : minE e x xs = a :=
  let ⟨p, q⟩ := h.min_spec x xs
  h.anti (q a h1) (h2 _ p)
theorem Enc.max_eq (h : Enc n e) {x a : α} {xs : List α} (h1 : a ∈ x :: xs) (h2 : ∀ y ∈ x :: xs, leE e y a) : maxE e x xs = a :=
  let ⟨p, q⟩ := h.max_spec x xs
  h.anti (h2 _ p) (q a h1)
/-! sets -/
def ddE [DecidableEq α] : List α → List α
  | [] => []
  | x :: r => match r with
    | [] => [x]
    | y :: _ => if x = y then ddE r else x :: ddE r
def usetE (e : α → PyData) (xs : List α) : List α := ddE (sortE e xs)
theorem ddE_map (h : Enc n e) : ∀ xs : List α, dd1 (xs.map e) = (ddE xs).map e
  | [] => rfl
  | [x] => rfl
  | x :: y :: r => by
    have ih := ddE_map h (y :: r)
    rw [List.map_cons, List.map_cons, dd1_cons, h.eqv]
    rw [List.map_cons] at ih
    rw [ih]
    show _ = List.map e (if x = y then ddE (y :: r) else x :: ddE (y :: r))
    by_cases q : x = y
    · simp [q]
    · simp [q]
theorem Enc.usort (h : Enc n e) (xs : List α) : usort (xs.map e) = (usetE e xs).map e := by
  unfold DL.usort usetE
  rw [← ddE_map h]
  congr 1
  exact (List.map_mergeSort (r := fun a b => dle (e a) (e b)) (s := dle) (f := e) fun a _ b _ => rfl).symm
theorem Enc.uset_mem (h : Enc n e) {xs : List α} {a : α} : a ∈ usetE e xs ↔ a ∈ xs := by
  have hp : ∀ x ∈ xs.map e, ∀ y ∈ xs.map e, PyData.eqv x y = true → x = y := by
    intro x hx y hy q
    obtain ⟨a, _, rfl⟩ := List.mem_map.mp hx
    obtain ⟨b, _, rfl⟩ := List.mem_map.mp hy
    rw [h.eqv] at q
    rw [of_decide_eq_true q]
  have := usort_mem hp (e a)
  rw [h.usort] at this
  constructor
  · intro q
    obtain ⟨b, hb, e1⟩ := List.mem_map.mp (this.mp (List.mem_map.mpr ⟨a, q, rfl⟩))
    exact h.inj e1 ▸ hb
  · intro q
    obtain ⟨b, hb, e1⟩ := List.mem_map.mp (this.mpr (List.mem_map.mpr ⟨a, q, rfl⟩))
    exact h.inj e1 ▸ hb
theorem Enc.uset_strict (h : Enc n e) {xs : List α} : (usetE e xs).Pairwise (ltE e) := by
  have := usort_strict (ds := xs.map e) (by
    intro x hx y hy
    obtain ⟨a, _, rfl⟩ := List.mem_map.mp hx
    obtain ⟨b, _, rfl⟩ := List.mem_map.mp hy
    exact h.alk a b)
  rw [h.usort] at this
  exact List.Pairwise.of_map e (fun a b q => q) this
theorem Enc.uset_of (h : Enc n e) {xs ys : List α} (h1 : ys.Pairwise (ltE e)) (h2 : ∀ a, a ∈ ys ↔ a ∈ xs) : usetE e xs = ys :=
  strict_ext (lt := ltE e) ltE_irrefl (fun _ _ _ => ltE_trans) h.uset_strict h1 fun a => h.uset_mem.trans (h2 a).symm
theorem Enc.uset_nodup (h : Enc n e) {xs : List α} : (usetE e xs).Nodup := h.uset_strict.imp fun {a b} q z => by subst z; exact ltE_irrefl _ q
theorem Enc.soset_l (h : Enc n e) {xs : List α} (hs : setB (xs.map e) = true) (hn : n ≤ 20 := by decide) : soSetL [.list (xs.map e)] = some ((usetE e xs).map e) := by
  show (if _ then some (DL.usort (xs.map e)) else none) = _
  rw [if_pos ⟨hs, h.sortB xs hn⟩, h.usort]
theorem Enc.soset_t (h : Enc n e) {xs : List α} (hs : setB (xs.map e) = true) (hn : n ≤ 20 := by decide) : soSetL [.tuple (xs.map e)] = some ((usetE e xs).map e) := h.soset_l hs hn
theorem Enc.leset_l (h : Enc n e) {xs : List α} (hs : setB (xs.map e) = true) : leSetD [.list (xs.map e)] = some (.int (usetE e xs).length) := by
  show (if _ then some (PyData.int ((DL.usort (xs.map e)).length : Nat)) else none) = _
  rw [if_pos ⟨hs, h.alikeB xs⟩, h.usort, List.length_map]
theorem Enc.leset_t (h : Enc n e) {xs : List α} (hs : setB (xs.map e) = true) : leSetD [.tuple (xs.map e)] = some (.int (usetE e xs).length) := h.leset_l hs
end
theorem setB_int {xs : List Int} (h : xs.length < 4000) : setB (xs.map .int) = true := by
  unfold setB
  have : (xs.map PyData.int).all isKK = true := by rw [List.all_map, List.all_eq_true]; exact fun _ _ => rfl
  rw [this, List.length_map, decide_eq_true h]; rfl
theorem setB_nat {xs : List Nat} (h : xs.length < 4000) : setB (xs.map fun k : Nat => PyData.int k) = true := by
  unfold setB
  have : (xs.map fun k : Nat => PyData.int k).all isKK = true := by rw [List.all_map, List.all_eq_true]; exact fun _ _ => rfl
  rw [this, List.length_map, decide_eq_true h]; rfl
theorem setB_str {xs : List Str} (h : xs.length < 4000) : setB (xs.map .str) = true := by
  unfold setB
  have : (xs.map PyData.str).all isKK = true := by rw [List.all_map, List.all_eq_true]; exact fun _ _ => rfl
  rw [this, List.length_map, decide_eq_true h]; rfl
theorem setB_pr {xs : List (Int × Int)} (h : xs.length < 64) : setB (xs.map pr) = true := by
  unfold setB
  have : (xs.map pr).all isIT = true := by rw [List.all_map, List.all_eq_true]; exact fun _ _ => rfl
  rw [this, List.length_map, decide_eq_true h]
  simp
theorem setB_ints {xs : List (List Int)} (h : xs.length < 64) : setB (xs.map fun ns => .tuple (ns.map .int)) = true := by
  unfold setB
  have : (xs.map fun ns : List Int => PyData.tuple (ns.map .int)).all isIT = true := by
    rw [List.all_map, List.all_eq_true]
    intro ns _
    show (ns.map PyData.int).all _ = true
    rw [List.all_map, List.all_eq_true]
    exact fun _ _ => rfl
  rw [this, List.length_map, decide_eq_true h]
  simp
theorem lt_int {a b : Int} : ltE PyData.int a b ↔ a < b := by unfold ltE dlt; rw [PySem.W.dataLt_int, decide_eq_true_eq]
theorem le_int {a b : Int} : leE PyData.int a b ↔ a ≤ b := by rw [leE_def, lt_int]; omega
theorem lt_nat {a b : Nat} : ltE (fun k : Nat => PyData.int (k : Int)) a b ↔ a < b := by unfold ltE dlt; rw [PySem.W.dataLt_int, decide_eq_true_eq]; omega
theorem le_nat {a b : Nat} : leE (fun k : Nat => PyData.int (k : Int)) a b ↔ a ≤ b := by rw [leE_def, lt_nat]; omega
theorem lt_pr {p q : Int × Int} : ltE pr p q ↔ p.1 < q.1 ∨ (p.1 = q.1 ∧ p.2 < q.2) := by unfold ltE dlt pr; rw [PySem.W.dataLt_ii, decide_eq_true_eq]
theorem le_pr {p q : Int × Int} : leE pr p q ↔ p.1 < q.1 ∨ (p.1 = q.1 ∧ p.2 ≤ q.2) := by rw [leE_def, lt_pr]; omega
theorem dlt_pair {x y x' y' : PyData} (h : PySem.W.alike x x' = true) (h' : PySem.W.alike y y' = true) : dlt (.tuple [x, y]) (.tuple [x', y']) = if PyData.eqv x x' = true then (if PyData.eqv y y' = true then false else dlt y y') else dlt x x' := PySem.W.dataLt_pair h h'
theorem dlt_cons {x y : PyData} {xs ys : List PyData} (h : PySem.W.alike x y = true) : dlt (.tuple (x :: xs)) (.tuple (y :: ys)) = if PyData.eqv x y = true then dlt (.tuple xs) (.tuple ys) else dlt x y := by
  show PySem.W.dataLt _ _ = _
  rw [PySem.W.dataLt_tuple, PySem.W.dataLt_cons h]
  show _ = if _ then PySem.W.dataLt _ _ else _
  rw [PySem.W.dataLt_tuple]
theorem dlt_nil_cons {y : PyData} {ys : List PyData} : dlt (.tuple []) (.tuple (y :: ys)) = true := by
  show PySem.W.dataLt _ _ = _
  rw [PySem.W.dataLt_tuple, PySem.W.toks_all_cons]
  rfl
theorem dlt_cons_nil {y : PyData} {ys : List PyData} : dlt (.tuple (y :: ys)) (.tuple []) = false := by
  show PySem.W.dataLt _ _ = _
  rw [PySem.W.dataLt_tuple, PySem.W.toks_all_cons]
  rfl
/-! the law's own sameness -/
/-- ints, truths, texts, None, tuples of these not too long, n deep -/
def okS : Nat → PyData → Bool
  | 0, _ => false
  | n + 1, .tuple xs => decide (xs.length ≤ 100000) && xs.all (okS n)
  | _ + 1, .list _ => false
  | _ + 1, .dict _ => false
  | _ + 1, _ => true
theorem same_ok : ∀ {n : Nat} {d : PyData}, okS n d = true → f__law_same n [d, d] = some (.bool true)
  | 0, d, h => by cases h
  | n + 1, .tuple xs, h => by
    have h : (decide (xs.length ≤ 100000) && xs.all (okS n)) = true := h
    rw [Bool.and_eq_true, List.all_eq_true] at h
    exact same_refl_t (fun x hx => same_ok (h.2 x hx)) (of_decide_eq_true h.1)
  | n + 1, .list _, h => by cases h
  | n + 1, .dict _, h => by cases h
  | n + 1, .none, _ => same_refl_n
  | n + 1, .bool _, _ => same_refl_b
  | n + 1, .int _, _ => same_refl_i
  | n + 1, .str _, _ => same_refl_s
theorem alike_ok : ∀ {n : Nat} {d : PyData}, okS n d = true → f__law_alike n [d, d] = some (.bool true)
  | 0, d, h => by cases h
  | n + 1, .tuple xs, h => by
    have h : (decide (xs.length ≤ 100000) && xs.all (okS n)) = true := h
    rw [Bool.and_eq_true, List.all_eq_true] at h
    exact alike_refl_t (fun x hx => alike_ok (h.2 x hx)) (of_decide_eq_true h.1)
  | n + 1, .list _, h => by cases h
  | n + 1, .dict _, h => by cases h
  | n + 1, .none, _ => alike_refl_n
  | n + 1, .bool _, _ => alike_refl_b
  | n + 1, .int _, _ => alike_refl_i
  | n + 1, .str _, _ => alike_refl_s
section
variable {n : Nat} {i : Int} {b : Bool} {x : Str} {xs : List PyData} {α : Type} {l : List α} {F : α → PyData}
@[simp] theorem okS_i : okS (n + 1) (.int i) = true := rfl
@[simp] theorem okS_b : okS (n + 1) (.bool b) = true := rfl
@[simp] theorem okS_s : okS (n + 1) (.str x) = true := rfl
@[simp] theorem okS_n : okS (n + 1) .none = true := rfl
@[simp] theorem okS_t : okS (n + 1) (.tuple xs) = (decide (xs.length ≤ 100000) && xs.all (okS n)) := rfl
@[simp] theorem okS_pr {p : Int × Int} : okS (n + 2) (pr p) = true := rfl
end
end DL
namespace DL
open PySem PySem.Spec L2
open PyProof.Rows hiding St
/-! ### list(range(..)), tuple(range(..)) -/
abbrev Rv := Env' → Sto → Option ((Int × Int) × Sto)
def RvOk (c : Cxt) (t : L2.St → Hp → (Int → Int → Hp → Prop) → Prop) (f : Rv) : Prop := ∀ Lf adr S σ H ρ i j S' (Q : Int → Int → Hp → Prop), EOk c Lf adr S σ H ρ → f ρ S = some ((i, j), S') →
  (∀ adr' H', Ext adr S H adr' S' H' → StOk c Lf adr' S' H' → Q i j H') → t σ H Q
def DRg (c : Cxt) (e : Expr) (f : Rv) : Prop := ∃ t, (∀ X, InC c X → PRg X e t) ∧ RvOk c t f
def asI (o : Option (D × Sto)) : Option (Int × Sto) := o.bind fun p => match p.1 with | .p (.int i) => some (i, p.2) | _ => none
def rg1 (fa : Ev) : Rv := fun ρ S => (asI (fa ρ S)).bind fun p => some ((0, p.1), p.2)
def rg2 (fa fb : Ev) : Rv := fun ρ S => (asI (fa ρ S)).bind fun p => (asI (fb ρ p.2)).bind fun q => some ((p.1, q.1), q.2)
theorem asI_inv {o : Option (D × Sto)} {i : Int} {S : Sto} (h : asI o = some (i, S)) : o = some (.p (.int i), S) := by
  unfold asI at h
  obtain ⟨⟨x, S1⟩, e1, e2⟩ := Option.bind_eq_some_iff.mp h
  cases x with
  | p d => cases d <;> cases e2; exact e1
  | _ => cases e2
section
variable {c : Cxt} {a b e : Expr} {fa fb : Ev} {f : Rv} {pos p : Pos}
theorem drg1 (hm : c.mg "range" = none) (ha : DE c a fa) (hg : c.sc.names.lookup ("range" : Str) = some .globalImplicit := by rfl) (hst : noStar [a] = true := by rfl) : DRg c (.Call (.Name "range" p) [a] [] pos) (rg1 fa) := by
  obtain ⟨ta, pa, va⟩ := ha
  refine ⟨tRg1 ta, fun X hX => prg_1 (show Gl X "range" by show X.env.scope.names.lookup _ = _; rw [hX.sc]; exact hg) (by rw [hX.mg]; exact hm) (pa X hX) (star_cons hst), fun Lf adr S σ H ρ i j S' Q I e w => ?_⟩
  unfold rg1 at e
  obtain ⟨⟨k, S1⟩, e1, e2⟩ := Option.bind_eq_some_iff.mp e
  cases e2
  refine va Lf adr S σ H ρ _ _ _ I (asI_inv e1) fun v adr1 H1 x1 s1 r1 => ?_
  have r1 : At H1 _ v (.int k) := r1
  cases r1
  exact ⟨k, rfl, w adr1 H1 x1 s1⟩
theorem drg2 (hm : c.mg "range" = none) (ha : DE c a fa) (hb : DE c b fb) (hg : c.sc.names.lookup ("range" : Str) = some .globalImplicit := by rfl) (hst : noStar [a, b] = true := by rfl) : DRg c (.Call (.Name "range" p) [a, b] [] pos) (rg2 fa fb) := by
  obtain ⟨ta, pa, va⟩ := ha
  obtain ⟨tb, pb, vb⟩ := hb
  refine ⟨tRg2 ta tb, fun X hX => prg_2 (show Gl X "range" by show X.env.scope.names.lookup _ = _; rw [hX.sc]; exact hg) (by rw [hX.mg]; exact hm) (pa X hX) (pb X hX) (by rw [star_cons hst, star_cons (star_tl hst)]) (star_cons (star_tl hst)) (star_any (star_tl hst)), fun Lf adr S σ H ρ i j S' Q I e w => ?_⟩
  unfold rg2 at e
  obtain ⟨⟨k, S1⟩, e1, e2⟩ := Option.bind_eq_some_iff.mp e
  obtain ⟨⟨l, S2⟩, e3, e4⟩ := Option.bind_eq_some_iff.mp e2
  cases e4
  refine va Lf adr S σ H ρ _ _ _ I (asI_inv e1) fun v adr1 H1 x1 s1 r1 => ?_
  refine vb Lf adr1 S1 σ H1 ρ _ _ _ (I.ext x1 s1) (asI_inv e3) fun u adr2 H2 x2 s2 r2 => ?_
  have r1 : At H1 _ v (.int k) := r1
  have r2 : At H2 _ u (.int l) := r2
  cases r1
  cases r2
  exact ⟨k, l, rfl, rfl, w adr2 H2 (x1.trans x2) s2⟩
def rgOk (i j : Int) : Prop := -4611686018427387904 ≤ i ∧ i < 4611686018427387904 ∧ -4611686018427387904 ≤ j ∧ j < 4611686018427387904 ∧ (j - i).toNat ≤ 10000000
instance {i j : Int} : Decidable (rgOk i j) := inferInstanceAs (Decidable (_ ∧ _))
theorem at_rg {H : Hp} {L : AdP} {i j : Int} : AtL H L (rgV i j) (rngD i (j - i).toNat) := by
  unfold rgV rngD
  generalize List.range (j - i).toNat = l
  induction l with
  | nil => exact .nil
  | cons k l ih => exact .cons (.int _) ih
def lRg (f : Rv) : Lsv := fun ρ S => (f ρ S).bind fun p => if rgOk p.1.1 p.1.2 then some (rngD p.1.1 (p.1.2 - p.1.1).toNat, p.2) else none
def eTrg (f : Rv) : Ev := fun ρ S => (f ρ S).bind fun p => if rgOk p.1.1 p.1.2 then some (.p (.tuple (rngD p.1.1 (p.1.2 - p.1.1).toNat)), p.2) else none
theorem rgOk_of {i j : Int} (h : rgOk i j) : RgOk i j := by
  obtain ⟨h1, h2, h3, h4, h5⟩ := h
  exact ⟨by omega, by omega, by omega, by omega, by omega⟩
theorem l_rg (hm : c.mg "list" = none) (he : DRg c e f) (hg : c.sc.names.lookup ("list" : Str) = some .globalImplicit := by rfl) (hst : noStar [e] = true := by rfl) : DLs c (.Call (.Name "list" p) [e] [] pos) (lRg f) := by
  obtain ⟨t, pt, vt⟩ := he
  refine ⟨tLstRg t, fun X hX => pe_listRg hX.calm (show Gl X "list" by show X.env.scope.names.lookup _ = _; rw [hX.sc]; exact hg) (by rw [hX.mg]; exact hm) (pt X hX) (star_cons hst), fun Lf adr S σ H ρ ds S' Q I e w => ?_⟩
  unfold lRg at e
  obtain ⟨⟨⟨i, j⟩, S1⟩, e1, e2⟩ := Option.bind_eq_some_iff.mp e
  simp only at e2
  split at e2
  · rename_i hz
    cases e2
    refine vt Lf adr S σ H ρ i j _ _ I e1 fun adr1 H1 x1 s1 => ⟨rgOk_of hz, fun q hq => ?_⟩
    exact wi_grL s1 (w.trans x1) q _ _ hq (upd_grow hq) upd_same at_rg
  · cases e2
theorem t_rg (hm : c.mg "tuple" = none) (he : DRg c e f) (hg : c.sc.names.lookup ("tuple" : Str) = some .globalImplicit := by rfl) (hst : noStar [e] = true := by rfl) : DE c (.Call (.Name "tuple" p) [e] [] pos) (eTrg f) := by
  obtain ⟨t, pt, vt⟩ := he
  refine ⟨tTupRg t, fun X hX => pe_tupRg hX.calm (show Gl X "tuple" by show X.env.scope.names.lookup _ = _; rw [hX.sc]; exact hg) (by rw [hX.mg]; exact hm) (pt X hX) (star_cons hst), fun Lf adr S σ H ρ d S' Q I e w => ?_⟩
  unfold eTrg at e
  obtain ⟨⟨⟨i, j⟩, S1⟩, e1, e2⟩ := Option.bind_eq_some_iff.mp e
  simp only at e2
  split at e2
  · rename_i hz
    cases e2
    refine vt Lf adr S σ H ρ i j _ _ I e1 fun adr1 H1 x1 s1 => ⟨rgOk_of hz, fun q hq => ?_⟩
    exact wi_gr s1 (w.trans x1) _ _ (upd_grow hq) (.newT (fun z => s1.lvv) hq at_rg)
  · cases e2
end
section
variable {ρ : Env'} {S : Sto} {fa fb : Ev} {f : Rv} {Q : QE} {QL : List PyData × Sto → Prop} {QI : Int × Sto → Prop} {QR : (Int × Int) × Sto → Prop} {o : Option (D × Sto)}
@[simp ↓] theorem w_asI : W (asI o) QI = W o fun p => match p.1 with | .p (.int i) => QI (i, p.2) | _ => False := by
  unfold asI
  rw [W_bind]
  congr; funext p
  obtain ⟨x, S1⟩ := p
  cases x <;> first | exact W_none | (rename_i d; cases d <;> first | exact W_none | exact W_some)
@[simp ↓] theorem w_rg1 : W (rg1 fa ρ S) QR = W (asI (fa ρ S)) fun p => QR ((0, p.1), p.2) := by
  unfold rg1
  simp only [W_bind, W_some]
@[simp ↓] theorem w_rg2 : W (rg2 fa fb ρ S) QR = W (asI (fa ρ S)) fun p => W (asI (fb ρ p.2)) fun q => QR ((p.1, q.1), q.2) := by
  unfold rg2
  simp only [W_bind, W_some]
@[simp ↓] theorem w_lrg : W (lRg f ρ S) QL = W (f ρ S) fun p => rgOk p.1.1 p.1.2 ∧ QL (rngD p.1.1 (p.1.2 - p.1.1).toNat, p.2) := by
  unfold lRg
  simp only [W_bind, W_req]
@[simp ↓] theorem w_etrg : W (eTrg f ρ S) Q = W (f ρ S) fun p => rgOk p.1.1 p.1.2 ∧ Q (.p (.tuple (rngD p.1.1 (p.1.2 - p.1.1).toNat)), p.2) := by
  unfold eTrg
  simp only [W_bind, W_req]
end
end DL
namespace DL
open PySem PySem.Spec L2
open PyProof.Rows hiding St
/-! ### more of plain walking -/
theorem bolsD_map {α : Type} {xs : List α} {G : α → Bool} : bolsD (xs.map fun a => .bool (G a)) = some (xs.map G) := by
  induction xs with
  | nil => rfl
  | cons x xs ih => rw [List.map_cons, bolsD, ih]; rfl
@[simp] theorem anyD_l {α : Type} {xs : List α} {G : α → Bool} : anyD [.list (xs.map fun a => .bool (G a))] = some (.bool (xs.any G)) := by
  show (bolsD _).map _ = _
  rw [bolsD_map]
  simp
@[simp] theorem allD_l {α : Type} {xs : List α} {G : α → Bool} : allD [.list (xs.map fun a => .bool (G a))] = some (.bool (xs.all G)) := by
  show (bolsD _).map _ = _
  rw [bolsD_map]
  simp
/-- what a law's test says -/
theorem ite_of {c : Prop} [Decidable c] {a b : Prop} (hc : c) (h : a) : if c then a else b := by rw [if_pos hc]; exact h
theorem ite_not {c : Prop} [Decidable c] {a b : Prop} (hc : ¬ c) (h : b) : if c then a else b := by rw [if_neg hc]; exact h
/-- strictly rising lists: a part is a sublist -/
theorem asc_sublist {α : Type} {lt : α → α → Prop} (irr : ∀ a, ¬ lt a a) (tr : ∀ a b c, lt a b → lt b c → lt a c) : ∀ {xs ys : List α}, xs.Pairwise lt → ys.Pairwise lt → (∀ a ∈ xs, a ∈ ys) → xs.Sublist ys
  | [], ys, _, _, _ => List.nil_sublist ys
  | x :: xs, [], _, _, h => by have := h x List.mem_cons_self; cases this
  | x :: xs, y :: ys, h1, h2, h => by
    obtain ⟨a1, a2⟩ := List.pairwise_cons.mp h1
    obtain ⟨b1, b2⟩ := List.pairwise_cons.mp h2
    rcases List.mem_cons.mp (h x List.mem_cons_self) with e | hx
    · subst e
      refine .cons₂ _ (asc_sublist irr tr a2 b2 fun a ha => ?_)
      rcases List.mem_cons.mp (h a (List.mem_cons_of_mem _ ha)) with e | q
      · exact absurd (e ▸ a1 a ha) (irr _)
      · exact q
    · refine .cons _ (asc_sublist irr tr h1 b2 fun a ha => ?_)
      rcases List.mem_cons.mp (h a ha) with e | q
      · subst e
        rcases List.mem_cons.mp ha with e | q
        · subst e; exact hx
        · exact absurd (tr _ _ _ (b1 x hx) (a1 _ q)) (irr _)
      · exact q
theorem nat_sublist {xs ys : List Nat} (h1 : xs.Pairwise (· < ·)) (h2 : ys.Pairwise (· < ·)) (h : ∀ a ∈ xs, a ∈ ys) : xs.Sublist ys := asc_sublist (lt := (· < ·)) Nat.lt_irrefl (fun _ _ _ => Nat.lt_trans) h1 h2 h
/-- in a row that is sorted by a number, the lesser one stands ahead -/
theorem ahead_of {α : Type} {f : α → Nat} {l1 l2 : List α} {p m : α} (h : (l1 ++ p :: l2).Pairwise fun a b => f a ≤ f b) (hm : m ∈ l1 ++ p :: l2) (hlt : f m < f p) : m ∈ l1 := by
  rcases List.mem_append.mp hm with h1 | h1
  · exact h1
  · have h2 := (List.pairwise_append.mp h).2.1
    rcases List.mem_cons.mp h1 with e | h1
    · subst e; omega
    · have := (List.pairwise_cons.mp h2).1 m h1
      omega
/-- the least by a number -/
theorem least_by {α : Type} (f : α → Nat) (P : α → Prop) (h : ∃ a, P a) : ∃ a, P a ∧ ∀ b, P b → f a ≤ f b := by
  obtain ⟨a, ha⟩ := h
  suffices H : ∀ n a, P a → f a ≤ n → ∃ a, P a ∧ ∀ b, P b → f a ≤ f b from H (f a) a ha (Nat.le_refl _)
  intro n
  induction n with
  | zero => intro a ha h0; exact ⟨a, ha, fun b _ => by omega⟩
  | succ n ih =>
    intro a ha hn
    by_cases q : ∃ b, P b ∧ f b < f a
    · obtain ⟨b, hb, hlt⟩ := q
      exact ih b hb (by omega)
    · exact ⟨a, ha, fun b hb => by
        by_cases z : f b < f a
        · exact absurd ⟨b, hb, z⟩ q
        · omega⟩
theorem fempty {α : Type} {p : α → Bool} : ∀ {xs : List α}, (xs.filter p).isEmpty = !xs.any p
  | [] => rfl
  | x :: xs => by
    rw [List.any_cons, Bool.not_or, ← fempty, List.filter_cons]
    cases h : p x <;> simp
theorem fempty_n {α : Type} {p : α → Bool} {xs : List α} : (!(xs.filter p).isEmpty) = xs.any p := by rw [fempty, Bool.not_not]
end DL
namespace DL
open PySem PySem.Spec L2
open PyProof.Rows hiding St
/-! ### more defs that many laws have -/
noncomputable def b__law_pick : Sv := sRet (e2 ixD (eVar 1) (eCG f__law_next (aCons (eVar 0) (aCons (eB lenD (aCons (eVar 1) (aNil))) (aNil)))))
noncomputable def f__law_pick := runG 2 2 b__law_pick
noncomputable def b__law_says : Sv := sRet (eAnd (eIsa "bool" (eVar 0)) (e2 eqD (eVar 0) (eVar 1)))
noncomputable def f__law_says := runP 2 2 b__law_says
theorem w_pick_l {xs : List PyData} {ds : List Int} {a : Nat} {rest : Sto} {Q : D × Sto → Prop} (hne : xs ≠ []) (h : ∀ (x : PyData) (a' : Nat), x ∈ xs → Q (.p x, some (.d (Wd ds a')) :: rest)) : W (f__law_pick [.c 0, .p (.list xs)] (some (.d (Wd ds a)) :: rest)) Q := by
  unfold f__law_pick b__law_pick
  simp
  have hp : 0 < xs.length := List.length_pos_iff.mpr hne
  refine w_next (by omega) fun r a' h0 h1 => ?_
  obtain ⟨k, rfl⟩ : ∃ k : Nat, r = k := ⟨r.toNat, by omega⟩
  have hk : k < xs.length := by omega
  simp [atI_pos, hk]
  exact h _ a' (List.getElem_mem hk)
theorem w_pick_t {xs : List PyData} {ds : List Int} {a : Nat} {rest : Sto} {Q : D × Sto → Prop} (hne : xs ≠ []) (h : ∀ (x : PyData) (a' : Nat), x ∈ xs → Q (.p x, some (.d (Wd ds a')) :: rest)) : W (f__law_pick [.c 0, .p (.tuple xs)] (some (.d (Wd ds a)) :: rest)) Q := by
  unfold f__law_pick b__law_pick
  simp
  have hp : 0 < xs.length := List.length_pos_iff.mpr hne
  refine w_next (by omega) fun r a' h0 h1 => ?_
  obtain ⟨k, rfl⟩ : ∃ k : Nat, r = k := ⟨r.toNat, by omega⟩
  have hk : k < xs.length := by omega
  simp [atI_pos, hk]
  exact h _ a' (List.getElem_mem hk)
@[simp] theorem says_ok {b : Bool} : f__law_says [.bool b, .bool b] = some (.bool true) := by
  suffices H : W (f__law_says [.bool b, .bool b]) fun q => q = .bool true from W_out H
  unfold f__law_says b__law_says
  rw [w_runP]
  simp
end DL
namespace DL
open PySem PySem.Spec L2
open PyProof.Rows hiding St
/-! ### tuple * int, any int -/
theorem tuple_mulW1 (l : Addr) (items : Array Value) (n : Nat) (dd : Option Addr) (sl : Array (Option Value)) (x : Int) (u : Tok) (c0 : (decide (x < -(2 ^ 63)) || decide (x ≥ 2 ^ 63)) = false) (c1 : (items.isEmpty || x == 1) = true) :
    Meets (Builtin.«tuple.__mul__» ⟨[.ref l, .int x u], []⟩) (fun _ R s => s.heap.get? l = some { cls := .type "tuple", dict := dd, data := .seq items n, slots := sl } ∧ R (.ok (.ret (Value.ref l))) { s with heap := s.heap, toks := s.toks }) :=
  .of_wp fun prog w A R s h => by
    obtain ⟨hp, g, d, tk, os⟩ := s
    obtain ⟨hl, h⟩ := h
    have f1 := AutoSeq1.idx_int
    have f2 := AutoSeq1.sub_tuple_tuple
    wp_walk using wpAny_loadPart' hl
    repeat (first
      | (refine wpAny_ite_false (decide_eq_false (by rw [c0]; exact Bool.false_ne_true)) ?_; wp_walk using wpAny_loadPart' hl)
      | (refine wpAny_ite_true (decide_eq_true (by rw [c1])) ?_; wp_walk using wpAny_loadPart' hl))
    exact ⟨_, rfl, h⟩
theorem tuple_mulW0 (l : Addr) (items : Array Value) (n : Nat) (dd : Option Addr) (sl : Array (Option Value)) (x : Int) (u : Tok) (c0 : (decide (x < -(2 ^ 63)) || decide (x ≥ 2 ^ 63)) = false) (c1 : (items.isEmpty || x == 1) = false) (c2 : (decide (x ≤ 0) || items.isEmpty) = true) :
    Meets (Builtin.«tuple.__mul__» ⟨[.ref l, .int x u], []⟩) (fun _ R s => s.heap.get? l = some { cls := .type "tuple", dict := dd, data := .seq items n, slots := sl } ∧ R (.ok (.ret (Value.ref s.heap.objs.size))) { s with heap := s.heap.push { cls := Value.type "tuple", data := Data.seq #[] }, toks := s.toks }) :=
  .of_wp fun prog w A R s h => by
    obtain ⟨hp, g, d, tk, os⟩ := s
    obtain ⟨hl, h⟩ := h
    have f1 := AutoSeq1.idx_int
    have f2 := AutoSeq1.sub_tuple_tuple
    wp_walk using wpAny_loadPart' hl
    repeat (first
      | (refine wpAny_ite_false (decide_eq_false (by rw [c0]; exact Bool.false_ne_true)) ?_; wp_walk using wpAny_loadPart' hl)
      | (refine wpAny_ite_false (decide_eq_false (by rw [c1]; exact Bool.false_ne_true)) ?_; wp_walk using wpAny_loadPart' hl)
      | (refine wpAny_ite_true (decide_eq_true (by rw [c2])) ?_; wp_walk using wpAny_loadPart' hl))
    exact ⟨_, rfl, h⟩
def mulT : PyData → PyData → Option PyData
  | .tuple xs, .int k => if -1000 ≤ k ∧ k ≤ 1000 ∧ xs.length ≤ 1000 then some (.tuple (List.replicate k.toNat xs).flatten) else none
  | _, _ => none
variable {X : Cx}
theorem ho_mulT : OpR X (binaryOp .Mult) (rD X.K mulT) := by
  intro pins s σ H x y v u Q I rx ry hq
  obtain ⟨L, a, b, r, hl, ha, hb, e, q⟩ := hq
  cases a <;> cases b <;> simp [mulT] at e
  rename_i ds k
  obtain ⟨⟨h1, h2, hz⟩, e⟩ := e
  subst e
  obtain ⟨a1, xs, rfl, hT, r1⟩ := ha.tuple_inv
  have eb := hb.int_inv
  subst eb
  have hlen := r1.length
  have hT : SqT X.K H a1 xs := hT
  by_cases hbig : xs ≠ [] ∧ 2 ≤ k
  · exact op_repT pins s σ H _ _ v u Q I rx ry ⟨a1, k, xs, rfl, rfl, hT, hbig.1, hbig.2, h2, by omega, fun p hp => q _ _ (upd_grow hp) (.newT hl hp (r1.rep _))⟩
  cases rx
  obtain ⟨t, rfl⟩ := ry
  obtain ⟨its, rr, ⟨⟨cls, dd, data, sl⟩, ho, hc, n, hd⟩, hs⟩ := I.tuple hT
  simp only at hc hd
  subst hc hd
  have hle : its.length = xs.length := rr.length.symm
  have hsz0 : its.toArray.size = xs.length := by rw [List.size_toArray, hle]
  have c0 : (decide (k < -(2 ^ 63)) || decide (k ≥ 2 ^ 63)) = false := by
    rw [decide_eq_false (by omega), decide_eq_false (by omega)] <;> rfl
  by_cases hsame : its.toArray.isEmpty = true ∨ k = 1
  · have c1 : (its.toArray.isEmpty || k == 1) = true := by
      rcases hsame with z | z
      · rw [z]; rfl
      · subst z; simp
    refine wpAny_binaryOp_repeat_ref (T := "tuple") (U := "int") (by decide) ⟨_, ho, rfl⟩ (fun s' => typeIs_int s' k t) noFill_tuple_mul F.fills_int_mul F.slot_int_rmul repeat_tuple F.slot_int_index.lookup
      (call_meets F.slot_int_rmul (typeIs_int s k t) F.entry_int_rmul (F.args_int_rmul_2 _ _) (int_rmul_tuple k t a1 its.toArray n dd sl)
        ⟨ho, rfl, ⟨_, ho, rfl⟩, call_meets F.slot_tuple_mul ⟨_, ho, rfl⟩ F.entry_tuple_mul (F.args_tuple_mul_2 _ _) (tuple_mulW1 a1 its.toArray n dd sl k t c0 c1) ⟨ho, ?_⟩⟩)
    refine ⟨.ref a1, _, I.tok s.toks, rfl, ?_⟩
    have e : (List.replicate k.toNat ds).flatten = ds := by
      rcases hsame with z | z
      · have : its.length = 0 := by simpa using z
        have : ds = [] := List.eq_nil_of_length_eq_zero (by omega)
        subst this
        simp
      · subst z; simp
    rw [e] at q
    exact q _ _ (fun _ _ z => z) (by simpa using ha.tuple_at)
  · have hi : its.toArray.isEmpty = false := by
      cases hq : its.toArray.isEmpty
      · rfl
      · exact absurd (.inl hq) hsame
    have hk1 : k ≠ 1 := fun z => hsame (.inr z)
    have hne : xs ≠ [] := fun z => by
      subst z
      have : its = [] := List.eq_nil_of_length_eq_zero hle
      subst this
      cases hi
    have hk : k ≤ 0 := by
      have : ¬ 2 ≤ k := fun z => hbig ⟨hne, z⟩
      omega
    have c1 : (its.toArray.isEmpty || k == 1) = false := by
      rw [hi, Bool.false_or]
      exact beq_eq_false_iff_ne.mpr hk1
    have c2 : (decide (k ≤ 0) || its.toArray.isEmpty) = true := by
      rw [decide_eq_true hk]; rfl
    refine wpAny_binaryOp_repeat_ref (T := "tuple") (U := "int") (by decide) ⟨_, ho, rfl⟩ (fun s' => typeIs_int s' k t) noFill_tuple_mul F.fills_int_mul F.slot_int_rmul repeat_tuple F.slot_int_index.lookup
      (call_meets F.slot_int_rmul (typeIs_int s k t) F.entry_int_rmul (F.args_int_rmul_2 _ _) (int_rmul_tuple k t a1 its.toArray n dd sl)
        ⟨ho, rfl, ⟨_, ho, rfl⟩, call_meets F.slot_tuple_mul ⟨_, ho, rfl⟩ F.entry_tuple_mul (F.args_tuple_mul_2 _ _) (tuple_mulW0 a1 its.toArray n dd sl k t c0 c1 c2) ⟨ho, ?_⟩⟩)
    have hk0 : k.toNat = 0 := by omega
    have q2 := q _ _ (upd_grow (I.hok.fresh (Nat.le_refl _))) (.newT hl (I.hok.fresh (Nat.le_refl _)) (r1.rep k.toNat))
    rw [hk0] at q2
    refine ⟨.ref s.heap.objs.size, _, I.laid (t' := s.toks) (o := .tup []) (fun b ob q => Heap.get?_push_of_some _ q) (Nat.le_refl _) ?_, rfl, ?_⟩
    · exact ⟨Nat.zero_le _, [], .nil, IsTup.new _ _⟩
    · simpa [hk0] using q2
def mulX : PyData → PyData → Option PyData
  | .int i, .int j => mulI (.int i) (.int j)
  | a, b => mulT a b
theorem ho_mulX : OpR X (binaryOp .Mult) (rD X.K mulX) := opOr ho_mulI ho_mulT fun a b r q => by
  cases a <;> cases b <;> first | exact .inl q | exact .inr q
@[simp ↓] theorem w_mulX {i j : Int} {Q : PyData → Prop} : W (mulX (.int i) (.int j)) Q = ((i.natAbs < 2 ^ 64 ∨ j.natAbs < 2 ^ 64) ∧ Q (.int (i * j))) := W_req
@[simp ↓] theorem w_mulXT {xs : List PyData} {j : Int} {Q : PyData → Prop} : W (mulX (.tuple xs) (.int j)) Q = ((-1000 ≤ j ∧ j ≤ 1000 ∧ xs.length ≤ 1000) ∧ Q (.tuple (List.replicate j.toNat xs).flatten)) := W_req
/-- a comprehension whose test may draw -/
theorem w_compS {α β : Type} {F : α → PyData} {g : Gv} {t : Tv} {f : Ev} {ρ : Env'} {ds : List Int} (G : β → PyData) (R : β → Prop) :
    ∀ {xs : List α} {S : Sto} {Q : List PyData × Sto → Prop}, Stw ds S → (∀ x ∈ xs, ∀ a, W (g (F x) ρ) fun ρ1 => W (t ρ1 [some (.d (Wd ds a))]) fun b => Stw ds b.2 ∧ (b.1 = true → W (f ρ1 b.2) fun y => ∃ z, y.1 = .p (G z) ∧ R z ∧ Stw ds y.2)) →
    (∀ (zs : List β) (a : Nat), zs.length ≤ xs.length → (∀ z ∈ zs, R z) → Q (zs.map G, [some (.d (Wd ds a))])) → W (compL g t f ρ (xs.map F) S) Q
  | [], S, Q, hS, h, q => by
    obtain ⟨a, rfl⟩ := hS
    exact ⟨_, rfl, q [] a (Nat.le_refl _) fun z hz => by cases hz⟩
  | x :: xs, S, Q, hS, h, q => by
    obtain ⟨a, rfl⟩ := hS
    obtain ⟨ρ1, e1, b, e2, h1, h2⟩ := h x List.mem_cons_self a
    have ht : ∀ y ∈ xs, _ := fun y hy => h y (List.mem_cons_of_mem _ hy)
    cases hb : b.1 with
    | false =>
      obtain ⟨o, e, w⟩ := w_compS G R (Q := Q) h1 ht fun zs a hl hz => q zs a (Nat.le_trans hl (Nat.le_succ _)) hz
      refine ⟨o, ?_, w⟩
      simp [compL, e1, e2, hb]
      exact e
    | true =>
      obtain ⟨y, e3, z, e4, hz, h3⟩ := h2 hb
      obtain ⟨o, e, w⟩ := w_compS G R (Q := fun p => Q (G z :: p.1, p.2)) h3 ht fun zs a hl hzs => q (z :: zs) a (Nat.succ_le_succ hl) fun v hv => by
        rcases List.mem_cons.mp hv with rfl | hv
        · exact hz
        · exact hzs v hv
      refine ⟨(G z :: o.1, o.2), ?_, w⟩
      simp [compL, e1, e2, hb, e3]
      rw [e4]
      simp [e]
end DL
namespace DL
open PySem PySem.Spec L2
open PyProof.Rows hiding St
/-! ### fractions as rational numbers -/
noncomputable def b_added : Sv := sRet (eCP f_fraction (aCons (e2 addD (e2 mulI (e2 ixD (eVar 0) (eC (.int 0))) (e2 ixD (eVar 1) (eC (.int 1)))) (e2 mulI (e2 ixD (eVar 1) (eC (.int 0))) (e2 ixD (eVar 0) (eC (.int 1))))) (aCons (e2 mulI (e2 ixD (eVar 0) (eC (.int 1))) (e2 ixD (eVar 1) (eC (.int 1)))) (aNil))))
noncomputable def f_added := runP 2 2 b_added
noncomputable def b_sum_of : Sv := sSeq (sAsg (eTup (aCons (eC (.int 0)) (aCons (eC (.int 1)) (aNil)))) (gN 1)) (sSeq (sFor [2] (iP (eVar 0)) (gN 2) (sAsg (eCP f_added (aCons (eVar 1) (aCons (eVar 2) (aNil)))) (gN 1))) (sRet (eVar 1)))
noncomputable def f_sum_of := runP 1 3 b_sum_of
noncomputable def b_times : Sv := sRet (eCP f_fraction (aCons (e2 mulI (e2 ixD (eVar 0) (eC (.int 0))) (e2 ixD (eVar 1) (eC (.int 0)))) (aCons (e2 mulI (e2 ixD (eVar 0) (eC (.int 1))) (e2 ixD (eVar 1) (eC (.int 1)))) (aNil))))
noncomputable def f_times := runP 2 2 b_times
noncomputable def b_taken_from : Sv := sRet (eCP f_added (aCons (eVar 0) (aCons (eTup (aCons (eNeg (e2 ixD (eVar 1) (eC (.int 0)))) (aCons (e2 ixD (eVar 1) (eC (.int 1))) (aNil)))) (aNil))))
noncomputable def f_taken_from := runP 2 2 b_taken_from
noncomputable def b_is_less : Sv := sRet (e2 ltD (e2 mulI (e2 ixD (eVar 0) (eC (.int 0))) (e2 ixD (eVar 1) (eC (.int 1)))) (e2 mulI (e2 ixD (eVar 1) (eC (.int 0))) (e2 ixD (eVar 0) (eC (.int 1)))))
noncomputable def f_is_less := runP 2 2 b_is_less
def rp (r : Rat) : Int × Int := (r.num, (r.den : Int))
abbrev fr (r : Rat) : PyData := pr (rp r)
theorem rp_inj {r s : Rat} (h : rp r = rp s) : r = s := Rat.ext (congrArg Prod.fst h) (by have := congrArg Prod.snd h; simp only [rp] at this; omega)
theorem enc_fr : Enc 1 fr := enc_pr.comap rp fun _ _ => rp_inj
theorem frac_rat {u l : Int} (h : l ≠ 0) : frac u l = rp (Rat.divInt u l) := by
  have hg : 0 < Int.gcd u l := Int.gcd_pos_iff.mpr (.inr h)
  have d1 : (Int.gcd u l : Int) ∣ u := Int.gcd_dvd_left ..
  have d2 : (Int.gcd u l : Int) ∣ l := Int.gcd_dvd_right ..
  unfold frac rp
  rw [Rat.num_divInt, Rat.den_divInt, if_neg h, Int.gcd_comm l u]
  generalize Int.gcd u l = g at *
  obtain ⟨a, rfl⟩ := d1
  obtain ⟨b, rfl⟩ := d2
  have hg' : (g : Int) ≠ 0 := by omega
  have nb : ((g : Int) * b).natAbs = g * b.natAbs := by rw [Int.natAbs_mul]; rfl
  rw [nb, Nat.mul_div_cancel_left _ hg]
  by_cases hp : 0 < (g : Int) * b
  · have hb : 0 < b := by
      rcases Int.lt_trichotomy b 0 with q | q | q
      · have := Int.mul_neg_of_pos_of_neg (a := (g : Int)) (b := b) (by omega) q
        omega
      · subst q; simp at hp
      · exact q
    rw [if_pos hp, Int.sign_eq_one_of_pos hp, Int.one_mul]
    show (((g : Int) * a).fdiv g, ((g : Int) * b).fdiv g) = _
    rw [Int.fdiv_eq_ediv_of_dvd ⟨a, rfl⟩, Int.fdiv_eq_ediv_of_dvd ⟨b, rfl⟩, Int.mul_ediv_cancel_left _ hg', Int.mul_ediv_cancel_left _ hg']
    simp; omega
  · have hn : (g : Int) * b < 0 := by omega
    have hb : b < 0 := by
      rcases Int.lt_trichotomy b 0 with q | q | q
      · exact q
      · subst q; simp at hn
      · have := Int.mul_pos (a := (g : Int)) (b := b) (by omega) q
        omega
    rw [if_neg hp, Int.sign_eq_neg_one_of_neg hn]
    have e1 : (g : Int) * a = -(g : Int) * -a := by rw [Int.neg_mul_neg]
    have e2 : (g : Int) * b = -(g : Int) * -b := by rw [Int.neg_mul_neg]
    have e3 : (-1 : Int) * ((g : Int) * a) = (g : Int) * -a := by rw [Int.mul_neg, Int.neg_one_mul]
    rw [e3, Int.mul_ediv_cancel_left _ hg', e1, e2]
    show ((-(g : Int) * -a).fdiv (-(g : Int)), (-(g : Int) * -b).fdiv (-(g : Int))) = _
    rw [Int.fdiv_eq_ediv_of_dvd ⟨-a, rfl⟩, Int.fdiv_eq_ediv_of_dvd ⟨-b, rfl⟩, Int.mul_ediv_cancel_left _ (by omega), Int.mul_ediv_cancel_left _ (by omega)]
    simp; omega
theorem fraction_fr {u l : Int} (h : l ≠ 0) (hs : l.natAbs < 340282366920938463463374607431768211456) : f_fraction [.int u, .int l] = some (fr (Rat.divInt u l)) := by
  rw [fraction_ok (.inl h) (Nat.lt_of_le_of_lt (Nat.gcd_le_right _ (by omega)) hs), frac_rat h]
theorem fr_def {r : Rat} : fr r = .tuple [.int r.num, .int (r.den : Int)] := rfl
theorem den_pos {r : Rat} : 0 < r.den := Nat.pos_of_ne_zero r.den_nz
theorem den_mul {r s : Rat} : ((r.den : Int) * (s.den : Int)) ≠ 0 := by
  have := Nat.mul_pos (den_pos (r := r)) (den_pos (r := s))
  have e : ((r.den * s.den : Nat) : Int) = (r.den : Int) * (s.den : Int) := Int.natCast_mul ..
  omega
theorem divInt_add' {r s : Rat} : Rat.divInt (r.num * (s.den : Int) + s.num * (r.den : Int)) ((r.den : Int) * (s.den : Int)) = r + s := by
  have h1 : (r.den : Int) ≠ 0 := by have := den_pos (r := r); omega
  have h2 : (s.den : Int) ≠ 0 := by have := den_pos (r := s); omega
  rw [← Rat.divInt_add_divInt _ _ h1 h2, Rat.num_divInt_den, Rat.num_divInt_den]
theorem divInt_mul' {r s : Rat} : Rat.divInt (r.num * s.num) ((r.den : Int) * (s.den : Int)) = r * s := by
  rw [← Rat.divInt_mul_divInt, Rat.num_divInt_den, Rat.num_divInt_den]
theorem neg_fr {r : Rat} : fr (-r) = .tuple [.int (-r.num), .int (r.den : Int)] := by
  have h : (-r).num = -r.num ∧ (-r).den = r.den := ⟨rfl, rfl⟩
  unfold fr pr rp
  rw [h.1, h.2]
theorem den_lt {r s : Rat} {b : Nat} (h : r.den * s.den < b) : r.den < b ∧ s.den < b := by
  have := den_pos (r := r)
  have := den_pos (r := s)
  exact ⟨Nat.lt_of_le_of_lt (Nat.le_mul_of_pos_right _ (by omega)) h, Nat.lt_of_le_of_lt (Nat.le_mul_of_pos_left _ (by omega)) h⟩
theorem natAbs_den {r s : Rat} : ((r.den : Int) * (s.den : Int)).natAbs = r.den * s.den := by rw [Int.natAbs_mul]; rfl
theorem den_big {r s : Rat} (h1 : r.den < 18446744073709551616) (h2 : s.den < 18446744073709551616) : r.den * s.den < 340282366920938463463374607431768211456 := Nat.lt_of_lt_of_eq (Nat.mul_lt_mul'' h1 h2) (by decide)
theorem added_frW {r s : Rat} (h1 : r.den < 18446744073709551616) (h2 : s.den < 18446744073709551616) : f_added [fr r, fr s] = some (fr (r + s)) := by
  suffices H : W (f_added [fr r, fr s]) fun q => q = fr (r + s) from W_out H
  unfold f_added b_added
  rw [w_runP]
  simp [fr_def, atI_i]
  refine ⟨.inr (by omega), .inr (by omega), .inl (by omega), ?_⟩
  rw [fraction_fr den_mul (by rw [natAbs_den]; exact den_big h1 h2), divInt_add']
  simp [fr_def]
theorem added_fr {r s : Rat} (h : r.den * s.den < 18446744073709551616) : f_added [fr r, fr s] = some (fr (r + s)) := added_frW (den_lt h).1 (den_lt h).2
theorem times_frW {r s : Rat} (h1 : r.den < 18446744073709551616) (h2 : s.den < 18446744073709551616) (hn : r.num.natAbs < 2 ^ 64 ∨ s.num.natAbs < 2 ^ 64) : f_times [fr r, fr s] = some (fr (r * s)) := by
  suffices H : W (f_times [fr r, fr s]) fun q => q = fr (r * s) from W_out H
  unfold f_times b_times
  rw [w_runP]
  simp [fr_def, atI_i]
  refine ⟨hn, .inl (by omega), ?_⟩
  rw [fraction_fr den_mul (by rw [natAbs_den]; exact den_big h1 h2), divInt_mul']
  simp [fr_def]
theorem times_fr {r s : Rat} (h : r.den * s.den < 18446744073709551616) (hn : r.num.natAbs < 2 ^ 64 ∨ s.num.natAbs < 2 ^ 64) : f_times [fr r, fr s] = some (fr (r * s)) := times_frW (den_lt h).1 (den_lt h).2 hn
theorem taken_frW {r s : Rat} (h1 : r.den < 18446744073709551616) (h2 : s.den < 18446744073709551616) : f_taken_from [fr r, fr s] = some (fr (r - s)) := by
  suffices H : W (f_taken_from [fr r, fr s]) fun q => q = fr (r - s) from W_out H
  unfold f_taken_from b_taken_from
  rw [w_runP]
  have e := added_frW (r := r) (s := -s) h1 h2
  rw [neg_fr, ← Rat.sub_eq_add_neg] at e
  simp [atI_i, e, fr_def]
  simp [← fr_def, e]
theorem taken_fr {r s : Rat} (h : r.den * s.den < 18446744073709551616) : f_taken_from [fr r, fr s] = some (fr (r - s)) := taken_frW (den_lt h).1 (den_lt h).2
theorem less_fr {r s : Rat} (h1 : r.den < 18446744073709551616) (h2 : s.den < 18446744073709551616) : f_is_less [fr r, fr s] = some (.bool (decide (r < s))) := by
  suffices H : W (f_is_less [fr r, fr s]) fun q => q = .bool (decide (r < s)) from W_out H
  unfold f_is_less b_is_less
  rw [w_runP]
  simp [fr_def, atI_i]
  refine ⟨.inr (by omega), .inr (by omega), ?_⟩
  rw [Rat.lt_iff]
/-! what the lower ones divide -/
theorem den_dvd {r : Rat} {D : Nat} : r.den ∣ D ↔ ∃ z : Int, r * (D : Rat) = (z : Rat) := by
  have e : ∀ z : Int, (z : Rat) = Rat.divInt z 1 := fun z => by
    rw [Rat.divInt_eq_div]; simp [Rat.div_def]
    grind
  have eD : (D : Rat) = Rat.divInt (D : Int) 1 := by rw [← e]; rfl
  have hd : (r.den : Int) * 1 ≠ 0 := by have := den_pos (r := r); omega
  have key : ∀ z : Int, r * (D : Rat) = (z : Rat) ↔ r.num * D = z * r.den := fun z => by
    rw [eD, e z]
    conv => lhs; lhs; rw [← Rat.num_divInt_den r]
    rw [Rat.divInt_mul_divInt, Rat.divInt_eq_divInt_iff hd (by decide)]
    simp
  constructor
  · rintro ⟨k, rfl⟩
    refine ⟨r.num * k, (key _).mpr ?_⟩
    rw [Int.natCast_mul]
    grind
  · rintro ⟨z, hz⟩
    have hz := (key z).mp hz
    have : (r.den : Int) ∣ r.num * D := ⟨z, by rw [hz, Int.mul_comm]⟩
    have : r.den ∣ r.num.natAbs * D := by
      have := Int.natAbs_dvd_natAbs.mpr this
      rw [Int.natAbs_mul] at this
      exact this
    exact r.reduced.symm.dvd_of_dvd_mul_left this
theorem dvd_add {r s : Rat} {D : Nat} (h1 : r.den ∣ D) (h2 : s.den ∣ D) : (r + s).den ∣ D := by
  obtain ⟨a, ha⟩ := den_dvd.mp h1
  obtain ⟨b, hb⟩ := den_dvd.mp h2
  exact den_dvd.mpr ⟨a + b, by rw [Rat.add_mul, ha, hb, Rat.intCast_add]⟩
theorem dvd_sub {r s : Rat} {D : Nat} (h1 : r.den ∣ D) (h2 : s.den ∣ D) : (r - s).den ∣ D := by
  rw [Rat.sub_eq_add_neg]
  exact dvd_add h1 (by rw [show (-s).den = s.den from rfl]; exact h2)
theorem dvd_mul {r s : Rat} {D E : Nat} (h1 : r.den ∣ D) (h2 : s.den ∣ E) : (r * s).den ∣ D * E := by
  obtain ⟨a, ha⟩ := den_dvd.mp h1
  obtain ⟨b, hb⟩ := den_dvd.mp h2
  refine den_dvd.mpr ⟨a * b, ?_⟩
  rw [Rat.intCast_mul, ← ha, ← hb, Rat.natCast_mul]
  grind
theorem dvd_divInt {u l : Int} {D : Nat} (hl : l ≠ 0) (h : l.natAbs ∣ D) : (Rat.divInt u l).den ∣ D := by
  rw [Rat.den_divInt, if_neg hl]
  exact Nat.dvd_trans (Nat.div_dvd_of_dvd (Nat.gcd_dvd_left ..)) h
theorem dvd_le {r : Rat} {D : Nat} (h : r.den ∣ D) (hD : 0 < D) : r.den ≤ D := Nat.le_of_dvd hD h
theorem dvd_sum {rs : List Rat} {D : Nat} (h : ∀ r ∈ rs, r.den ∣ D) : rs.sum.den ∣ D := by
  induction rs with
  | nil => exact Nat.one_dvd _
  | cons r rs ih =>
    rw [List.sum_cons]
    exact dvd_add (h r List.mem_cons_self) (ih fun s hs => h s (List.mem_cons_of_mem _ hs))
theorem fr_zero : fr 0 = .tuple [.int 0, .int 1] := rfl
theorem sum_take {rs : List Rat} {k : Nat} (hk : k < rs.length) : (rs.take (k + 1)).sum = (rs.take k).sum + rs[k] := by
  rw [List.take_add_one, List.getElem?_eq_getElem hk, List.sum_append]
  simp [Rat.add_zero]
theorem sum_frW {rs : List Rat} {D : Nat} (h : ∀ r ∈ rs, r.den ∣ D) (h0 : 0 < D) (hD : D < 18446744073709551616) (hl : rs.length ≤ 1000000) {T : PyData} (hT : T = .tuple (rs.map fr) ∨ T = .list (rs.map fr)) : f_sum_of [T] = some (fr rs.sum) := by
  suffices H : W (f_sum_of [T]) fun q => q = fr rs.sum from W_out H
  unfold f_sum_of b_sum_of
  rw [w_runP]
  have hz : (sizeLine : Nat) = 16777216 := sizeLine_eq
  have core : W (forL (gN 2) (sFg [2] (sAsg (eCP f_added (aCons (eVar 1) (aCons (eVar 2) aNil))) (gN 1))) (rs.map fr) [some (.p T), some (.p (fr 0)), none] []) fun o => o = .nx [some (.p T), some (.p (fr rs.sum)), none] [] := by
    refine forL_ix (F := fr) (fun k ρ S => S = [] ∧ ρ = [some (.p T), some (.p (fr (rs.take k).sum)), none]) (fun k hk ρ S hi => ?_) (fun ρ S hi => ?_) ⟨rfl, rfl⟩
    · obtain ⟨rfl, rfl⟩ := hi
      have a1 : (rs.take k).sum.den ∣ D := dvd_sum fun r hr => h r (List.mem_of_mem_take hr)
      have a2 : (rs[k]).den ∣ D := h _ (List.getElem_mem hk)
      have e := added_frW (r := (rs.take k).sum) (s := rs[k]) (Nat.lt_of_le_of_lt (dvd_le a1 h0) hD) (Nat.lt_of_le_of_lt (dvd_le a2 h0) hD)
      rw [sum_take hk]
      simp [e]
    · obtain ⟨rfl, rfl⟩ := hi
      simp
  rcases hT with rfl | rfl
  · simp
    refine ⟨by omega, ?_⟩
    rw [← fr_zero]
    refine core.mono fun o ho => ?_
    subst ho
    simp
  · simp
    refine ⟨by omega, ?_⟩
    rw [← fr_zero]
    refine core.mono fun o ho => ?_
    subst ho
    simp
theorem sum_fr {rs : List Rat} {D : Nat} (h : ∀ r ∈ rs, r.den ∣ D) (h0 : 0 < D) (hD : D * D < 18446744073709551616) (hl : rs.length ≤ 1000000) {T : PyData} (hT : T = .tuple (rs.map fr) ∨ T = .list (rs.map fr)) : f_sum_of [T] = some (fr rs.sum) := sum_frW h h0 (Nat.lt_of_le_of_lt (Nat.le_mul_of_pos_left D h0) hD) hl hT
theorem num_sub_le {r s : Rat} : (r - s).num.natAbs ≤ r.num.natAbs * s.den + s.num.natAbs * r.den := by
  rw [Rat.sub_eq_add_neg, ← divInt_add', Rat.num_divInt]
  refine Nat.le_trans (Int.natAbs_ediv_le_natAbs _ _) ?_
  rw [Int.natAbs_mul]
  have h1 : ∀ z : Int, z.sign.natAbs ≤ 1 := fun z => by
    rcases Int.lt_trichotomy z 0 with q | q | q
    · rw [Int.sign_eq_neg_one_of_neg q]; decide
    · rw [q]; decide
    · rw [Int.sign_eq_one_of_pos q]; decide
  refine Nat.le_trans (Nat.mul_le_mul_right _ (h1 _)) ?_
  rw [Nat.one_mul]
  refine Nat.le_trans (Int.natAbs_add_le _ _) ?_
  rw [Int.natAbs_mul, Int.natAbs_mul]
  show _ + (-s.num).natAbs * _ ≤ _
  rw [Int.natAbs_neg]
  exact Nat.le_refl _
theorem num_div_le {u l : Int} : (Rat.divInt u l).num.natAbs ≤ u.natAbs := by
  rw [Rat.num_divInt]
  refine Nat.le_trans (Int.natAbs_ediv_le_natAbs _ _) ?_
  rw [Int.natAbs_mul]
  have h1 : ∀ z : Int, z.sign.natAbs ≤ 1 := fun z => by
    rcases Int.lt_trichotomy z 0 with q | q | q
    · rw [Int.sign_eq_neg_one_of_neg q]; decide
    · rw [q]; decide
    · rw [Int.sign_eq_one_of_pos q]; decide
  refine Nat.le_trans (Nat.mul_le_mul_right _ (h1 _)) ?_
  rw [Nat.one_mul]
  exact Nat.le_refl _
theorem den_div_le {u l : Int} (h : l ≠ 0) : (Rat.divInt u l).den ≤ l.natAbs := dvd_le (dvd_divInt h (Nat.dvd_refl _)) (by omega)
theorem ix0 {r : Rat} : ixD (fr r) (.int 0) = some (.int r.num) := rfl
theorem ix1 {r : Rat} : ixD (fr r) (.int 1) = some (.int (r.den : Int)) := rfl
theorem isND_fr {r : Rat} : isND (fr r) = false := rfl
theorem frI {a : Int} : (.tuple [.int a, .int 1] : PyData) = fr (a : Rat) := rfl
theorem fr_unit {n : Nat} : fr (Rat.divInt 1 ((n : Int) + 1)) = .tuple [.int 1, .int ((n : Int) + 1)] := by
  unfold fr pr rp
  have h : ((n : Int) + 1) ≠ 0 := by omega
  have h1 : (Rat.divInt 1 ((n : Int) + 1)).num = 1 := by
    rw [Rat.num_divInt, Int.sign_eq_one_of_pos (by omega)]
    simp
  have h2 : ((Rat.divInt 1 ((n : Int) + 1)).den : Int) = (n : Int) + 1 := by
    rw [Rat.den_divInt, if_neg h]
    simp
    omega
  rw [h1, h2]
/-- bounds -/
theorem le_sum : ∀ {rs : List Rat} {r : Rat}, (∀ s ∈ rs, 0 ≤ s) → r ∈ rs → r ≤ rs.sum
  | x :: xs, r, h, hr => by
    have hx := h x List.mem_cons_self
    have hs : 0 ≤ xs.sum := sum_nn fun s hs => h s (List.mem_cons_of_mem _ hs)
    rw [List.sum_cons]
    rcases List.mem_cons.mp hr with rfl | hr
    · grind
    · have := le_sum (fun s hs => h s (List.mem_cons_of_mem _ hs)) hr
      grind
where sum_nn : ∀ {rs : List Rat}, (∀ s ∈ rs, 0 ≤ s) → 0 ≤ rs.sum
  | [], _ => by simp
  | x :: xs, h => by
    have hx := h x List.mem_cons_self
    have := sum_nn (rs := xs) fun s hs => h s (List.mem_cons_of_mem _ hs)
    rw [List.sum_cons]
    grind
theorem num_le {r : Rat} {b : Nat} (h0 : 0 ≤ r) (h1 : r ≤ (b : Rat)) : r.num.natAbs ≤ b * r.den := by
  have hn : 0 ≤ r.num := Rat.num_nonneg.mpr h0
  rw [Rat.le_iff] at h1
  have e1 : ((b : Rat)).den = 1 := rfl
  have e2 : ((b : Rat)).num = b := rfl
  rw [e1, e2] at h1
  have : ((b * r.den : Nat) : Int) = (b : Int) * (r.den : Int) := Int.natCast_mul ..
  omega
theorem int_divInt (z : Int) : (z : Rat) = Rat.divInt z 1 := by
  rw [Rat.divInt_eq_div]; simp [Rat.div_def]
  grind
theorem nat_divInt (z : Nat) : (z : Rat) = Rat.divInt (z : Int) 1 := by rw [← int_divInt]; rfl
theorem one_divInt : (1 : Rat) = Rat.divInt 1 1 := int_divInt 1
end DL
namespace DL
open PySem PySem.Spec L2
open PyProof.Rows hiding St
/-! ### more encodings, ranges -/
section
variable {α β γ δ : Type} [DecidableEq α] [DecidableEq β] [DecidableEq γ] [DecidableEq δ] {n m k l : Nat} {e : α → PyData} {f : β → PyData} {g : γ → PyData} {h : δ → PyData}
theorem Enc.trip (he : Enc n e) (hf : Enc n f) (hg : Enc n g) : Enc (n + 1) (fun p : α × β × γ => PyData.tuple [e p.1, f p.2.1, g p.2.2]) :=
  ⟨fun p => by rw [fitN_t]; simp [he.fit, hf.fit, hg.fit], fun p q => by
    show PyData.eqvAll _ _ = _
    simp only [PyData.eqvAll]
    rw [he.eqv, hf.eqv, hg.eqv, Bool.and_true, ← Bool.decide_and, ← Bool.decide_and]
    exact decide_eq_decide.mpr ⟨fun z => Prod.ext z.1 (Prod.ext z.2.1 z.2.2), fun z => by rw [z]; exact ⟨rfl, rfl, rfl⟩⟩, fun p q => by
    show PySem.W.alikeAll _ _ = true
    simp only [PySem.W.alikeAll, he.alk, hf.alk, hg.alk, Bool.and_self], fun _ => rfl, .inl fun _ => rfl⟩
theorem Enc.quad (he : Enc n e) (hf : Enc n f) (hg : Enc n g) (hh : Enc n h) : Enc (n + 1) (fun p : α × β × γ × δ => PyData.tuple [e p.1, f p.2.1, g p.2.2.1, h p.2.2.2]) :=
  ⟨fun p => by rw [fitN_t]; simp [he.fit, hf.fit, hg.fit, hh.fit], fun p q => by
    show PyData.eqvAll _ _ = _
    simp only [PyData.eqvAll]
    rw [he.eqv, hf.eqv, hg.eqv, hh.eqv, Bool.and_true, ← Bool.decide_and, ← Bool.decide_and, ← Bool.decide_and]
    exact decide_eq_decide.mpr ⟨fun z => Prod.ext z.1 (Prod.ext z.2.1 (Prod.ext z.2.2.1 z.2.2.2)), fun z => by rw [z]; exact ⟨rfl, rfl, rfl, rfl⟩⟩, fun p q => by
    show PySem.W.alikeAll _ _ = true
    simp only [PySem.W.alikeAll, he.alk, hf.alk, hg.alk, hh.alk, Bool.and_self], fun _ => rfl, .inl fun _ => rfl⟩
theorem Enc.up (he : Enc n e) (hm : n ≤ m) : Enc m e := ⟨fun a => fitN_mono hm (he.fit a), he.eqv, he.alk, he.nn, he.knd⟩
/-- the least is the first of the sorted -/
theorem Enc.min_head (he : Enc n e) {x y : α} {xs ys : List α} (hs : sortE e (x :: xs) = y :: ys) : minE e x xs = y := by
  have hso := sortE_sorted (e := e) (xs := x :: xs)
  rw [hs] at hso
  refine he.min_eq (sortE_mem.mp (by rw [hs]; exact List.mem_cons_self)) fun z hz => ?_
  have hz : z ∈ y :: ys := by rw [← hs]; exact sortE_mem.mpr hz
  rcases List.mem_cons.mp hz with rfl | hz
  · exact leE_def.mpr (ltE_irrefl _)
  · exact (List.pairwise_cons.mp hso).1 z hz
theorem ddE_len : ∀ {xs : List α}, (ddE xs).length ≤ xs.length
  | [] => Nat.le_refl _
  | [x] => Nat.le_refl _
  | x :: y :: r => by
    have ih := ddE_len (xs := y :: r)
    unfold ddE
    dsimp only
    split
    · exact Nat.le_trans ih (Nat.le_succ _)
    · exact Nat.succ_le_succ ih
theorem uset_len {xs : List α} : (usetE e xs).length ≤ xs.length := Nat.le_trans ddE_len (by rw [sortE_len]; exact Nat.le_refl _)
end
theorem rng_lo {lo : Int} {n : Nat} : rngD lo n = (List.range n).map fun i : Nat => PyData.int (lo + (i : Int)) := rfl
theorem rng_one {n : Nat} : rngD 1 n = (List.range n).map fun i : Nat => PyData.int ((i + 1 : Nat) : Int) := by
  unfold rngD
  refine List.map_congr_left fun k hk => ?_
  simp; omega
theorem rng_from {i n : Nat} : rngD ((i : Int) + 1) ((n : Int) - (i + 1)).toNat = (List.range (n - (i + 1))).map fun t : Nat => PyData.int ((i + 1 + t : Nat) : Int) := by
  unfold rngD
  rw [show ((n : Int) - (i + 1)).toNat = n - (i + 1) by omega]
  exact List.map_congr_left fun t _ => by simp
theorem enc_boolD : Enc 0 PyData.bool := ⟨fun _ => rfl, fun a b => by cases a <;> cases b <;> rfl, fun _ _ => rfl, fun _ => rfl, .inr fun _ => rfl⟩
/-- [1 for ..] == [], != [] -/
theorem ones_e {α : Type} : ∀ xs : List α, xs.map (fun _ => PyData.int 1) = (xs.map fun _ => (1 : Int)).map PyData.int := fun xs => by rw [List.map_map]; rfl
theorem ones_i {α : Type} : ∀ xs : List α, (xs.map fun _ => (1 : Int)).isEmpty = xs.isEmpty := fun xs => by cases xs <;> rfl
theorem ones_eq {α : Type} {xs : List α} : eqD (.list (xs.map fun _ => PyData.int 1)) (.list []) = some (.bool xs.isEmpty) := by rw [ones_e, enc_int.l0, ones_i]
theorem ones_ne {α : Type} {xs : List α} : neD (.list (xs.map fun _ => PyData.int 1)) (.list []) = some (.bool (!xs.isEmpty)) := by rw [ones_e, enc_int.nl0, ones_i]
theorem ixN_nat {n k : Nat} (h : k < n) : ixN n (k : Int) = some k := by
  unfold ixN
  rw [if_pos (by omega)]
  simp [h]
theorem setD_nat {xs : List PyData} {k : Nat} {v : PyData} (h : k < xs.length) : setD (.list xs) (.int (k : Int)) v = some (.list (xs.set k v)) := by
  show (ixN xs.length (k : Int)).map _ = _
  rw [ixN_nat h]
  rfl
end DL
namespace DL
open PySem PySem.Spec L2
open PyProof.Rows hiding St
/-! ### d.get(k), d.get(k, x) -/
section
variable {X : Cx} {pins : List (Addr × Obj)} {σ : L2.St} {H : Hp} {s : Shared} {L : AdP}
theorem look_get1 {a : Addr} {y : V} {u : Value} {o : Option PyData} {A : Around} {E : Value → Shared → Prop} {Q : Value → Shared → Prop} (hu : A.units + 1 < cLine) (I : Inv X pins σ H s) (g : DLook H L a y o) (ry : RelV y u)
    (h : ∀ v w' s', Inv X pins σ H s' → RelV v w' → At H L v (o.getD .none) → Q w' s') : wpAny (model X.prog X.w) A (call (.builtin "dict.get") [.ref a, u]) Q E s := by
  cases g with
  | none g => exact d_get1 hu I g ry fun w' s' I' r => h _ w' s' I' r .non
  | some g r1 => exact d_get1 hu I g ry fun w' s' I' r => h _ w' s' I' r r1
  | emK e ey eb =>
    subst ey
    cases (show u = Value.ref _ from ry)
    obtain ⟨_, hd, vs, _, dd⟩ := dk_rd I.hok e
    exact call_meetsIn PySem.F.slot_dict_get dd.typeIs PySem.F.entry_dict_get (PySem.F.args_dict_get_2 _ _) (meetsH_dict_get (tupleKind (mixKind X.prog X.w)) a _ hd) ⟨tupleKind_room_in1 hu, _, [], key_of I.hok eb, dK_emptyH I e, h .non _ _ (I.tok _) rfl .non⟩
  | emT e ey =>
    subst ey
    obtain ⟨_, hd, xs, _, dd⟩ := dt_rd I.hok e
    exact call_meetsIn PySem.F.slot_dict_get dd.typeIs PySem.F.entry_dict_get (PySem.F.args_dict_get_2 _ _) (meets_dict_get (mixKind X.prog X.w) a (kV_is ry) hd) ⟨_, (dT_emptyO I e).mapOf, h .non _ _ (I.tok _) rfl .non⟩
theorem look_get2 {a : Addr} {y z : V} {u r : Value} {dz : PyData} {o : Option PyData} {A : Around} {E : Value → Shared → Prop} {Q : Value → Shared → Prop} (hu : A.units + 1 < cLine) (I : Inv X pins σ H s) (g : DLook H L a y o) (ry : RelV y u) (rz : RelV z r) (hz : At H L z dz)
    (h : ∀ v w' s', Inv X pins σ H s' → RelV v w' → At H L v (o.getD dz) → Q w' s') : wpAny (model X.prog X.w) A (call (.builtin "dict.get") [.ref a, u, r]) Q E s := by
  cases g with
  | none g => exact d_get2 hu I g ry rz fun w' s' I' r => h _ w' s' I' r hz
  | some g r1 => exact d_get2 hu I g ry rz fun w' s' I' r => h _ w' s' I' r r1
  | emK e ey eb =>
    subst ey
    cases (show u = Value.ref _ from ry)
    obtain ⟨_, hd, vs, _, dd⟩ := dk_rd I.hok e
    exact call_meetsIn PySem.F.slot_dict_get dd.typeIs PySem.F.entry_dict_get (PySem.F.args_dict_get_3 _ _ _) (meetsH_dict_get_default (tupleKind (mixKind X.prog X.w)) a _ hd r) ⟨tupleKind_room_in1 hu, _, [], key_of I.hok eb, dK_emptyH I e, h z _ _ (I.tok _) rz hz⟩
  | emT e ey =>
    subst ey
    obtain ⟨_, hd, xs, _, dd⟩ := dt_rd I.hok e
    exact call_meetsIn PySem.F.slot_dict_get dd.typeIs PySem.F.entry_dict_get (PySem.F.args_dict_get_3 _ _ _) (meets_dict_get_default (mixKind X.prog X.w) a (kV_is ry) hd r) ⟨_, (dT_emptyO I e).mapOf, h z _ _ (I.tok _) rz hz⟩
def tLG1 (td ty : TE) : TE := fun σ H Q => td σ H fun x H1 => ∃ a, x = .ref a ∧ IsD H1 a ∧ ty σ H1 fun y H2 => ∃ (L : AdP) (o : Option PyData), DLook H2 L a y o ∧ Gr H2 L Q (o.getD .none)
def tLG2 (td ty tx : TE) : TE := fun σ H Q => td σ H fun x H1 => ∃ a, x = .ref a ∧ IsD H1 a ∧ ty σ H1 fun y H2 => tx σ H2 fun z H3 => ∃ (L : AdP) (o : Option PyData) (dz : PyData), DLook H3 L a y o ∧ At H3 L z dz ∧ Gr H3 L Q (o.getD dz)
variable {o e f : Expr} {apos cpos : Pos} {td ty tx : TE}
theorem pe_lget1 (hu : X.A.units + 1 < cLine) (ho : PE X o td) (he : PE X e ty) (m : M1 X o "get" apos e cpos) : PE X (.Call (.Attribute o "get" apos) [e] [] cpos) (tLG1 td ty) := by
  refine ⟨fun pins s σ H Q I h => ?_⟩
  refine wpAny_Call_method m.base m.few m.line PySem.F.plainAttrs_dict PySem.F.slot_dict_get PySem.F.type_dict_get (thn (ho.run pins s σ H _ I h) fun u s1 ⟨x, H1, I1, rx, a, ex, d, q1⟩ => ?_)
  subst ex
  obtain rfl : u = Value.ref a := rx
  obtain ⟨t1, t2, _⟩ := isD_at I1 d
  refine ⟨t1, t2, ?_⟩
  rw [m.trees]
  refine Calls.callWith_builtin rfl (Calls.evalArgs_plain (Calls.spliced_cons (thn (he.run pins s1 σ H1 _ I1 q1) fun iv s2 ⟨y, H2, I2, ry, L, ov, g, q2⟩ => Calls.spliced_nil ?_)))
  exact look_get1 hu I2 g ry fun v w' s3 I3 rw' at' => ⟨v, H2, I3, rw', q2 v H2 (fun _ _ z => z) at'⟩
theorem pe_lget2 (hu : X.A.units + 1 < cLine) (ho : PE X o td) (he : PE X e ty) (hf : PE X f tx) (m : M2 X o "get" apos e f cpos) : PE X (.Call (.Attribute o "get" apos) [e, f] [] cpos) (tLG2 td ty tx) := by
  refine ⟨fun pins s σ H Q I h => ?_⟩
  refine wpAny_Call_method m.base m.few m.line PySem.F.plainAttrs_dict PySem.F.slot_dict_get PySem.F.type_dict_get (thn (ho.run pins s σ H _ I h) fun u s1 ⟨x, H1, I1, rx, a, ex, d, q1⟩ => ?_)
  subst ex
  obtain rfl : u = Value.ref a := rx
  obtain ⟨t1, t2, _⟩ := isD_at I1 d
  refine ⟨t1, t2, ?_⟩
  rw [m.trees]
  refine Calls.callWith_builtin rfl (Calls.evalArgs_plain (Calls.spliced_cons (thn (he.run pins s1 σ H1 _ I1 q1) fun iv s2 ⟨y, H2, I2, ry, q2⟩ =>
    Calls.spliced_cons (thn (hf.run pins s2 σ H2 _ I2 q2) fun fv s3 ⟨z, H3, I3, rz, L, ov, dz, g, hz, q3⟩ => Calls.spliced_nil ?_))))
  exact look_get2 hu I3 g ry rz hz fun v w' s4 I4 rw' at' => ⟨v, H3, I4, rw', q3 v H3 (fun _ _ z => z) at'⟩
end
section
variable {c : Cxt} {o a b : Expr} {fo fa fb : Ev} {apos cpos : Pos}
def getDD (m k dz : PyData) : Option PyData := match m with | .dict dd => if keyOk dd k = true then some ((getK dd k).getD dz) else none | _ => none
def isDD : PyData → Bool | .dict _ => true | _ => false
def eGet1 (fo fa : Ev) : Ev := fun ρ S => (fo ρ S).bind fun p => (vw p.2 p.1).bind fun m0 => if isDD m0 = true then (fa ρ p.2).bind fun q => (vw q.2 p.1).bind fun m => (vw q.2 q.1).bind fun k => (getDD m k .none).bind fun r => some (.p r, q.2) else none
def eGet2 (fo fa fb : Ev) : Ev := fun ρ S => (fo ρ S).bind fun p => (vw p.2 p.1).bind fun m0 => if isDD m0 = true then (fa ρ p.2).bind fun q => (fb ρ q.2).bind fun z => match z.1 with
  | .p dz => (vw z.2 p.1).bind fun m => (vw z.2 q.1).bind fun k => (getDD m k dz).bind fun r => some (.p r, z.2)
  | _ => none else none
theorem isDD_out {m : PyData} (h : isDD m = true) : ∃ dd, m = .dict dd := by cases m <;> first | exact ⟨_, rfl⟩ | cases h
theorem de_get1 (ho : DE c o fo) (ha : DE c a fa) (hu : ∀ X, InC c X → X.A.units + 1 < cLine) (hm : ∀ X, InC c X → M1 X o "get" apos a cpos) : DE c (.Call (.Attribute o "get" apos) [a] [] cpos) (eGet1 fo fa) := by
  obtain ⟨to, po, vo⟩ := ho
  obtain ⟨ta, pa, va⟩ := ha
  refine ⟨tLG1 to ta, fun X hX => pe_lget1 (hu X hX) (po X hX) (pa X hX) (hm X hX), fun Lf adr S σ H ρ d S' Q I e w => ?_⟩
  unfold eGet1 at e
  obtain ⟨⟨x, S1⟩, e1, e⟩ := Option.bind_eq_some_iff.mp e
  obtain ⟨m0, e2, e⟩ := Option.bind_eq_some_iff.mp e
  split at e
  · rename_i hdd
    obtain ⟨dd0, rfl⟩ := isDD_out hdd
    obtain ⟨⟨y, S2⟩, e4, e⟩ := Option.bind_eq_some_iff.mp e
    obtain ⟨m, e5, e⟩ := Option.bind_eq_some_iff.mp e
    obtain ⟨k, e6, e⟩ := Option.bind_eq_some_iff.mp e
    obtain ⟨r, e7, e⟩ := Option.bind_eq_some_iff.mp e
    cases e
    refine vo Lf adr S σ H ρ x S1 _ I e1 fun v adr1 H1 x1 s1 r1 => ?_
    obtain ⟨a1, rfl, hd⟩ := (vw_ok s1 r1 e2).dict_inv
    refine ⟨a1, rfl, hd.imp (fun ⟨kvs, h, _⟩ => ⟨kvs, h⟩) (fun ⟨kvs, h, _⟩ => ⟨kvs, h⟩), va Lf adr1 S1 σ H1 ρ y S2 _ (I.ext x1 s1) e4 fun u adr2 H2 x2 s2 r2 => ?_⟩
    unfold getDD at e7
    split at e7
    · rename_i dd
      split at e7
      · rename_i hk
        cases e7
        obtain ⟨a2, ea, hl⟩ := dlook (vw_ok s2 (r1.ext0 s1 x2) e5) (vw_ok s2 r2 e6) hk
        cases ea
        exact ⟨_, _, hl, wi_gr s2 (w.trans (x1.trans x2))⟩
      · cases e7
    · cases e7
  · cases e
theorem de_get2 (ho : DE c o fo) (ha : DE c a fa) (hb : DE c b fb) (hu : ∀ X, InC c X → X.A.units + 1 < cLine) (hm : ∀ X, InC c X → M2 X o "get" apos a b cpos) : DE c (.Call (.Attribute o "get" apos) [a, b] [] cpos) (eGet2 fo fa fb) := by
  obtain ⟨to, po, vo⟩ := ho
  obtain ⟨ta, pa, va⟩ := ha
  obtain ⟨tb, pb, vb⟩ := hb
  refine ⟨tLG2 to ta tb, fun X hX => pe_lget2 (hu X hX) (po X hX) (pa X hX) (pb X hX) (hm X hX), fun Lf adr S σ H ρ d S' Q I e w => ?_⟩
  unfold eGet2 at e
  obtain ⟨⟨x, S1⟩, e1, e⟩ := Option.bind_eq_some_iff.mp e
  obtain ⟨m0, e2, e⟩ := Option.bind_eq_some_iff.mp e
  split at e
  · rename_i hdd
    obtain ⟨dd0, rfl⟩ := isDD_out hdd
    obtain ⟨⟨y, S2⟩, e4, e⟩ := Option.bind_eq_some_iff.mp e
    obtain ⟨⟨z, S3⟩, e8, e⟩ := Option.bind_eq_some_iff.mp e
    split at e
    · rename_i dz hz
      simp only at hz
      subst hz
      obtain ⟨m, e5, e⟩ := Option.bind_eq_some_iff.mp e
      obtain ⟨k, e6, e⟩ := Option.bind_eq_some_iff.mp e
      obtain ⟨r, e7, e⟩ := Option.bind_eq_some_iff.mp e
      cases e
      refine vo Lf adr S σ H ρ x S1 _ I e1 fun v adr1 H1 x1 s1 r1 => ?_
      obtain ⟨a1, rfl, hd⟩ := (vw_ok s1 r1 e2).dict_inv
      refine ⟨a1, rfl, hd.imp (fun ⟨kvs, h, _⟩ => ⟨kvs, h⟩) (fun ⟨kvs, h, _⟩ => ⟨kvs, h⟩), va Lf adr1 S1 σ H1 ρ y S2 _ (I.ext x1 s1) e4 fun u adr2 H2 x2 s2 r2 => ?_⟩
      refine vb Lf adr2 S2 σ H2 ρ _ S3 _ ((I.ext x1 s1).ext x2 s2) e8 fun u3 adr3 H3 x3 s3 r3 => ?_
      unfold getDD at e7
      split at e7
      · rename_i dd
        split at e7
        · rename_i hk
          cases e7
          obtain ⟨a2, ea, hl⟩ := dlook (vw_ok s3 ((r1.ext0 s1 x2).ext0 s2 x3) e5) (vw_ok s3 (r2.ext0 s2 x3) e6) hk
          cases ea
          exact ⟨_, _, _, hl, r3, wi_gr s3 (w.trans ((x1.trans x2).trans x3))⟩
        · cases e7
      · cases e7
    · cases e
  · cases e
theorem getm1 (ho : DE c o fo) (ha : DE c a fa) (hm : ∀ X, InC c X → M1 X o "get" apos a cpos := by exact fun _ _ => ⟨rfl, rfl, rfl, rfl⟩) : DE c (.Call (.Attribute o "get" apos) [a] [] cpos) (eGet1 fo fa) := de_get1 ho ha (fun X hX => by have := hX.un; omega) hm
theorem getm2 (ho : DE c o fo) (ha : DE c a fa) (hb : DE c b fb) (hm : ∀ X, InC c X → M2 X o "get" apos a b cpos := by exact fun _ _ => ⟨rfl, rfl, rfl, rfl⟩) : DE c (.Call (.Attribute o "get" apos) [a, b] [] cpos) (eGet2 fo fa fb) := de_get2 ho ha hb (fun X hX => by have := hX.un; omega) hm
/-! walking -/
variable {ρ : Env'} {S : Sto} {Q : D × Sto → Prop}
@[simp ↓] theorem w_get1 : W (eGet1 fo fa ρ S) Q = W (fo ρ S) fun p => W (vw p.2 p.1) fun m0 => isDD m0 = true ∧ W (fa ρ p.2) fun q => W (vw q.2 p.1) fun m => W (vw q.2 q.1) fun k => W (getDD m k .none) fun r => Q (.p r, q.2) := by
  unfold eGet1
  simp only [W_bind, W_some, W_ite, W_none]
  congr; funext p; congr; funext m
  cases isDD m <;> simp
@[simp ↓] theorem w_get2 : W (eGet2 fo fa fb ρ S) Q = W (fo ρ S) fun p => W (vw p.2 p.1) fun m0 => isDD m0 = true ∧ W (fa ρ p.2) fun q => W (fb ρ q.2) fun z => match z.1 with
  | .p dz => W (vw z.2 p.1) fun m => W (vw z.2 q.1) fun k => W (getDD m k dz) fun r => Q (.p r, z.2)
  | _ => False := by
  unfold eGet2
  simp only [W_bind, W_some, W_ite, W_none]
  congr; funext p; congr; funext m
  cases isDD m
  · simp
  · simp only [if_true, true_and]
    congr; funext q; congr; funext z
    cases z.1 <;> simp [W_bind, W_some, W_none]
@[simp] theorem isDD_d {dd : List (PyData × PyData)} : isDD (.dict dd) = true := rfl
end
end DL
namespace DL
open PySem PySem.Spec L2
open PyProof.Rows hiding St
/-! ### x.pop(), as a statement -/
def popD (m : PyData) : Option PyData := match m with | .list ds => if ds = [] then none else some (.list ds.dropLast) | _ => none
def rPop0 : V → List V → Hp → VK → Prop := fun x vs H Q => ∃ (L : AdP) (p : Addr) (m m' : PyData), x = .ref p ∧ vs = [] ∧ L p ∧ Ob H L p m ∧ popD m = some m' ∧ ∀ y o, Ob (L2.upd H p o) L p m' → Q y (L2.upd H p o)
theorem AtL.dropLast {H : Hp} {L : AdP} : ∀ {xs : List V} {ds : List PyData}, AtL H L xs ds → AtL H L xs.dropLast ds.dropLast
  | _, _, .nil => .nil
  | _, _, .cons a .nil => .nil
  | _, _, .cons a (.cons b r) => .cons a (AtL.dropLast (.cons b r))
theorem hm_pop {X : Cx} : MtR X "list.pop" rPop0 := by
  intro pins s σ H x vs v us Q I rx rv h
  obtain ⟨L, p, m, m', rfl, rfl, hL, ob, e, q⟩ := h
  unfold popD at e
  split at e
  · rename_i ds
    split at e
    · cases e
    · rename_i hne
      cases e
      obtain ⟨xs, hx, r⟩ := ob
      have hl := r.length
      have hpos : 0 < xs.length := by
        rw [hl]
        exact List.length_pos_iff.mpr hne
      exact mt_pop pins s σ H _ _ v us Q I rx rv ⟨p, xs, xs[xs.length - 1], rfl, rfl, hx, by rw [List.getElem?_eq_getElem], q _ _ ⟨_, upd_same, (r.dropLast).tr (tr_upd hL)⟩⟩
  · cases e
section
variable {c : Cxt} {e : En} {pos : Pos}
def sPop (i : Nat) : Sv := fun ρ S => match ρ[i]? with
  | some (some (.o m)) => (popD m).bind fun m' => some (.nx (ρ.set i (some (.o m'))) S)
  | some (some (.c k)) => match S[k]? with
    | some (some (.d m)) => (popD m).bind fun m' => some (.nx ρ (S.set k (some (.d m'))))
    | _ => none
  | _ => none
theorem pop_list {m m' : PyData} (h : popD m = some m') : ∃ ds, m = .list ds := by cases m <;> first | exact ⟨_, rfl⟩ | cases h
theorem sv_pop {i : Nat} : SvOk c (tDrop (tBM0 c.K "list" rPop0 (tVar i))) (sPop i) := fun e adr S σ H ρ o D I h w => by
  unfold sPop at h
  split at h
  · rename_i m hi
    obtain ⟨m', e3, e4⟩ := Option.bind_eq_some_iff.mp h
    cases e4
    obtain ⟨v, h1, a, rfl, l, ob⟩ := I.eok.slot i _ hi
    obtain ⟨ds, rfl⟩ := pop_list e3
    have ob0 := ob
    obtain ⟨xs, hx, _⟩ := ob0
    refine ⟨_, h1, .inl ⟨rfl, _, .of hx⟩, ?_⟩
    exact ⟨_, a, _, m', rfl, rfl, .inl l, I.own_at hi h1, e3, fun y o' ob' => w adr _ _ (I.upd hi h1 ob')⟩
  · rename_i k hi
    split at h
    · rename_i m hk
      obtain ⟨m', e3, e4⟩ := Option.bind_eq_some_iff.mp h
      cases e4
      obtain ⟨v, h1, rfl, hkl⟩ := I.eok.slot i _ hi
      obtain ⟨ds, rfl⟩ := pop_list e3
      obtain ⟨xs, hx, _⟩ := I.eok.sto.ob k _ hk
      refine ⟨_, h1, .inl ⟨rfl, _, .of hx⟩, ?_⟩
      exact ⟨Lvv (LfN e σ ρ) adr S, adr k, .list ds, m', rfl, rfl, .inr ⟨k, _, hk, rfl⟩, I.eok.sto.ob k _ hk, e3, fun y o' ob' => w adr _ _ (I.updC hk ob')⟩
    · cases h
  · cases h
theorem ds_pop {i : Nat} {x : Str} {p apos cpos : Pos} (hN : c.N[i]? = some x) (hv : Vis c.sc x) (hd : (x == ("__debug__" : Str)) = false) (hcd : (x == ("__classdict__" : Str)) = false)
    (hbase : ∀ X, InC c X → attributeBase (.Name x p) "pop" X.env (eval (.Name x p) X.env) = eval (.Name x p) X.env)
    (hline : (apos.endLine == cpos.line) = true) (hs : ∀ X, InC c X → swapsWith (.Call (.Attribute (.Name x p) "pop" apos) [] [] cpos) none pos.line X.env = pure false) :
    DS c (.Expr (.Call (.Attribute (.Name x p) "pop" apos) [] [] cpos) pos) (sPop i) :=
  ⟨_, fun X hX => ps_expr (by
    have h := pe_bm0 (cpos := cpos) (apos := apos) PySem.F.plainAttrs_list PySem.F.slot_list_pop PySem.F.type_list_pop (hm_pop (X := X)) (pe_var (pos := p) (i := i) (by rw [hX.N]; exact hN) (by rw [hX.sc]; exact hv) hd hcd) (hbase X hX) hline
    rw [hX.K] at h
    exact h) (hs X hX), sv_pop⟩
theorem popm (i : Nat) {x : Str} {p apos cpos : Pos} (hN : c.N[i]? = some x := by rfl) (hv : Vis c.sc x := by first | exact Or.inl rfl | exact Or.inr (Or.inl rfl) | exact Or.inr (Or.inr rfl)) (hd : (x == ("__debug__" : Str)) = false := by decide) (hcd : (x == ("__classdict__" : Str)) = false := by decide)
    (hbase : ∀ X, InC c X → attributeBase (.Name x p) "pop" X.env (eval (.Name x p) X.env) = eval (.Name x p) X.env := by exact fun _ _ => rfl)
    (hline : (apos.endLine == cpos.line) = true := by rfl) (hs : ∀ X, InC c X → swapsWith (.Call (.Attribute (.Name x p) "pop" apos) [] [] cpos) none pos.line X.env = pure false := by exact fun _ _ => rfl) :
    DS c (.Expr (.Call (.Attribute (.Name x p) "pop" apos) [] [] cpos) pos) (sPop i) := ds_pop hN hv hd hcd hbase hline hs
@[simp ↓] theorem w_pop {ρ : Env'} {S : Sto} {Q : Out → Prop} {i : Nat} : W (sPop i ρ S) Q = (match ρ[i]? with
  | some (some (.o m)) => W (popD m) fun m' => Q (.nx (ρ.set i (some (.o m'))) S)
  | some (some (.c k)) => (match S[k]? with | some (some (.d m)) => W (popD m) fun m' => Q (.nx ρ (S.set k (some (.d m')))) | _ => False)
  | _ => False) := by
  unfold sPop
  split
  · simp only [W_bind, W_some]
  · split
    · simp only [W_bind, W_some]
    · exact W_none
  · exact W_none
end
end DL
namespace DL
open PySem PySem.Spec L2
open PyProof.Rows hiding St
/-! ### the law's sameness on any data -/
open Classical in
noncomputable def eqB (a b : PyData) : Bool := if a = b then true else false
theorem eqB_iff {a b : PyData} : eqB a b = true ↔ a = b := by
  unfold eqB
  split <;> simp [*]
theorem eqB_eq {a b : PyData} {k : Bool} (h : k = true ↔ a = b) : eqB a b = k := by
  rw [Bool.eq_iff_iff, eqB_iff, h]
theorem eqB_ne {a b : PyData} (h : a ≠ b) : eqB a b = false := eqB_eq (iff_of_false Bool.false_ne_true h)
@[simp] theorem eqB_self {a : PyData} : eqB a a = true := eqB_iff.mpr rfl
/-- data without a dict, down to the depth -/
def okA : Nat → PyData → Bool
  | 0, _ => true
  | _ + 1, .dict _ => false
  | n + 1, .tuple xs => xs.all (okA n)
  | _ + 1, _ => true
theorem eqB_tup {xs ys : List PyData} (h : xs.length = ys.length) : eqB (.tuple xs) (.tuple ys) = ((List.range ys.length).filter fun k => !eqB (xs.getD k .none) (ys.getD k .none)).isEmpty := by
  refine eqB_eq ?_
  rw [List.isEmpty_iff, List.filter_eq_nil_iff]
  constructor
  · intro q
    congr 1
    refine List.ext_getElem h fun k h1 h2 => ?_
    have := q k (by simp; omega)
    rw [Bool.not_eq_true', Bool.not_eq_false, eqB_iff] at this
    simpa [h1, h2] using this
  · intro e
    injection e with e
    subst e
    intro k _
    simp
theorem alike_any : ∀ {n : Nat} {due told : PyData}, okS n due = true → okA n told = true → f__law_alike n [told, due] = some (.bool (eqB told due))
  | 0, d, _, h, _ => by cases h
  | n + 1, .tuple ys, told, h, h2 => by
    suffices H : W (f__law_alike (n + 1) [told, .tuple ys]) fun q => q = .bool (eqB told (.tuple ys)) from W_out H
    have h : (decide (ys.length ≤ 100000) && ys.all (okS n)) = true := h
    rw [Bool.and_eq_true, List.all_eq_true, decide_eq_true_eq] at h
    show W (runP 2 3 (b__law_alike (f__law_alike n)) _) _
    unfold b__law_alike
    rw [w_runP]
    have hz : (sizeLine : Nat) = 16777216 := sizeLine_eq
    cases told with
    | tuple xs =>
      have h2 : xs.all (okA n) = true := h2
      rw [List.all_eq_true] at h2
      by_cases hl : xs.length = ys.length
      · simp [hl]
        refine ⟨by omega, ?_⟩
        rw [rng_0]
        refine w_compL (fun k => !eqB (xs.getD k .none) (ys.getD k .none)) (fun k : Nat => .int k) rfl (fun k hk => ?_) ?_
        · simp at hk
          have k1 : k < xs.length := by omega
          have e1 := alike_any (n := n) (due := ys[k]) (told := xs[k]) (h.2 _ (List.getElem_mem hk)) (h2 _ (List.getElem_mem k1))
          simp [atI_pos, hk, k1, e1]
        · rw [eqB_tup hl]
          generalize ((List.range ys.length).filter fun k => !eqB (xs.getD k .none) (ys.getD k .none)) = F
          simp
      · have : eqB (.tuple xs) (.tuple ys) = false := eqB_ne fun e => hl (by injection e with e; rw [e])
        rw [this]
        simp [hl]
        omega
    | dict _ => cases h2
    | _ => rw [eqB_ne (by intro e; cases e)]; simp
  | n + 1, .list _, _, h, _ => by cases h
  | n + 1, .dict _, _, h, _ => by cases h
  | n + 1, .none, told, _, h2 => by
    suffices H : W (f__law_alike (n + 1) [told, .none]) fun q => q = .bool (eqB told .none) from W_out H
    show W (runP 2 3 (b__law_alike (f__law_alike n)) _) _
    unfold b__law_alike
    rw [w_runP]
    cases told with
    | none => simp
    | dict _ => cases h2
    | _ => rw [eqB_ne (by intro e; cases e)]; simp
  | n + 1, .bool b, told, _, h2 => by
    suffices H : W (f__law_alike (n + 1) [told, .bool b]) fun q => q = .bool (eqB told (.bool b)) from W_out H
    show W (runP 2 3 (b__law_alike (f__law_alike n)) _) _
    unfold b__law_alike
    rw [w_runP]
    cases told with
    | bool c =>
      rw [show eqB (.bool c) (.bool b) = (c == b) from eqB_eq (by simp)]
      simp
    | dict _ => cases h2
    | _ => rw [eqB_ne (by intro e; cases e)]; simp
  | n + 1, .int b, told, _, h2 => by
    suffices H : W (f__law_alike (n + 1) [told, .int b]) fun q => q = .bool (eqB told (.int b)) from W_out H
    show W (runP 2 3 (b__law_alike (f__law_alike n)) _) _
    unfold b__law_alike
    rw [w_runP]
    cases told with
    | int c =>
      rw [show eqB (.int c) (.int b) = decide (c = b) from eqB_eq (by simp)]
      simp
    | dict _ => cases h2
    | _ => rw [eqB_ne (by intro e; cases e)]; simp
  | n + 1, .str b, told, _, h2 => by
    suffices H : W (f__law_alike (n + 1) [told, .str b]) fun q => q = .bool (eqB told (.str b)) from W_out H
    show W (runP 2 3 (b__law_alike (f__law_alike n)) _) _
    unfold b__law_alike
    rw [w_runP]
    cases told with
    | str c =>
      rw [show eqB (.str c) (.str b) = (c == b) from eqB_eq (by simp)]
      simp
    | dict _ => cases h2
    | _ => rw [eqB_ne (by intro e; cases e)]; simp
/-! loops and comprehensions over data as it is -/
theorem forL_ixD {g : Gv} {b : Sv} {Q : Out → Prop} {xs : List PyData} {ρ : Env'} {S : Sto} (I : Nat → Env' → Sto → Prop)
    (h : ∀ k (hk : k < xs.length), ∀ ρ S, I k ρ S → W (g xs[k] ρ) fun ρ1 => W (b ρ1 S) fun o => match o with | .nx ρ' S' => I (k + 1) ρ' S' | .ct ρ' S' => I (k + 1) ρ' S' | .bk ρ' S' => Q (.nx ρ' S') | .rt d S' => Q (.rt d S'))
    (hn : ∀ ρ S, I xs.length ρ S → Q (.nx ρ S)) (h0 : I 0 ρ S) : W (forL g b xs ρ S) Q := by
  have := forL_ix (F := id) (g := g) (b := b) (Q := Q) (xs := xs) (ρ := ρ) (S := S) I h hn h0
  rwa [List.map_id] at this
theorem w_compAD {g : Gv} {f : Ev} {ρ : Env'} {S : Sto} {Q : List PyData × Sto → Prop} (r : PyData → PyData) {xs : List PyData} (h : ∀ x ∈ xs, W (g x ρ) fun ρ1 => W (f ρ1 S) fun y => y = (.p (r x), S))
    (q : Q (xs.map r, S)) : W (compL g tYes f ρ xs S) Q := by
  have := w_compA (F := id) (g := g) (f := f) (ρ := ρ) (S := S) (Q := Q) r h q
  rwa [List.map_id] at this
theorem w_compLD {g : Gv} {t : Tv} {f : Ev} {ρ : Env'} {S : Sto} {Q : List PyData × Sto → Prop} (p : PyData → Bool) (r : PyData → PyData) {xs ys : List PyData} (e : xs.filter p = ys) (h : ∀ x ∈ xs, W (g x ρ) fun ρ1 => W (t ρ1 S) fun b => b = (p x, S) ∧ (p x = true → W (f ρ1 S) fun y => y = (.p (r x), S)))
    (q : Q (ys.map r, S)) : W (compL g t f ρ xs S) Q := by
  have := w_compL (F := id) (g := g) (t := t) (f := f) (ρ := ρ) (S := S) (Q := Q) p r e h q
  rwa [List.map_id] at this
/-! slices -/
section
variable {α : Type} {xs : List α} {x : α} {k : Nat}
theorem cut_hi : cut xs none (some (k : Int)) = xs.take k := by
  unfold cut
  rw [HT.sIx_nat]
  show (xs.drop 0).take (min k xs.length - 0) = _
  rw [List.drop_zero, Nat.sub_zero]
  rcases Nat.le_total xs.length k with h | h
  · rw [Nat.min_eq_right h, List.take_length, List.take_of_length_le h]
  · rw [Nat.min_eq_left h]
theorem cut_lo : cut xs (some (k : Int)) none = xs.drop k := by
  unfold cut
  rw [HT.sIx_nat]
  show (xs.drop (min k xs.length)).take (xs.length - min k xs.length) = _
  rcases Nat.le_total xs.length k with h | h
  · rw [Nat.min_eq_right h, List.drop_length, List.drop_of_length_le h, List.take_nil]
  · rw [Nat.min_eq_left h, List.take_of_length_le (by simp)]
theorem cut_lo1 : cut xs (some ((k : Int) + 1)) none = xs.drop (k + 1) := cut_lo (k := k + 1)
theorem cut_hi1 : cut xs none (some ((k : Int) + 1)) = xs.take (k + 1) := cut_hi (k := k + 1)
theorem cut_one : cut xs (some 1) none = xs.drop 1 := cut_lo (k := 1)
theorem cut_1 : cut xs none (some 1) = xs.take 1 := cut_hi (k := 1)
theorem cut_m1 : cut xs none (some (-1)) = xs.take (xs.length - 1) := by
  unfold cut
  have e : HT.sIx xs.length xs.length (some (-1)) = xs.length - 1 := by
    unfold HT.sIx
    simp
    omega
  rw [e]
  rfl
theorem cutD_cut {xs : List PyData} {lo hi : Option Int} : cutD xs lo hi = cut xs lo hi := rfl
theorem cutD_tail {x : PyData} {xs : List PyData} : cutD (x :: xs) (some 1) none = xs := cut_one
theorem take_set_drop {o : α} (hk : k < xs.length) : xs.take k ++ o :: xs.drop (k + 1) = xs.set k o := by
  rw [List.set_eq_take_append_cons_drop, if_pos hk]
end
@[simp] theorem listL_t {xs : List PyData} : listL [.tuple xs] = some xs := rfl
@[simp] theorem listL_l {xs : List PyData} : listL [.list xs] = some xs := rfl
/-! a loop over a told row -/
theorem w_forL0 {g : Gv} {b : Sv} {ρ : Env'} {S : Sto} {Q : Out → Prop} : W (forL g b [] ρ S) Q = Q (.nx ρ S) := W_some
theorem w_forL1 {g : Gv} {b : Sv} {x : PyData} {xs : List PyData} {ρ : Env'} {S : Sto} {Q : Out → Prop} : W (forL g b (x :: xs) ρ S) Q = W (g x ρ) fun ρ1 => W (b ρ1 S) fun o => match o with
    | .nx ρ' S' => W (forL g b xs ρ' S') Q
    | .ct ρ' S' => W (forL g b xs ρ' S') Q
    | .bk ρ' S' => Q (.nx ρ' S')
    | .rt d S' => Q (.rt d S') := by
  rw [forL, W_bind]
  congr; funext ρ1
  rw [W_bind]
  congr; funext o
  cases o <;> first | rfl | exact W_some
/-! a loop that appends to a list -/
theorem forL_flat {α β : Type} {F : α → PyData} {g : Gv} {b : Sv} {Q : Out → Prop} {S : Sto} (f : α → List β) (E : List β → Env') (M : Nat) {xs : List α} {acc0 : List β}
    (hM : ∀ x ∈ xs, (f x).length ≤ M)
    (h : ∀ x ∈ xs, ∀ acc, acc.length ≤ acc0.length + xs.length * M → W (g (F x) (E acc)) fun ρ1 => W (b ρ1 S) fun o => o = .nx (E (acc ++ f x)) S)
    (hq : Q (.nx (E (acc0 ++ xs.flatMap f)) S)) : W (forL g b (xs.map F) (E acc0) S) Q := by
  refine forL_ix (F := F) (fun k ρ S' => S' = S ∧ ρ = E (acc0 ++ (xs.take k).flatMap f)) (fun k hk ρ S' hi => ?_) (fun ρ S' hi => ?_) ⟨rfl, by simp⟩
  · obtain ⟨rfl, rfl⟩ := hi
    have hb : ((xs.take k).flatMap f).length ≤ xs.length * M := by
      have : ∀ ys : List α, (∀ y ∈ ys, (f y).length ≤ M) → (ys.flatMap f).length ≤ ys.length * M := fun ys => by
        induction ys with
        | nil => intro _; simp
        | cons y ys ih =>
          intro hy
          have h1 := ih fun z hz => hy z (List.mem_cons_of_mem _ hz)
          have h2 := hy y List.mem_cons_self
          rw [List.flatMap_cons, List.length_append, List.length_cons, Nat.succ_mul]
          omega
      have h1 := this (xs.take k) fun y hy => hM y (List.mem_of_mem_take hy)
      have h2 : (xs.take k).length * M ≤ xs.length * M := Nat.mul_le_mul_right _ (by rw [List.length_take]; omega)
      omega
    refine (h xs[k] (List.getElem_mem hk) _ (by rw [List.length_append]; omega)).mono fun ρ1 w => w.mono fun o ho => ?_
    subst ho
    refine ⟨rfl, ?_⟩
    rw [List.take_add_one, List.getElem?_eq_getElem hk, List.flatMap_append]
    simp
  · obtain ⟨rfl, rfl⟩ := hi
    rw [List.take_length]
    exact hq
end DL
namespace DL
open PySem PySem.Spec L2 PySem.W PyProof.Rows
/-! ### set(xs) -/
abbrev newSet (w : World) : Obj := { cls := .type "set", dict := none, data := .set #[] 0 (.fresh 0 0 (!w.params.followText "set-order")) }
section
variable {P : Program} {w : World} {A : Around} {E : Value → Shared → Prop} {s : Shared}
theorem upd_loop {I : Addr} {fp wr : List Addr} {G : Array GenState → Array GenState → Prop} {n : Nat} {Pv : Nat → Value → Prop} {St : Nat → Shared → Prop} {R : Result → Shared → Prop}
    (W : WalksS P w A.in1 I fp wr G n Pv St) (S : Addr) (hSf : S ∉ fp) (h0 : Heap) (hS0 : h0.get? S = none) (hw0 : ∀ b ∈ wr, h0.get? b = none) (J : Nat → Heap → Prop)
    (stab : ∀ i h h', J i h → (∀ o, h.get? S = some o → h'.get? S = some o) → (∀ b o, h0.get? b = some o → h'.get? b = some o) → J i h')
    (step : ∀ (i : Nat) (v : Value) (s' : Shared) (Q' : Bool → Shared → Prop) (E' : Value → Shared → Prop), Pv i v → J i s'.heap → (∀ b o, h0.get? b = some o → s'.heap.get? b = some o) →
      (∀ b h' tk, s'.toks ≤ tk → Heap.SameBut S s'.heap h' → J (i + 1) h' → Q' b { s' with heap := h', toks := tk }) → wpAny (model P w) A.in1 (setAdd S v) Q' E' s') :
    ∀ (k i : Nat) (s : Shared), n - i = k → i ≤ n → St i s → (∀ b o, h0.get? b = some o → s.heap.get? b = some o) → J i s.heap →
      (∀ s', Moved (S :: wr) G s s' → J n s'.heap → (∀ b o, h0.get? b = some o → s'.heap.get? b = some o) → R (.ok (.ret .none)) s') →
      codeAny (model P w) A (.builtin "set.update.loop" ⟨[.ref S, .ref I], []⟩) R s := by
  have hSw : S ∉ wr := fun h => hSf (W.sub _ h)
  have hsub : ∀ b ∈ wr, b ∈ S :: wr := fun b hb => List.mem_cons_of_mem _ hb
  have keepM : ∀ {s s' : Shared}, Moved wr G s s' → (∀ b o, h0.get? b = some o → s.heap.get? b = some o) → ∀ b o, h0.get? b = some o → s'.heap.get? b = some o := fun hm hkp b o e =>
    hm.heap b o (fun hb => by rw [hw0 b hb] at e; cases e) (hkp b o e)
  intro k
  induction k with
  | zero =>
    intro i s hk hi hst hkp hJ hR
    obtain rfl : i = n := by omega
    refine codeAny_builtin F.entry_set_update_loop ?_
    rw [Around.under_plainId F.plain_set_update_loop _]
    show wpAny _ A.in1 (pyNext (.ref I) >>= _) _ _ s
    refine wpAny_bind (W.done s _ _ hst fun s' hm => ?_)
    show wpAny _ A.in1 (ret Value.none) _ _ s'
    exact wpAny_pure (hR s' (hm.mono hsub) (stab _ _ _ hJ (fun o e => hm.heap S o hSw e) (keepM hm hkp)) (keepM hm hkp))
  | succ k ih =>
    intro i s hk hi hst hkp hJ hR
    have hlt : i < n := by omega
    refine codeAny_builtin F.entry_set_update_loop ?_
    rw [Around.under_plainId F.plain_set_update_loop _]
    show wpAny _ A.in1 (pyNext (.ref I) >>= _) _ _ s
    refine wpAny_bind (W.item i s _ _ hlt hst fun v s' hP hst' hm => ?_)
    have hkp' := keepM hm hkp
    have hJ' := stab _ _ s'.heap hJ (fun o e => hm.heap S o hSw e) hkp'
    show wpAny _ A.in1 (holding [v] (setAdd S v) >>= _) _ _ s'
    refine wpAny_bind (wpAny_holding (step i v s' _ _ hP hJ' hkp' fun b h' tk htk hsb hJ2 => ?_))
    have hkp2 : ∀ b o, h0.get? b = some o → h'.get? b = some o := fun b o e => (hsb.2 b (fun z => by rw [z, hS0] at e; cases e)).trans (hkp' b o e)
    refine wpAny_pure ⟨plainId_quiet F.plain_set_update_loop _, ih (i + 1) _ (by omega) hlt (W.frame _ s' _ _ hst' htk fun b hb o e => ?_) hkp2 hJ2 fun s'' hm'' hJ'' hkp'' => ?_⟩
    · rw [hsb.2 b (fun h : b = S => hSf (by rw [← h]; exact hb))]; exact e
    · refine hR s'' (Moved.trans W.gtrans ((hm.mono hsub).then_heap htk fun b o hb e => ?_) hm'') hJ'' hkp''
      rw [hsb.2 b (fun h : b = S => hb (by rw [h]; exact List.mem_cons_self))]; exact e

set_option maxRecDepth 100000 in
set_option maxHeartbeats 3200000 in
/-- set(xs) of a KIND: item by item, whatever is known of the set (J) -/
theorem call_set_lst {l : Addr} {items : Array Value} {Q : Value → Shared → Prop} (hh : A.handled = none) (hl : s.heap.IsList l items) (J : Nat → Heap → Prop)
    (stab : ∀ i h h', J i h → (∀ o, h.get? s.heap.objs.size = some o → h'.get? s.heap.objs.size = some o) → (∀ b o, s.heap.get? b = some o → h'.get? b = some o) → J i h')
    (start : ∀ h', h'.get? s.heap.objs.size = some (newSet w) → (∀ b o, s.heap.get? b = some o → h'.get? b = some o) → J 0 h')
    (step : ∀ (A' : Around) (i : Nat) (v : Value) (s' : Shared) (Q' : Bool → Shared → Prop) (E' : Value → Shared → Prop), A'.units ≤ A.units + 3 → items[i]? = some v → J i s'.heap → (∀ b o, s.heap.get? b = some o → s'.heap.get? b = some o) →
      (∀ b h' tk, s'.toks ≤ tk → Heap.SameBut s.heap.objs.size s'.heap h' → J (i + 1) h' → Q' b { s' with heap := h', toks := tk }) → wpAny (model P w) A' (setAdd s.heap.objs.size v) Q' E' s')
    (h : ∀ (h' : Heap) (tk : Nat), J items.size h' → (∀ b o, s.heap.get? b = some o → h'.get? b = some o) → Q (.ref s.heap.objs.size) { s with heap := h', toks := tk }) :
    wpAny (model P w) A (call (.type "set") [.ref l]) Q E s := by
  obtain ⟨c, tl, hmro⟩ := F.called_set.mro
  have hmade := F.called_set.made
  have hsub := F.called_set.sub
  refine wpAny_call (codeAny_of_tree ?_)
  show wpAny _ _ (callAny (.type "set") _) _ _ _
  refine wpAny_pure ⟨Code.quiet_builtin _ (by decide +kernel), codeAny_builtin F.entry_type_call ?_⟩
  rw [Around.under_plain (weight_type_call_type "set" [.ref l] []) rfl]
  have h1 := F.called_set.notType
  have h2 := F.called_set.canCreate
  have hct := F.typeCall_set_1 (.ref l)
  repeat (any_goals (first | assumption | wp_step))
  refine codeAny_mono (code_set_led1 (.ref l) (E := E) (Q₁ := fun obj s₁ => obj = .ref s.heap.objs.size ∧ s₁ = { s with heap := s.heap.push (newSet w) }) ⟨rfl, rfl⟩) fun r s₁ hr => ?_
  cases r with
  | error e => exact hr
  | ok fl =>
    cases fl with
    | ret obj =>
      obtain ⟨rfl, rfl⟩ := hr
      have hS : (s.heap.push (newSet w)).get? s.heap.objs.size = some (newSet w) := Heap.get?_push_size _ rfl
      have hT : Shared.TypeIs { s with heap := s.heap.push (newSet w) } (.ref s.heap.objs.size) "set" := ⟨_, hS, rfl⟩
      have hli := F.called_set.init.lookup
      have hbi := F.called_set.init.bind (.ref s.heap.objs.size)
      repeat (any_goals (first | assumption | wp_step))
      refine codeAny_mono (codeAny_call_builtin (R := wants (fun r s₂ => r = .none ∧ ∃ h' tk, s₂ = { s with heap := h', toks := tk } ∧ J items.size h' ∧ (∀ b o, s.heap.get? b = some o → h'.get? b = some o)) E) F.called_set.init.plain F.entry_set_init (check_set_init_1 hT ?_)) fun r₂ s₂ hr₂ => ?_
      · obtain ⟨⟨oc, od, ot, os⟩, hol, hcl, nl, hdl⟩ := hl
        simp only at hcl hdl
        subst hcl hdl
        have hol' : (s.heap.push (newSet w)).get? l = some { cls := .type "list", dict := od, data := .seq items nl, slots := os } := Heap.get?_push_of_some _ hol
        have hsls := F.sub_list_set
        have hslf := F.sub_list_frozenset
        have hne : (Value.type "list" == Value.type "dict") = false := by decide
        have hl1 : (s.heap.push (newSet w)).IsList l items := ⟨_, hol', rfl, nl, rfl⟩
        unfold Builtin.«set.__init__» noKeywords Builtin.Frozenset.updateFrom
        generalize hPI : pyIter = PI
        wp_walk
        subst hPI
        refine wpAny_pyIter_list hl1 ?_
        refine wpAny_bind (wpAny_runValue ?_)
        have hlS : l < s.heap.objs.size := Heap.lt_size hol
        have hz1 : (s.heap.push (newSet w)).objs.size = s.heap.objs.size + 1 := Heap.size_push ..
        have hneI : l ≠ (s.heap.push (newSet w)).objs.size := by rw [hz1]; exact Nat.ne_of_lt (Nat.lt_succ_of_lt hlS)
        have hSf : s.heap.objs.size ∉ [(s.heap.push (newSet w)).objs.size, l] := by
          rw [hz1]
          simp only [List.mem_cons, List.not_mem_nil, or_false, not_or]
          exact ⟨Nat.ne_of_lt (Nat.lt_succ_self _), Nat.ne_of_gt hlS⟩
        have none_of : ∀ b, s.heap.objs.size ≤ b → s.heap.get? b = none := fun b hb => by
          cases q : s.heap.get? b with
          | none => rfl
          | some o => exact absurd (Nat.lt_of_lt_of_le (Heap.lt_size q) hb) (Nat.lt_irrefl _)
        have old : ∀ b o, s.heap.get? b = some o → ((s.heap.push (newSet w)).push { cls := .type "list_iterator", data := .fields #[.ref l, .int 0 0] }).get? b = some o := fun b o e => Heap.get?_push_of_some _ (Heap.get?_push_of_some _ e)
        refine upd_loop ((Walks.list (A := A.in1.in1.in1) (by simp [hh]) _ l hneI items).toS) s.heap.objs.size hSf s.heap (none_of _ (Nat.le_refl _)) (fun b hb => none_of b (by
            rw [List.mem_singleton.mp hb, hz1]
            omega)) J stab (fun i v s' Q' E' hv hJ hk hQ => step _ i v s' Q' E' (by simp [Around.in1]) hv hJ hk hQ) (items.size - 0) 0 _ (by omega) (Nat.zero_le _)
          ⟨⟨_, Heap.get?_push_size _ rfl, rfl, rfl⟩, (hl1.push _)⟩ old (start _ (Heap.get?_push_of_some _ hS) old) ?hR
        case hR =>
          intro s' hm hJ hkp
          obtain ⟨h', g2, d', tk', os'⟩ := s'
          have eg : g2 = s.gens := hm.gens
          have ed : d' = s.drawn := hm.drawn
          have eo : os' = s.os := hm.os
          subst eg ed eo
          show wpAny _ _ _ _ _ _
          refine wpAny_pure ?_
          show wpAny _ _ (ret Value.none) _ _ _
          exact wpAny_pure ⟨rfl, h', tk', rfl, hJ, hkp⟩
      · cases r₂ with
        | error e => exact hr₂
        | ok fl₂ =>
          cases fl₂ with
          | ret r =>
            obtain ⟨rfl, h', tk, rfl, hJ, hk'⟩ := hr₂
            repeat (any_goals (first | assumption | wp_step))
            exact h _ _ hJ hk'
          | _ => exact hr₂.elim
    | _ => exact hr.elim

set_option maxRecDepth 100000 in
set_option maxHeartbeats 3200000 in
/-- set(xs) of a KIND: item by item, whatever is known of the set (J) -/
theorem call_set_tup {l : Addr} {items : Array Value} {Q : Value → Shared → Prop} (hh : A.handled = none) (hl : s.heap.IsTuple l items) (J : Nat → Heap → Prop)
    (stab : ∀ i h h', J i h → (∀ o, h.get? s.heap.objs.size = some o → h'.get? s.heap.objs.size = some o) → (∀ b o, s.heap.get? b = some o → h'.get? b = some o) → J i h')
    (start : ∀ h', h'.get? s.heap.objs.size = some (newSet w) → (∀ b o, s.heap.get? b = some o → h'.get? b = some o) → J 0 h')
    (step : ∀ (A' : Around) (i : Nat) (v : Value) (s' : Shared) (Q' : Bool → Shared → Prop) (E' : Value → Shared → Prop), A'.units ≤ A.units + 3 → items[i]? = some v → J i s'.heap → (∀ b o, s.heap.get? b = some o → s'.heap.get? b = some o) →
      (∀ b h' tk, s'.toks ≤ tk → Heap.SameBut s.heap.objs.size s'.heap h' → J (i + 1) h' → Q' b { s' with heap := h', toks := tk }) → wpAny (model P w) A' (setAdd s.heap.objs.size v) Q' E' s')
    (h : ∀ (h' : Heap) (tk : Nat), J items.size h' → (∀ b o, s.heap.get? b = some o → h'.get? b = some o) → Q (.ref s.heap.objs.size) { s with heap := h', toks := tk }) :
    wpAny (model P w) A (call (.type "set") [.ref l]) Q E s := by
  obtain ⟨c, tl, hmro⟩ := F.called_set.mro
  have hmade := F.called_set.made
  have hsub := F.called_set.sub
  refine wpAny_call (codeAny_of_tree ?_)
  show wpAny _ _ (callAny (.type "set") _) _ _ _
  refine wpAny_pure ⟨Code.quiet_builtin _ (by decide +kernel), codeAny_builtin F.entry_type_call ?_⟩
  rw [Around.under_plain (weight_type_call_type "set" [.ref l] []) rfl]
  have h1 := F.called_set.notType
  have h2 := F.called_set.canCreate
  have hct := F.typeCall_set_1 (.ref l)
  repeat (any_goals (first | assumption | wp_step))
  refine codeAny_mono (code_set_led1 (.ref l) (E := E) (Q₁ := fun obj s₁ => obj = .ref s.heap.objs.size ∧ s₁ = { s with heap := s.heap.push (newSet w) }) ⟨rfl, rfl⟩) fun r s₁ hr => ?_
  cases r with
  | error e => exact hr
  | ok fl =>
    cases fl with
    | ret obj =>
      obtain ⟨rfl, rfl⟩ := hr
      have hS : (s.heap.push (newSet w)).get? s.heap.objs.size = some (newSet w) := Heap.get?_push_size _ rfl
      have hT : Shared.TypeIs { s with heap := s.heap.push (newSet w) } (.ref s.heap.objs.size) "set" := ⟨_, hS, rfl⟩
      have hli := F.called_set.init.lookup
      have hbi := F.called_set.init.bind (.ref s.heap.objs.size)
      repeat (any_goals (first | assumption | wp_step))
      refine codeAny_mono (codeAny_call_builtin (R := wants (fun r s₂ => r = .none ∧ ∃ h' tk, s₂ = { s with heap := h', toks := tk } ∧ J items.size h' ∧ (∀ b o, s.heap.get? b = some o → h'.get? b = some o)) E) F.called_set.init.plain F.entry_set_init (check_set_init_1 hT ?_)) fun r₂ s₂ hr₂ => ?_
      · obtain ⟨⟨oc, od, ot, os⟩, hol, hcl, nl, hdl⟩ := hl
        simp only at hcl hdl
        subst hcl hdl
        have hol' : (s.heap.push (newSet w)).get? l = some { cls := .type "tuple", dict := od, data := .seq items nl, slots := os } := Heap.get?_push_of_some _ hol
        have hsls := F.sub_tuple_set
        have hslf := F.sub_tuple_frozenset
        have hne : (Value.type "tuple" == Value.type "dict") = false := by decide
        have hl1 : (s.heap.push (newSet w)).IsTuple l items := ⟨_, hol', rfl, nl, rfl⟩
        unfold Builtin.«set.__init__» noKeywords Builtin.Frozenset.updateFrom
        generalize hPI : pyIter = PI
        wp_walk
        subst hPI
        refine wpAny_pyIter_tuple hl1 ?_
        refine wpAny_bind (wpAny_runValue ?_)
        have hlS : l < s.heap.objs.size := Heap.lt_size hol
        have hz1 : (s.heap.push (newSet w)).objs.size = s.heap.objs.size + 1 := Heap.size_push ..
        have hneI : l ≠ (s.heap.push (newSet w)).objs.size := by rw [hz1]; exact Nat.ne_of_lt (Nat.lt_succ_of_lt hlS)
        have hSf : s.heap.objs.size ∉ [(s.heap.push (newSet w)).objs.size, l] := by
          rw [hz1]
          simp only [List.mem_cons, List.not_mem_nil, or_false, not_or]
          exact ⟨Nat.ne_of_lt (Nat.lt_succ_self _), Nat.ne_of_gt hlS⟩
        have none_of : ∀ b, s.heap.objs.size ≤ b → s.heap.get? b = none := fun b hb => by
          cases q : s.heap.get? b with
          | none => rfl
          | some o => exact absurd (Nat.lt_of_lt_of_le (Heap.lt_size q) hb) (Nat.lt_irrefl _)
        have old : ∀ b o, s.heap.get? b = some o → ((s.heap.push (newSet w)).push { cls := .type "tuple_iterator", data := .fields #[.ref l, .int 0 0] }).get? b = some o := fun b o e => Heap.get?_push_of_some _ (Heap.get?_push_of_some _ e)
        refine upd_loop ((Walks.tuple (A := A.in1.in1.in1) (by simp [hh]) _ l hneI items).toS) s.heap.objs.size hSf s.heap (none_of _ (Nat.le_refl _)) (fun b hb => none_of b (by
            rw [List.mem_singleton.mp hb, hz1]
            omega)) J stab (fun i v s' Q' E' hv hJ hk hQ => step _ i v s' Q' E' (by simp [Around.in1]) hv hJ hk hQ) (items.size - 0) 0 _ (by omega) (Nat.zero_le _)
          ⟨⟨_, Heap.get?_push_size _ rfl, rfl, rfl⟩, (hl1.push _)⟩ old (start _ (Heap.get?_push_of_some _ hS) old) ?hR
        case hR =>
          intro s' hm hJ hkp
          obtain ⟨h', g2, d', tk', os'⟩ := s'
          have eg : g2 = s.gens := hm.gens
          have ed : d' = s.drawn := hm.drawn
          have eo : os' = s.os := hm.os
          subst eg ed eo
          show wpAny _ _ _ _ _ _
          refine wpAny_pure ?_
          show wpAny _ _ (ret Value.none) _ _ _
          exact wpAny_pure ⟨rfl, h', tk', rfl, hJ, hkp⟩
      · cases r₂ with
        | error e => exact hr₂
        | ok fl₂ =>
          cases fl₂ with
          | ret r =>
            obtain ⟨rfl, h', tk, rfl, hJ, hk'⟩ := hr₂
            repeat (any_goals (first | assumption | wp_step))
            exact h _ _ hJ hk'
          | _ => exact hr₂.elim
    | _ => exact hr.elim
end
end DL
namespace DL
open PySem PySem.Spec L2 PySem.W PyProof.Rows
/-! ### sets of ints and texts -/
def keyV (v : Value) : Key := match v with | .int k _ => .inl k | .str x _ => .inr x | _ => .inl 0
def GoodG (w : World) (e : Int × Value) : Prop := ∃ k, keyIs k e.2 = true ∧ e.1 = keyH w k
theorem keyV_of {k : Key} {v : Value} (h : keyIs k v = true) : keyV v = k := by
  rcases keyIs_shape h with ⟨i, t, rfl, rfl⟩ | ⟨x, t, rfl, rfl⟩ <;> rfl
theorem key_sc {k : Key} {v : Value} (h : keyIs k v = true) : v.scannable = true := by
  rcases keyIs_shape h with ⟨i, t, rfl, rfl⟩ | ⟨x, t, rfl, rfl⟩ <;> rfl
/-- the set at a: its members S, its table can be walked -/
def SetG (w : World) (h : Heap) (a : Addr) (S : Key → Bool) (n : Nat) : Prop :=
  ∃ o es ep t, h.get? a = some o ∧ o.ExactSet ∧ o.data = .set es ep t ∧ (∀ e ∈ es.toList, GoodG w e) ∧ (es.toList.map fun e => keyV e.2).Nodup ∧ (∀ k, S k = true ↔ k ∈ es.toList.map fun e => keyV e.2) ∧
    es.size < scanBound ∧ t.fits es.size = true ∧ es.size = n ∧ Ris t.place.toList ∧ (w.params.followText "set-order" = true ∨ t.led = true)
section
variable {P : Program} {w : World} {A : Around} {E : Value → Shared → Prop} {s : Shared} {a : Addr} {S : Key → Bool} {n : Nat}
theorem SetG.at {h h' : Heap} (R : SetG w h a S n) (k : ∀ o, h.get? a = some o → h'.get? a = some o) : SetG w h' a S n := by
  obtain ⟨o, es, ep, t, ho, r⟩ := R
  exact ⟨o, es, ep, t, k o ho, r⟩
theorem SetG.congr {h : Heap} {S' : Key → Bool} (R : SetG w h a S n) (e : ∀ k, S' k = S k) : SetG w h a S' n := by rw [show S' = S from funext e]; exact R
theorem goodG_elems {l : List (Int × Value)} (g : ∀ e ∈ l, GoodG w e) : ElemsOf (mixKind P w) l := fun e he => by
  obtain ⟨k, h1, h2⟩ := g e he
  exact ⟨⟨k, h1, h2⟩, key_sc h1⟩
theorem goodG_mem {l : List (Int × Value)} (g : ∀ e ∈ l, GoodG w e) (k : Key) : k ∈ (l.map fun e => keyV e.2) ↔ ∃ e ∈ l, (mixKind P w).is k e.2 = true := by
  rw [List.mem_map]
  constructor
  · rintro ⟨e, he, q⟩
    obtain ⟨k', h1, _⟩ := g e he
    rw [keyV_of h1] at q
    exact ⟨e, he, q ▸ h1⟩
  · rintro ⟨e, he, q⟩
    exact ⟨e, he, keyV_of q⟩
theorem setG_tail {g : Bool → Sem Unit} (hg : ∀ (b : Bool) (s₁ : Shared) (Q' : Unit → Shared → Prop), Q' () s₁ → wpAny (model P w) A (g b) Q' E s₁)
    {o : Obj} {es : Array (Int × Value)} {ep : Nat} {t : SetTable} (ho : s.heap.get? a = some o) (hex : o.ExactSet) (hd : o.data = .set es ep t)
    {es1 : Array (Int × Value)} {t2 : SetTable} {S' : Key → Bool} (g1 : ∀ e ∈ es1.toList, GoodG w e) (nd1 : (es1.toList.map fun e => keyV e.2).Nodup) (m1 : ∀ k, S' k = true ↔ k ∈ es1.toList.map fun e => keyV e.2)
    (hb1 : es1.size < scanBound) (hf2 : t2.fits es1.size = true) (hr : Ris t2.place.toList) (hl : w.params.followText "set-order" = true ∨ t2.led = true) {wasDummy : Bool} {R : Option Bool → Shared → Prop}
    (hR : ∀ h', Heap.SameBut a s.heap h' → SetG w h' a S' es1.size → R (some true) { s with heap := h' }) :
    wpAny (model P w) A (do
        storeSet a es1 t2
        if (!wasDummy && t2.tooFull) = true then do
            g (relayAll t2 es1 (SetTable.grown es1.size)).2.2
            storeSet a (relayAll t2 es1 (SetTable.grown es1.size)).1 (relayAll t2 es1 (SetTable.grown es1.size)).2.1
            pure (some true)
          else pure (some true)) R E s := by
  have hz1 := fits_of_scanBound hb1
  have ho1 := store_at (es' := es1) (t' := t2) ho hd
  have sb1 := Heap.SameBut.update s.heap a (Obj.putSet es1 t2)
  refine wpAny_bind (wpAny_storeSet_of ho hd ?_ hz1)
  split
  · have pm := relayAll_perm t2 es1 (SetTable.grown es1.size)
    have f1 := relayAll_fits t2 es1 (SetTable.grown es1.size)
    have f2 := relayAll_ris t2 es1 (SetTable.grown es1.size)
    have f3 := relayAll_led t2 es1 (SetTable.grown es1.size)
    revert pm f1 f2 f3
    generalize relayAll t2 es1 (SetTable.grown es1.size) = Z
    obtain ⟨es2, t3, gave⟩ := Z
    intro pm f1 f2 f3
    dsimp only at pm f1 f2 f3 ⊢
    have hsz : es2.size = es1.size := by rw [← Array.length_toList, pm.length_eq, Array.length_toList]
    have hb2 : es2.size < scanBound := hsz ▸ hb1
    refine wpAny_bind (hg _ _ _ (wpAny_bind (wpAny_storeSet_of ho1 rfl ?_ (fits_of_scanBound hb2))))
    exact wpAny_pure (hR _ (sb1.trans (Heap.SameBut.update _ a _)) ⟨_, es2, _, t3, store_at (es' := es2) (t' := t3) ho1 rfl, hex, rfl, fun e he => g1 e (pm.mem_iff.mp he), (pm.map fun e => keyV e.2).nodup_iff.mpr nd1,
      fun k => (m1 k).trans (pm.map fun e => keyV e.2).mem_iff.symm, hb2, f1, hsz, f2, hl.imp id fun z => f3.trans z⟩)
  · exact wpAny_pure (hR _ sb1 ⟨_, es1, _, t2, ho1, hex, rfl, g1, nd1, m1, hb1, hf2, rfl, hr, hl⟩)
theorem setG_add {k : Key} {v : Value} {Q : Bool → Shared → Prop} (hkey : keyIs k v = true) (R : SetG w s.heap a S n) (room : n + 1 < scanBound)
    (hQ : ∀ b h', Heap.SameBut a s.heap h' → SetG w h' a (fun j => S j || decide (j = k)) (if S k = true then n else n + 1) → Q b { s with heap := h' }) :
    wpAny (model P w) A (setAddHashed a v ((mixKind P w).hash k)) Q E s := by
  obtain ⟨o, es, ep, t, ho, hex, hd, g, nd, hm, hb, hf, hn, hr, hl⟩ := R
  have hkey' : (mixKind P w).is k v = true := hkey
  have hsc := key_sc hkey
  have hel : ElemsOf (mixKind P w) es.toList := goodG_elems g
  unfold setAddHashed setAddHashedIn
  refine wpAny_holding (wpAny_bind (wpAny_setState_of ho hd hf ?_))
  dsimp only
  rw [byScan_of hsc hb hel]
  simp only [↓reduceIte]
  unfold setAddByScan
  refine wpAny_bind (wpAny_bind (wpAny_rule (wpAny_bind (wpAny_setScan_of hkey' ho hd hf hel ?_))))
  cases hfi : List.findIdx? (fun e => (mixKind P w).is k e.2) es.toList with
  | some j =>
    dsimp only
    obtain ⟨hj, pj, _⟩ := List.findIdx?_eq_some_iff_getElem.mp hfi
    have hSk : S k = true := (hm k).2 ((goodG_mem (P := P) (w := w) g k).2 ⟨es.toList[j], List.getElem_mem hj, pj⟩)
    refine wpAny_pure (wpAny_pure (hQ _ s.heap (Heap.SameBut.refl a s.heap) ⟨o, es, ep, t, ho, hex, hd, g, nd, fun i => ?_, hb, hf, by rw [if_pos hSk]; exact hn, hr, hl⟩))
    rw [Bool.or_eq_true, decide_eq_true_eq, ← hm i]
    exact ⟨fun z => z.elim id (fun e => e ▸ hSk), .inl⟩
  | none =>
    dsimp only
    have hnk : k ∉ es.toList.map fun e => keyV e.2 := fun z => by
      obtain ⟨e, he, q⟩ := (goodG_mem (P := P) (w := w) g k).1 z
      have c := List.findIdx?_eq_none_iff.mp hfi e he
      rw [q] at c
      cases c
    have hSk : S k = false := Bool.eq_false_iff.mpr fun q => hnk ((hm k).1 q)
    have hgw : ∀ (b : Bool) (s₁ : Shared) (Q' : Unit → Shared → Prop), Q' () s₁ → wpAny (model P w) A (match b with | true => rule "set.scan.the-table-gave-way" | false => pure ()) Q' E s₁ :=
      fun b s₁ Q' q => by cases b <;> first | exact wpAny_pure q | exact wpAny_rule q
    have pm := layNew_perm t es ((mixKind P w).hash k) v
    have f1 := layNew_fits t es ((mixKind P w).hash k) v
    have f2 := layNew_ris t es ((mixKind P w).hash k) v hr
    have f3 := layNew_led t es ((mixKind P w).hash k) v
    revert pm f1 f2 f3
    generalize layNew t es ((mixKind P w).hash k) v = Z
    obtain ⟨es1, t1, wasDummy, gave⟩ := Z
    intro pm f1 f2 f3
    dsimp only at pm f1 f2 f3 ⊢
    rw [Array.toList_push] at pm
    have pc : es1.toList.Perm (((mixKind P w).hash k, v) :: es.toList) := pm.trans (List.perm_append_singleton _ _)
    have pk : (es1.toList.map fun e => keyV e.2).Perm (k :: es.toList.map fun e => keyV e.2) := by
      have q := pc.map fun e : Int × Value => keyV e.2
      rw [List.map_cons, keyV_of hkey] at q
      exact q
    have g1 : ∀ e ∈ es1.toList, GoodG w e := fun e he => by
      rcases List.mem_cons.mp (pc.mem_iff.mp he) with z | z
      · rw [z]; exact ⟨k, hkey, rfl⟩
      · exact g e z
    have nd1 : (es1.toList.map fun e => keyV e.2).Nodup := pk.nodup_iff.mpr (List.nodup_cons.mpr ⟨hnk, nd⟩)
    have m1 : ∀ i, (S i || decide (i = k)) = true ↔ i ∈ es1.toList.map fun e => keyV e.2 := fun i => by
      rw [Bool.or_eq_true, decide_eq_true_eq, hm i, pk.mem_iff, List.mem_cons]
      exact Or.comm
    have hsz : es1.size = n + 1 := by rw [← Array.length_toList, pc.length_eq, List.length_cons, Array.length_toList, hn]
    have hb1 : es1.size < scanBound := by rw [hsz]; exact room
    have hled : w.params.followText "set-order" = true ∨ t1.led = true := hl.imp id fun z => f3.trans z
    have fin : ∀ b h', Heap.SameBut a s.heap h' → SetG w h' a (fun j => S j || decide (j = k)) es1.size → Q b { s with heap := h' } := fun b h' sb r => by
      have q := hQ b h' sb
      rw [hSk] at q
      rw [hsz] at r
      exact q r
    refine wpAny_bind (hgw _ _ _ ?_)
    split
    · refine wpAny_bind ?_
      rw [hashByValue_scannable 8 hsc]
      refine wpAny_pure (setG_tail hgw ho hex hd g1 nd1 m1 hb1 ?_ ?_ ?_ ?_)
      · first | (split <;> first | exact f1 | exact SetTable.fits_plain_off f1) | exact f1
      · first | (split <;> exact f2) | exact f2
      · first | (split <;> exact hled) | exact hled
      · intro h' sb r; dsimp only; exact wpAny_pure (fin _ h' sb r)
    · refine wpAny_bind (wpAny_pure ?_)
      simp only [↓reduceIte]
      refine setG_tail hgw ho hex hd g1 nd1 m1 hb1 f1 f2 hled ?_
      intro h' sb r
      dsimp only
      exact wpAny_pure (fin _ h' sb r)
theorem setG_new {h : Heap} (ho : h.get? a = some (newSet w)) : SetG w h a (fun _ => false) 0 :=
  ⟨_, #[], 0, _, ho, ⟨rfl, rfl, rfl⟩, rfl, (fun e he => by simp at he), (by simp), (fun k => by simp), (by decide), (by rfl), rfl, List.Pairwise.nil, by
    show _ ∨ (!w.params.followText "set-order") = true
    cases w.params.followText "set-order"
    · exact .inr rfl
    · exact .inl rfl⟩
end
end DL
namespace DL
open PySem PySem.Spec L2
open PyProof.Rows hiding St
/-! ### set(xs) of keys, sorted(set(xs)), len(set(xs)) -/
/-- a set that can be walked -/
structure SetW (w : World) (h : Heap) (a : Addr) (es : Array (Int × Value)) (ep : Nat) (t : SetTable) : Prop where
  ob : ∃ o, h.get? a = some o ∧ o.ExactSet ∧ o.data = .set es ep t
  fits : t.fits es.size = true
  few : es.size < scanBound
  ris : Ris t.place.toList
  led : w.params.followText "set-order" = true ∨ t.led = true
theorem SetG.w {w : World} {h : Heap} {a : Addr} {S : Key → Bool} {n : Nat} (R : SetG w h a S n) : ∃ es ep t, SetW w h a es ep t ∧ (∀ e ∈ es.toList, GoodG w e) ∧ (es.toList.map fun e => keyV e.2).Nodup ∧ ∀ k, S k = true ↔ k ∈ es.toList.map fun e => keyV e.2 := by
  obtain ⟨o, es, ep, t, ho, hex, hd, g, nd, hm, hb, hf, hn, hr, hl⟩ := R
  exact ⟨es, ep, t, ⟨⟨o, ho, hex, hd⟩, hf, hb, hr, hl⟩, g, nd, hm⟩
theorem setTR_w {P : Program} {w : World} {h : Heap} {a : Addr} {L : List (Addr × List Int)} {es : Array (Int × Value)} {ep : Nat} {t : SetTable} (R : SetTR P w h a L es ep t) : SetW w h a es ep t :=
  ⟨R.ob, SetTR.fits (s := { heap := h }) R, by
    have e : es.size = L.length := by rw [← Array.length_toList, R.rows]; simp [rowsOf]
    have := R.few
    show es.size < 4096
    omega, R.tab.ris, R.led⟩
section
variable {X : Cx} {pins : List (Addr × Obj)} {σ : L2.St} {H : Hp} {s : Shared} {L : AdP}
theorem keys_list {ds : List PyData} (h : ds.all isKK = true) : ∃ ks : List Key, ds = ks.map keyD := by
  induction ds with
  | nil => exact ⟨[], rfl⟩
  | cons d ds ih =>
    rw [List.all_cons, Bool.and_eq_true] at h
    obtain ⟨k, rfl⟩ := isKK_key h.1
    obtain ⟨ks, rfl⟩ := ih h.2
    exact ⟨k :: ks, rfl⟩
theorem ints_list {ds : List PyData} (h : ds.all isIT = true) : ∃ ks : List (List Int), ds = ks.map fun ns => .tuple (ns.map .int) := by
  induction ds with
  | nil => exact ⟨[], rfl⟩
  | cons d ds ih =>
    rw [List.all_cons, Bool.and_eq_true] at h
    obtain ⟨k, rfl⟩ := isIT_ints h.1
    obtain ⟨ks, rfl⟩ := ih h.2
    exact ⟨k :: ks, rfl⟩
theorem vals_keys : ∀ {ks : List Key} {its : List Value}, Vals (ks.map kV) its → ∀ (i : Nat) (v : Value), its[i]? = some v → ∃ k, ks[i]? = some k ∧ keyIs k v = true
  | [], _, .nil, i, v, e => by simp at e
  | k :: ks, _, .cons r t, 0, v, e => by
    simp at e
    subst e
    refine ⟨k, rfl, ?_⟩
    cases k with
    | inl i => obtain ⟨tk, rfl⟩ := r; exact keyIs_int i tk
    | inr x => obtain ⟨tk, rfl⟩ := r; exact keyIs_str x tk
  | k :: ks, _, .cons r t, i + 1, v, e => by
    obtain ⟨k', h1, h2⟩ := vals_keys t i v (by simpa using e)
    exact ⟨k', by simpa using h1, h2⟩
theorem rel_key {k : Key} {v : Value} (h : keyIs k v = true) : RelV (kV k) v := by
  rcases keyIs_shape h with ⟨i, t, rfl, rfl⟩ | ⟨x, t, rfl, rfl⟩ <;> exact ⟨t, rfl⟩
theorem at_keyD {k : Key} : At H L (kV k) (keyD k) := by
  cases k with
  | inl i => exact .int i
  | inr x => exact .str x
theorem refs_ints : ∀ {xs : List V} {its : List Value} {ns : List (List Int)}, AtL H L xs (ns.map fun n => .tuple (n.map .int)) → Vals xs its → ∃ ks : List (Addr × List Int), ks.map (·.2) = ns ∧ its = ks.map (fun p => Value.ref p.1) ∧ ∀ p ∈ ks, At H L (.ref p.1) (.tuple (p.2.map .int)) ∧ H p.1 = some (.tup (p.2.map V.int))
  | _, _, [], .nil, .nil => ⟨[], rfl, rfl, fun p hp => by cases hp⟩
  | _, _, n :: ns, .cons a b, .cons r t => by
    obtain ⟨ks, e1, e2, h⟩ := refs_ints b t
    have a' := a
    cases a with
    | @tup c xs _ n1 h1 h2 =>
      cases r
      have ex := h2.inj_int
      subst ex
      exact ⟨(c, n) :: ks, by rw [List.map_cons, e1], by rw [List.map_cons, e2], fun p hp => by
        rcases List.mem_cons.mp hp with rfl | hp
        · exact ⟨a', h1⟩
        · exact h p hp⟩
abbrev AtE (H : Hp) (L : AdP) (v : Value) (d : PyData) : Prop := ∃ x, RelV x v ∧ At H L x d
open Classical in
theorem set_keys_out {w : World} {h : Heap} {a : Addr} {ks : List Key} {n : Nat} (R : SetG w h a (fun j => decide (j ∈ ks)) n) : ∃ es ep t us, SetW w h a es ep t ∧ PySem.W.EachIs (AtE H L) (es.toList.map (·.2)) us ∧ us.Nodup ∧ ∀ d, d ∈ us ↔ d ∈ ks.map keyD := by
  obtain ⟨es, ep, t, W, g, nd, hm⟩ := R.w
  refine ⟨es, ep, t, es.toList.map fun e => keyD (keyV e.2), W, ?_, ?_, fun d => ?_⟩
  · clear nd hm W R
    generalize es.toList = l at g
    induction l with
    | nil => exact .nil
    | cons e l ih =>
      obtain ⟨k, h1, _⟩ := g e List.mem_cons_self
      exact .cons ⟨kV k, rel_key h1, by show At H L (kV k) (keyD (keyV e.2)); rw [keyV_of h1]; exact at_keyD⟩ (ih fun e he => g e (List.mem_cons_of_mem _ he))
  · have q := nd
    rw [show (es.toList.map fun e => keyD (keyV e.2)) = (es.toList.map fun e => keyV e.2).map keyD by rw [List.map_map]; rfl]
    exact List.pairwise_map.mpr (q.imp fun hne e => hne (keyD_inj e))
  · rw [show (es.toList.map fun e => keyD (keyV e.2)) = (es.toList.map fun e => keyV e.2).map keyD by rw [List.map_map]; rfl]
    constructor
    · intro hd
      obtain ⟨k, hk, rfl⟩ := List.mem_map.mp hd
      exact List.mem_map.mpr ⟨k, of_decide_eq_true ((hm k).mpr hk), rfl⟩
    · intro hd
      obtain ⟨k, hk, rfl⟩ := List.mem_map.mp hd
      exact List.mem_map.mpr ⟨k, (hm k).mp (decide_eq_true hk), rfl⟩
theorem set_tups_out {P : Program} {w : World} {h : Heap} {a : Addr} {ks M : List (Addr × List Int)} {es : Array (Int × Value)} {ep : Nat} {t : SetTable} (R : SetTR P w h a M es ep t) (g : Got ks ks.length M) (hk : ∀ p ∈ ks, At H L (.ref p.1) (.tuple (p.2.map .int))) :
    ∃ us, SetW w h a es ep t ∧ PySem.W.EachIs (AtE H L) (es.toList.map (·.2)) us ∧ us.Nodup ∧ ∀ d, d ∈ us ↔ d ∈ ks.map (fun p => PyData.tuple (p.2.map .int)) := by
  have sub : ∀ p ∈ M, p ∈ ks := fun p hp => List.mem_of_mem_take (g.sub p hp)
  have inj : ∀ a b : List Int, (PyData.tuple (a.map .int)) = .tuple (b.map .int) → a = b := fun a b e => by
    injection e with e
    exact (List.map_inj_right fun x y z => by injection z).mp e
  refine ⟨M.map fun p => .tuple (p.2.map .int), setTR_w R, ?_, ?_, fun d => ?_⟩
  · rw [R.rows]
    unfold rowsOf
    rw [List.map_map]
    clear R g
    induction M with
    | nil => exact .nil
    | cons p M ih => exact .cons ⟨.ref p.1, rfl, hk p (sub p List.mem_cons_self)⟩ (ih fun q hq => sub q (List.mem_cons_of_mem _ hq))
  · have q := R.nd
    rw [show (M.map fun p => PyData.tuple (p.2.map .int)) = (M.map (·.2)).map fun n => PyData.tuple (n.map .int) by rw [List.map_map]; rfl]
    exact List.pairwise_map.mpr (q.imp fun hne e => hne (inj _ _ e))
  · constructor
    · intro hd
      obtain ⟨p, hp, rfl⟩ := List.mem_map.mp hd
      exact List.mem_map.mpr ⟨p, sub p hp, rfl⟩
    · intro hd
      obtain ⟨p, hp, rfl⟩ := List.mem_map.mp hd
      obtain ⟨q, hq, e⟩ := List.mem_map.mp (g.all p (by rw [List.take_length]; exact hp))
      exact List.mem_map.mpr ⟨q, hq, by rw [e]⟩
open Classical in
theorem call_set_data {A : Around} {E : Value → Shared → Prop} {v : V} {u : Value} {ds : List PyData} {Q : Value → Shared → Prop} (I : Inv X pins σ H s) (hh : A.handled = none) (hu : A.units + 100 < cLine) (hv : Vw X.K H L v (.list ds) ∨ Vw X.K H L v (.tuple ds)) (r : RelV v u) (hb : setB ds = true)
    (h : ∀ h' tk a es ep t us, (∀ b o, s.heap.get? b = some o → h'.get? b = some o) → SetW X.w h' a es ep t → PySem.W.EachIs (AtE H L) (es.toList.map (·.2)) us → us.Nodup → (∀ d, d ∈ us ↔ d ∈ ds) → Q (.ref a) { s with heap := h', toks := tk }) :
    wpAny (model X.prog X.w) A (call (.type "set") [u]) Q E s := by
  -- a list or a tuple: alike
  have both : ∃ (l : Addr) (its : List Value) (xs : List V), u = .ref l ∧ (s.heap.IsList l its.toArray ∨ s.heap.IsTuple l its.toArray) ∧ Vals xs its ∧ AtL H L xs ds := by
    rcases hv with hv | hv
    · obtain ⟨a, xs, its, rfl, rv, hl', h2, r2, _⟩ := hv.isList I
      cases r
      exact ⟨a, its, xs, rfl, .inl hl', rv, r2⟩
    · obtain ⟨a, xs, its, rfl, rv, hl', h2, r2, _⟩ := hv.isTup I
      cases r
      exact ⟨a, its, xs, rfl, .inr hl', rv, r2⟩
  obtain ⟨l, its, xs, rfl, hl, rv, ra⟩ := both
  have run : ∀ (J : Nat → Heap → Prop)
    (stab : ∀ i h h', J i h → (∀ o, h.get? s.heap.objs.size = some o → h'.get? s.heap.objs.size = some o) → (∀ b o, s.heap.get? b = some o → h'.get? b = some o) → J i h')
    (start : ∀ h', h'.get? s.heap.objs.size = some (newSet X.w) → (∀ b o, s.heap.get? b = some o → h'.get? b = some o) → J 0 h')
    (step : ∀ (A' : Around) (i : Nat) (v : Value) (s' : Shared) (Q' : Bool → Shared → Prop) (E' : Value → Shared → Prop), A'.units ≤ A.units + 3 → its.toArray[i]? = some v → J i s'.heap → (∀ b o, s.heap.get? b = some o → s'.heap.get? b = some o) →
      (∀ b h' tk, s'.toks ≤ tk → Heap.SameBut s.heap.objs.size s'.heap h' → J (i + 1) h' → Q' b { s' with heap := h', toks := tk }) → wpAny (model X.prog X.w) A' (setAdd s.heap.objs.size v) Q' E' s')
    (h : ∀ (h' : Heap) (tk : Nat), J its.length h' → (∀ b o, s.heap.get? b = some o → h'.get? b = some o) → Q (.ref s.heap.objs.size) { s with heap := h', toks := tk }), wpAny (model X.prog X.w) A (call (.type "set") [.ref l]) Q E s := by
    intro J stab start step h
    rcases hl with hl | hl
    · exact call_set_lst hh hl J stab start step fun h' tk hJ hk => h h' tk (by simpa using hJ) hk
    · exact call_set_tup hh hl J stab start step fun h' tk hJ hk => h h' tk (by simpa using hJ) hk
  have hS0 : s.heap.get? s.heap.objs.size = none := by
    cases q : s.heap.get? s.heap.objs.size with
    | none => rfl
    | some o => exact absurd (Heap.lt_size q) (Nat.lt_irrefl _)
  unfold setB at hb
  rw [Bool.or_eq_true, Bool.and_eq_true, Bool.and_eq_true] at hb
  have hlen : its.length = ds.length := by rw [← rv.length, ra.length]
  rcases hb with ⟨hb, hn⟩ | ⟨hb, hn⟩
  · obtain ⟨ks, rfl⟩ := keys_list hb
    have hn := of_decide_eq_true hn
    rw [List.length_map] at hlen hn
    have ex := at_keys ra
    subst ex
    refine run (fun i h => ∃ c, c ≤ i ∧ SetG X.w h s.heap.objs.size (fun j => decide (j ∈ ks.take i)) c) (fun i h h' ⟨c, hc, R⟩ k1 _ => ⟨c, hc, R.at k1⟩) (fun h' e _ => ⟨0, Nat.le_refl 0, (setG_new e).congr fun k => by simp⟩) (fun A' i v s' Q' E' hA hi ⟨c, hc, R⟩ hk hQ => ?_) fun h' tk ⟨c, hc, R⟩ hk => ?_
    · obtain ⟨k, hk1, hk2⟩ := vals_keys rv i v (by simpa using hi)
      have hik : i < ks.length := (List.getElem?_eq_some_iff.mp hk1).1
      unfold setAdd
      refine wpAny_holding (wpAny_bind ((mixKind X.prog X.w).pyHash (k := k) hk2 ?_))
      refine setG_add (s := { s' with toks := s'.toks + 1 }) hk2 R (by show c + 1 < 4096; omega) fun b h' hsb R2 => ?_
      refine hQ b h' _ (Nat.le_succ _) hsb ⟨_, ?_, R2.congr fun j => ?_⟩
      · split <;> omega
      · rw [List.take_add_one, hk1]
        simp [List.mem_append]
    · rw [hlen, List.take_length] at R
      obtain ⟨es, ep, t, us, W, e1, e2, e3⟩ := set_keys_out (H := H) (L := L) R
      exact h h' tk _ es ep t us hk W e1 e2 e3
  · obtain ⟨ns, rfl⟩ := ints_list hb
    have hn := of_decide_eq_true hn
    rw [List.length_map] at hlen hn
    obtain ⟨ks, rfl, rfl, hks⟩ := refs_ints ra rv
    rw [List.length_map] at hn hlen
    have hT : ∀ p ∈ ks, IsT X.prog X.w s.heap p.2 p.1 := fun p hp => I.isT (.of (hks p hp).2)
    refine run (fun i h => (∀ b o, s.heap.get? b = some o → h.get? b = some o) ∧ ∃ M es ep t, SetTR X.prog X.w h s.heap.objs.size M es ep t ∧ Got ks i M) (fun i h h' ⟨_, M, es, ep, t, R, g⟩ k1 k2 => ⟨k2, M, es, ep, t, R.keep k1 fun p hp => isT_keep (hT p (List.mem_of_mem_take (g.sub p hp))) k2, g⟩)
      (fun h' e k => ⟨k, [], #[], 0, _, setTR_fresh e, Got.zero ks⟩) (fun A' i v s' Q' E' hA hi ⟨_, M, es, ep, t, R, g⟩ hk hQ => ?_) fun h' tk ⟨_, M, es, ep, t, R, g⟩ hk => ?_
    · obtain ⟨p, hp, rfl⟩ : ∃ p, ks[i]? = some p ∧ v = .ref p.1 := by
        have q : (ks.map fun p => Value.ref p.1)[i]? = some v := by simpa using hi
        rw [List.getElem?_map] at q
        obtain ⟨p, e1, e2⟩ := Option.map_eq_some_iff.mp q
        exact ⟨p, e1, e2.symm⟩
      have hip : i < ks.length := (List.getElem?_eq_some_iff.mp hp).1
      have hx : IsT X.prog X.w s'.heap p.2 p.1 := isT_keep (hT p (List.mem_of_getElem? hp)) hk
      unfold setAdd
      refine wpAny_holding (wpAny_bind (wpAny_pyHash_tuple (by omega) hx ?_))
      refine add_at (s := { s' with toks := s'.toks + (p.2.length + 1) }) R hx (by omega) (by have := g.len; omega) fun b h' L' es' ep' t' hsb R2 c1 c2 => ?_
      refine hQ b h' _ (Nat.le_add_right _ _) hsb ⟨fun b o e => (hsb.2 b (fun z => by rw [z, hS0] at e; cases e)).trans (hk b o e), L', es', ep', t', R2, ?_⟩
      rcases Classical.em (p.2 ∈ M.map (·.2)) with c | c
      · rw [c1 c]; exact g.same hp c
      · exact g.more hp (c2 c)
    · rw [List.length_map] at g
      obtain ⟨us, W, e1, e2, e3⟩ := set_tups_out (H := H) (L := L) R g fun p hp => (hks p hp).1
      refine h h' tk _ es ep t us hk W e1 e2 fun d => ?_
      rw [e3 d, List.map_map]
      rfl
/-! sorted of a set -/
theorem each_and {α β : Type} {R R' : α → β → Prop} : ∀ {xs : List α} {ys : List β}, PySem.W.EachIs R xs ys → PySem.W.EachIs R' xs ys → PySem.W.EachIs (fun a b => R a b ∧ R' a b) xs ys
  | _, _, .nil, _ => .nil
  | _, _, .cons a b, h => by
    cases h with
    | cons a' b' => exact .cons ⟨a, a'⟩ (each_and b b')
open PySem.W PySem.Calls PyProof.Rows in
theorem sorted_setD {A : Around} {E : Value → Shared → Prop} {prog : Program} {w : World} {s : Shared} {a : Addr} {es : Array (Int × Value)} {ep : Nat} {t : SetTable} {R : Value → PyData → Prop} {us : List PyData} {Q : Value → Shared → Prop} (W : SetW w s.heap a es ep t) (hh : A.handled = none)
    (e : EachIs R (es.toList.map (·.2)) us) (er : EachIs (fun v d => ∃ as, Reads s.heap v d as) (es.toList.map (·.2)) us) (hal : AllAlike us) (hk : Srt us) (hL : us.length ≤ sizeLine) (hu : ∀ b, b ∈ us → A.units + 2 + b.depth < cLine)
    (h : ∀ s' p c out rs, (∀ b o, s.heap.get? b = some o → s'.heap.get? b = some o) → s'.gens = s.gens → s'.os = s.os → s.heap.objs.size ≤ p → s'.heap.get? p = some (seqObj "list" (List.toArray out) c) → out.length = us.length → rs.Perm us → rs.Pairwise (fun a b => dle a b = true) → EachIs R out rs → Q (.ref p) s') :
    wpAny (model prog w) A (call (.builtin "sorted") [.ref a]) Q E s := by
  obtain ⟨o, ho, hex, hd⟩ := W.ob
  refine Calls.call_function_entry kind_sorted plain_sorted entry_sorted (args_sorted1 _) ?_
  unfold Builtin.«sorted»
  refine wpAny_bind (m := checkCount "sorted" 1 1 _) (wpAny_pure ?_)
  refine wpAny_bind (collect_set (A := A.in1) hh ⟨o, ho, hex.1, hd⟩ W.fits W.few W.ris W.led fun s1 vs k1 hz g1 o1 pm => ?_)
  -- both relations at once
  have e2 : EachIs (fun v d => R v d ∧ ∃ as, Reads s.heap v d as) (es.toList.map (·.2)) us := each_and e er
  obtain ⟨us', pu, e3⟩ := each_perm pm e2
  have hlv : vs.length = us.length := by rw [e3.length, pu.length_eq]
  refine wpAny_bind (wpAny_newList ?_ (by rw [hlv]; exact hL))
  have hD : (s1.heap.push (seqObj "list" vs.toArray 0)).get? s1.heap.objs.size = some (seqObj "list" vs.toArray 0) := Heap.get?_push_size _ rfl
  have hold : ∀ b o, s.heap.get? b = some o → b ≠ s1.heap.objs.size := fun b o q => Nat.ne_of_lt (Heap.lt_size (k1 b o q))
  have er' : EachIs (fun v b => ∃ as, Reads (sortingHeap (s1.heap.push (seqObj "list" vs.toArray 0)) s1.heap.objs.size vs) v b as) vs us' := e3.mono fun _ _ ⟨_, as, r⟩ => ⟨as, PyProof.Rows.Reads.keeps (fun b o q => sortingHeap_old (hold b o q) (Heap.get?_push_of_some _ (k1 b o q))) r⟩
  have hal' : AllAlike us' := fun d hd d' hd' => hal d (pu.mem_iff.mp hd) d' (pu.mem_iff.mp hd')
  have hk' : Srt us' := hk.imp (fun q d hd => q d (pu.mem_iff.mp hd)) fun q d hd => q d (pu.mem_iff.mp hd)
  refine wpAny_bind (wpAny_holding (wpAny_call_entry slot_list_sort ⟨_, hD, rfl⟩ entry_list_sort ?body (args_list_sort _)))
  case body =>
    refine list_sort_vals (s := { s1 with heap := s1.heap.push (seqObj "list" vs.toArray 0) }) (κ := dataKind (sortingHeap (s1.heap.push (seqObj "list" vs.toArray 0)) s1.heap.objs.size vs) us') hD
      (srt_at (s := { s1 with heap := sortingHeap (s1.heap.push (seqObj "list" vs.toArray 0)) s1.heap.objs.size vs }) er' hal' hk' fun d hd => by exact hu d (pu.mem_iff.mp hd)) (by rw [hlv]; exact hL) ⟨.none, rfl, ?_⟩
    obtain ⟨c, hc2⟩ := sortedHeap_at (out := (sortVals (dataKind (sortingHeap (s1.heap.push (seqObj "list" vs.toArray 0)) s1.heap.objs.size vs) us') false vs vs).toArray) hD
    have sv := sortVals_data (enc := id) false (e3.mono fun _ _ q => q.1) (by simpa using er')
    simp only [List.map_id_fun, id] at sv
    refine wpAny_pure ⟨_, rfl, h _ s1.heap.objs.size c (sortVals _ false vs vs) (us'.mergeSort dle) (fun b o q => ?_) g1 o1 hz hc2 (by rw [sortVals_length false rfl]; exact hlv) ((List.mergeSort_perm _ _).trans pu) (msort_sorted us') (sv hal')⟩
    show (sortedHeap (s1.heap.push (seqObj "list" vs.toArray 0)) s1.heap.objs.size vs _).get? b = some o
    rw [sortedHeap_old (hold b o q) (by rw [size_push']; exact Nat.lt_succ_of_lt (Heap.lt_size (k1 b o q)))]
    exact Heap.get?_push_of_some _ (k1 b o q)
theorem nodup_strict : ∀ {rs : List PyData}, rs.Pairwise (fun a b => dle a b = true) → rs.Nodup → (∀ x ∈ rs, ∀ y ∈ rs, PySem.W.alike x y = true) → (∀ x ∈ rs, ∀ y ∈ rs, PyData.eqv x y = true → x = y) → rs.Pairwise fun a b => dlt a b = true
  | [], _, _, _, _ => List.Pairwise.nil
  | x :: rs, h1, h2, h3, h4 => by
    obtain ⟨a1, a2⟩ := List.pairwise_cons.mp h1
    obtain ⟨b1, b2⟩ := List.nodup_cons.mp h2
    refine List.pairwise_cons.mpr ⟨fun y hy => ?_, nodup_strict a2 b2 (fun x hx y hy => h3 x (List.mem_cons_of_mem _ hx) y (List.mem_cons_of_mem _ hy)) fun x hx y hy => h4 x (List.mem_cons_of_mem _ hx) y (List.mem_cons_of_mem _ hy)⟩
    cases q : dlt x y with
    | true => rfl
    | false =>
      have w := a1 y hy
      rw [dle_def] at w
      have e := h4 x List.mem_cons_self y (List.mem_cons_of_mem _ hy) (dlt_tri (h3 x List.mem_cons_self y (List.mem_cons_of_mem _ hy)) q (by simpa using w))
      exact absurd (e ▸ hy) b1
theorem same_len {α : Type} {xs ys : List α} (h1 : xs.Nodup) (h2 : ys.Nodup) (h : ∀ a, a ∈ xs ↔ a ∈ ys) : xs.length = ys.length := ((List.perm_ext_iff_of_nodup h1 h2).mpr h).length_eq
theorem usort_nodup {ds : List PyData} (h : ∀ x ∈ ds, ∀ y ∈ ds, PySem.W.alike x y = true) : (usort ds).Nodup := (usort_strict h).imp fun {a b} q e => by
  subst e
  rw [dlt_irrefl] at q
  cases q
/-! the rules -/
def tCC (r : List V → Hp → VK → Prop) (ta : TE) : TE := fun σ H Q => ta σ H fun x H1 => r [x] H1 Q
variable {a : Expr} {ta : TE} {p p2 q pos : Pos}
theorem pe_soSet (hc : X.calm = true) (hu : X.A.units + 200 < cLine) (hg : Gl X "sorted") (hm : X.mg "sorted" = none) (hg2 : Gl X "set") (hm2 : X.mg "set" = none) (ha : PE X a ta) (na : starEach [a] X.env = (false, eval a X.env) :: starEach [] X.env) :
    PE X (.Call (.Name "sorted" p) [.Call (.Name "set" p2) [a] [] q] [] pos) (tCC (rCL X.K soSetL) ta) := by
  refine ⟨fun pins s σ H Q I h => ?_⟩
  refine Call_ (ld_blt I hg hm PyProof.Rows.boot_sorted ?_)
  refine PyProof.Rows.callWith_builtin1 (PyProof.Rows.args_cons ?_ rfl) rfl rfl
  refine Call_ (ld_blt I hg2 hm2 PyProof.Rows.boot_set ?_)
  refine PyProof.Rows.callWith_type1 (PyProof.Rows.args_cons (thn (ha.run pins s σ H _ I h) fun v s1 ⟨x, H1, I1, r1, q1⟩ => PyProof.Rows.args_nil ?_) na) na rfl
  obtain ⟨L, ds, rs, hl, hv, e, qq⟩ := q1
  obtain ⟨xs, hx, hb, hs, rfl⟩ := soSet_inv e
  have hv' : Vw X.K H1 L x (.list xs) ∨ Vw X.K H1 L x (.tuple xs) := by
    rcases hx with rfl | rfl
    · obtain ⟨v, e1, h1⟩ := hv.one; cases e1; exact .inl h1
    · obtain ⟨v, e1, h1⟩ := hv.one; cases e1; exact .inr h1
  obtain ⟨f1, al, so⟩ := sortB_ok hs
  refine call_set_data (L := L) I1 (I1.ok.hd hc) (by omega) hv' r1 hb fun h' tk b es ep t us k W e1 e2 e3 => PyProof.Rows.args_nil ?_
  have I2 : Inv X pins σ H1 { s1 with heap := h', toks := tk } := I1.kept k
  have hp := setB_pure hb
  have sub : ∀ d, d ∈ us → d ∈ xs := fun d hd => (e3 d).mp hd
  have hlu : us.length ≤ sizeLine := by
    have h1 : us.length = (usort xs).length := same_len e2 (usort_nodup al) fun d => (e3 d).trans (usort_mem hp d).symm
    have h2 : es.size = us.length := by rw [← e1.length, List.length_map, Array.length_toList]
    have h3 : es.size < 4096 := W.few
    rw [sizeLine_eq]
    omega
  have fitu : us.all fit = true := List.all_eq_true.mpr fun d hd => List.all_eq_true.mp f1 d (sub d hd)
  have er : PySem.W.EachIs (fun v d => ∃ as, Reads h' v d as) (es.toList.map (·.2)) us := by
    clear e2 e3 hlu
    generalize es.toList.map (·.2) = vs at e1
    induction e1 with
    | nil => exact .nil
    | @cons v d vs ds r t ih =>
      rw [List.all_cons, Bool.and_eq_true] at fitu
      obtain ⟨x, rx, ax⟩ := r
      exact .cons (Dp.reads I2 d x v (ax.dp d (fitN_ok 20 d fitu.1).1) rx) (ih (fun d hd => sub d (List.mem_cons_of_mem _ hd)) fitu.2)
  refine sorted_setD (s := { s1 with heap := h', toks := tk }) W (I1.ok.hd hc) e1 er (fun d hd d' hd' => al d (sub d hd) d' (sub d' hd')) (so.imp (fun q d hd => q d (sub d hd)) fun q d hd => q d (sub d hd)) hlu (fun d hd => ?_) fun s' p c out rs k' g o hpz hc2 hlen pm srt eo => ?_
  · have := (fitN_ok 20 d (List.all_eq_true.mp fitu d hd)).2
    show X.A.units + 2 + d.depth < cLine
    omega
  · obtain ⟨ys, rv', r'⟩ := at_of_each eo
    have hz : ys.length ≤ sizeLine := by rw [rv'.length, hlen]; exact hlu
    have hn : H1 p = none := I2.hok.fresh hpz
    have hrs : rs = usort xs := (usort_of (nodup_strict srt (pm.nodup_iff.mpr e2) (fun x hx y hy => al x (sub x (pm.mem_iff.mp hx)) y (sub y (pm.mem_iff.mp hy))) fun x hx y hy => hp x (sub x (pm.mem_iff.mp hx)) y (sub y (pm.mem_iff.mp hy))) (fun d => pm.mem_iff.trans (e3 d)) hp al).symm
    have J : Inv X pins σ (upd H1 p (.lst ys)) { { s1 with heap := h', toks := tk } with heap := s'.heap, gens := s'.gens, drawn := s'.drawn, toks := s'.toks } :=
      I2.call (ch := []) (Un.laid k' hpz hn) (I2.hok.laid k' hpz ⟨hz, out, c, rv', hc2⟩) (by rw [g]; exact I2.bare) (fun _ z => nomatch z)
    have es' : s' = { { s1 with heap := h', toks := tk } with heap := s'.heap, gens := s'.gens, drawn := s'.drawn, toks := s'.toks } := by
      cases s'
      cases s1
      cases o
      rfl
    rw [es']
    exact ⟨.ref p, _, J, rfl, qq p ys _ hn (upd_grow hn) upd_same (hrs ▸ r')⟩
theorem pe_leSet (hc : X.calm = true) (hu : X.A.units + 200 < cLine) (hg : Gl X "len") (hm : X.mg "len" = none) (hg2 : Gl X "set") (hm2 : X.mg "set" = none) (ha : PE X a ta) (na : starEach [a] X.env = (false, eval a X.env) :: starEach [] X.env) :
    PE X (.Call (.Name "len" p) [.Call (.Name "set" p2) [a] [] q] [] pos) (tCC (rCD X.K leSetD) ta) := by
  refine ⟨fun pins s σ H Q I h => ?_⟩
  refine Call_ (ld_blt I hg hm PySem.boot_len ?_)
  refine PyProof.Rows.callWith_builtin1 (PyProof.Rows.args_cons ?_ rfl) rfl rfl
  refine Call_ (ld_blt I hg2 hm2 PyProof.Rows.boot_set ?_)
  refine PyProof.Rows.callWith_type1 (PyProof.Rows.args_cons (thn (ha.run pins s σ H _ I h) fun v s1 ⟨x, H1, I1, r1, q1⟩ => PyProof.Rows.args_nil ?_) na) na rfl
  obtain ⟨L, ds, rs, hl, hv, e, qq⟩ := q1
  obtain ⟨xs, hx, hb, hs, rfl⟩ := leSet_inv e
  have hv' : Vw X.K H1 L x (.list xs) ∨ Vw X.K H1 L x (.tuple xs) := by
    rcases hx with rfl | rfl
    · obtain ⟨v, e1, h1⟩ := hv.one; cases e1; exact .inl h1
    · obtain ⟨v, e1, h1⟩ := hv.one; cases e1; exact .inr h1
  have al := (alikeB_ok hs).1
  refine call_set_data (L := L) I1 (I1.ok.hd hc) (by omega) hv' r1 hb fun h' tk b es ep t us k W e1 e2 e3 => PyProof.Rows.args_nil ?_
  have I2 : Inv X pins σ H1 { s1 with heap := h', toks := tk } := I1.kept k
  have h1 : us.length = (usort xs).length := same_len e2 (usort_nodup al) fun d => (e3 d).trans (usort_mem (setB_pure hb) d).symm
  have h2 : es.size = us.length := by rw [← e1.length, List.length_map, Array.length_toList]
  have h3 : es.size < 4096 := W.few
  obtain ⟨o, ho, hex, hd⟩ := W.ob
  exact call_len_set (s := { s1 with heap := h', toks := tk }) ho hex hd W.fits (by omega) ⟨.int (usort xs).length, H1, I2.tok _, ⟨_, by rw [h2, h1]⟩, qq _ _ (fun _ _ z => z) (.int _)⟩
end
end DL
namespace DL
open PySem PySem.Spec L2 HT
open PyProof.Rows hiding St
section
variable {c : Cxt} {a b : Expr} {fa : Ev} {pos p p2 q p1 p3 : Pos}
theorem InC.un2 {X : Cx} (h : InC c X) : X.A.units + 200 < cLine := by have := h.room.un; omega
theorem so_set (hm : c.mg "sorted" = none) (hm2 : c.mg "set" = none) (ha : DE c a fa) (hg : c.sc.names.lookup ("sorted" : Str) = some .globalImplicit := by rfl) (hg2 : c.sc.names.lookup ("set" : Str) = some .globalImplicit := by rfl) (hst : noStar [a] = true := by rfl) :
    DLs c (.Call (.Name "sorted" p) [.Call (.Name "set" p2) [a] [] q] [] pos) (lSet fa) := by
  obtain ⟨ta, pa, va⟩ := ha
  refine ⟨tCC (rCL c.K soSetL) ta, fun X hX => by
    have h := pe_soSet (p := p) (p2 := p2) (q := q) (pos := pos) hX.calm hX.un2 (show Gl X "sorted" by show X.env.scope.names.lookup _ = _; rw [hX.sc]; exact hg) (by rw [hX.mg]; exact hm) (show Gl X "set" by show X.env.scope.names.lookup _ = _; rw [hX.sc]; exact hg2) (by rw [hX.mg]; exact hm2) (pa X hX) (star_cons hst)
    rw [hX.K] at h
    exact h, fun Lf adr S σ H ρ ds S' Q I e w => ?_⟩
  unfold lSet at e
  simp only [Option.bind_eq_some_iff] at e
  obtain ⟨⟨x, S1⟩, e1, m, e2, r, e3, e4⟩ := e
  cases e4
  refine va Lf adr S σ H ρ _ _ _ I e1 fun v adr1 H1 x1 s1 r1 => ?_
  exact ⟨_, [m], _, fun z => s1.lvv, .cons (vw_ok s1 r1 e2) .nil, e3, wi_grL s1 (w.trans x1)⟩
theorem le_set (hm : c.mg "len" = none) (hm2 : c.mg "set" = none) (ha : DE c a fa) (hg : c.sc.names.lookup ("len" : Str) = some .globalImplicit := by rfl) (hg2 : c.sc.names.lookup ("set" : Str) = some .globalImplicit := by rfl) (hst : noStar [a] = true := by rfl) :
    DE c (.Call (.Name "len" p) [.Call (.Name "set" p2) [a] [] q] [] pos) (eLset fa) := by
  obtain ⟨ta, pa, va⟩ := ha
  refine ⟨tCC (rCD c.K leSetD) ta, fun X hX => by
    have h := pe_leSet (p := p) (p2 := p2) (q := q) (pos := pos) hX.calm hX.un2 (show Gl X "len" by show X.env.scope.names.lookup _ = _; rw [hX.sc]; exact hg) (by rw [hX.mg]; exact hm) (show Gl X "set" by show X.env.scope.names.lookup _ = _; rw [hX.sc]; exact hg2) (by rw [hX.mg]; exact hm2) (pa X hX) (star_cons hst)
    rw [hX.K] at h
    exact h, fun Lf adr S σ H ρ ds S' Q I e w => ?_⟩
  unfold eLset at e
  simp only [Option.bind_eq_some_iff] at e
  obtain ⟨⟨x, S1⟩, e1, m, e2, r, e3, e4⟩ := e
  cases e4
  refine va Lf adr S σ H ρ _ _ _ I e1 fun v adr1 H1 x1 s1 r1 => ?_
  exact ⟨_, [m], _, fun z => s1.lvv, .cons (vw_ok s1 r1 e2) .nil, e3, wi_gr s1 (w.trans x1)⟩
end
end DL
namespace DL
open PySem PySem.Spec L2
open PyProof.Rows hiding St
/-! ### a dict walked: locked meanwhile -/
def DiO : HO → Prop
  | .dK _ => True
  | .dT _ => True
  | _ => False
theorem DiO.mut {u : HO} (h : DiO u) : Mut (some u) := by cases u <;> first | trivial | exact h.elim
theorem DiO.nfrz {u : HO} (h : DiO u) : ∀ o v, u ≠ .frz o v := fun o v e => by rw [e] at h; exact h
theorem DiO.ntup {u : HO} (h : DiO u) : ∀ xs, u ≠ .tup xs := fun o e => by rw [e] at h; exact h
theorem DiO.nlst {u : HO} (h : DiO u) : ∀ xs, u ≠ .lst xs := fun o e => by rw [e] at h; exact h
section
variable {H H' : Hp} {L : AdP} {d : Addr} {u : HO} {od : Obj}
theorem lock_sm (h : H d = some u) (hu : DiO u) (a : Addr) : SmAt H (L2.upd H d (.frz od u)) a := by
  by_cases e : a = d
  · subst e
    refine ⟨fun xs q => ?_, fun xs q => ?_, fun v q => ?_, fun o v q => ?_⟩
    · rw [h] at q; exact absurd (Option.some.inj q) (hu.nlst xs)
    · rw [h] at q; exact absurd (Option.some.inj q) (hu.ntup xs)
    · rcases q with q | ⟨o, q⟩
      · rw [h] at q
        cases q
        exact .inr ⟨od, upd_same⟩
      · rw [h] at q; exact absurd (Option.some.inj q) (hu.nfrz _ _)
    · rw [h] at q; exact absurd (Option.some.inj q) (hu.nfrz _ _)
  · exact .of fun o q => by rw [upd_ne e]; exact q
theorem lock_tr (h : H d = some u) (hu : DiO u) : Tr H L (L2.upd H d (.frz od u)) L := fun a _ n => ⟨lock_sm h hu a, n⟩
theorem unlock_sm (h : H d = some (.frz od u)) (hu : DiO u) (a : Addr) : SmW H (L2.upd H d u) a := by
  by_cases e : a = d
  · subst e
    refine ⟨fun xs q => ?_, fun xs q => ?_, fun v q => ?_, fun v q => ?_⟩
    · rw [h] at q; cases q
    · rw [h] at q; cases q
    · rcases q with q | ⟨o, q⟩
      · rw [h] at q; cases q
      · rw [h] at q
        cases q
        exact .inl upd_same
    · rcases q with q | ⟨o, q⟩
      · rw [h] at q; cases q
      · rw [h] at q
        cases q
        exact .inl upd_same
  · exact ⟨fun xs q => by rw [upd_ne e]; exact q, fun xs q => by rw [upd_ne e]; exact q, fun v q => q.imp (fun z => by rw [upd_ne e]; exact z) fun ⟨o, z⟩ => ⟨o, by rw [upd_ne e]; exact z⟩, fun v q => q.imp (fun z => by rw [upd_ne e]; exact z) fun ⟨o, z⟩ => ⟨o, by rw [upd_ne e]; exact z⟩⟩
theorem unlock_tr (h : H d = some (.frz od u)) (hu : DiO u) : TrW H L (L2.upd H d u) L := fun a _ n => ⟨unlock_sm h hu a, n⟩
theorem Ob.nofrz {m : PyData} {a : Addr} (h : Ob H L a m) : ∀ o v, H a ≠ Option.some (HO.frz o v) := fun o v q => by
  cases m with
  | list ds => obtain ⟨xs, e, _⟩ := h; rw [q] at e; cases e
  | dict dd => rcases h with ⟨_, e, _⟩ | ⟨_, e, _⟩ <;> (rw [q] at e; cases e)
  | _ => exact h.elim
theorem MOb.nofrz {c : Cxt} {adr : Nat → Addr} {n : Nat} {a : Addr} {mo : MO} (h : MOb c H L adr n a mo) : ∀ o v, H a ≠ some (.frz o v) := fun o v q => by
  cases mo with
  | d m => exact Ob.nofrz h o v q
  | ls ds => obtain ⟨xs, e, _⟩ := h; rw [q] at e; cases e
  | dc kvs => rcases h with ⟨_, e, _⟩ | ⟨_, e, _⟩ <;> (rw [q] at e; cases e)
  | ins n fs => obtain ⟨_, _, _, _, e, _⟩ := h; rw [q] at e; cases e
end
section
variable {c : Cxt} {e : En} {Lf : AdP} {adr : Nat → Addr} {S : Sto} {H : Hp} {σ : L2.St} {ρ : Env'} {d : Addr} {u : HO} {od : Obj}
theorem StOk.lock (s : StOk c Lf adr S H) (h : H d = some u) (hu : DiO u) (n : ¬ Lvv Lf adr S d) : StOk c Lf adr S (L2.upd H d (.frz od u)) :=
  ⟨s.inj, fun k mo q => MOb.tr (lock_tr h hu) (Nat.le_refl _) (fun _ _ => rfl) (fun o z => by rw [upd_ne fun w => n (.inr ⟨k, mo, q, w⟩)]; exact z) (s.ob k mo q), s.disj, fun a z => (s.lfo a z).upd fun _ w => nomatch w⟩
theorem StOk.unlock (s : StOk c Lf adr S H) (h : H d = some (.frz od u)) (hu : DiO u) : StOk c Lf adr S (L2.upd H d u) :=
  ⟨s.inj, fun k mo q => MOb.trW (unlock_tr h hu) (Nat.le_refl _) (fun _ _ => rfl) (fun o z => by rw [upd_ne fun w => (s.ob k mo q).nofrz od u (by rw [w]; exact h)]; exact z) (s.ob k mo q), s.disj, fun a z => (s.lfo a z).upd hu.ntup⟩
theorem DR.lock {L C : AdP} {n : Nat} (h : H d = some u) (hu : DiO u) (nl : ¬ Lf d) {v : V} : ∀ {x : D}, DR c.K H L Lf C adr n v x → DR c.K (L2.upd H d (.frz od u)) L Lf C adr n v x
  | .p x, r => At.tr (lock_tr h hu) x r
  | .c k, r => r
  | .o m, ⟨a, q, l, ob⟩ => ⟨a, q, l, ob.tr (lock_tr h hu) fun o z => by rw [upd_ne fun w => nl (by rw [← w]; exact l)]; exact z⟩
  | .f m, ⟨a, q, ob⟩ => by
    refine ⟨a, q, ?_⟩
    have t := lock_sm (od := od) h hu
    cases m with
    | list ds => obtain ⟨xs, g, r⟩ := ob; exact ⟨xs, g.imp (fun z => ⟨z.1, (t a).2.2.1 _ z.2⟩) id, AtL.tr (lock_tr h hu) _ r⟩
    | dict dd =>
      obtain ⟨g, ob⟩ := ob
      refine ⟨g, ob.imp (fun ⟨kvs, r1, r2, r3⟩ => ⟨kvs, (t a).2.2.1 _ r1, r2, AtL.tr2 (lock_tr h hu) _ r3⟩) fun ⟨kvs, r1, r2, r3⟩ => ⟨kvs, (t a).2.2.1 _ r1, r2, AtL.tr2 (lock_tr h hu) _ r3⟩⟩
    | _ => exact ob.elim
theorem DR.unlock {L C : AdP} {n : Nat} (h : H d = some (.frz od u)) (hu : DiO u) {v : V} : ∀ {x : D}, DR c.K H L Lf C adr n v x → DR c.K (L2.upd H d u) L Lf C adr n v x
  | .p x, r => At.trW (unlock_tr h hu) x r
  | .c k, r => r
  | .o m, ⟨a, q, l, ob⟩ => ⟨a, q, l, Ob.trW (unlock_tr h hu) (fun o z => by rw [upd_ne fun w => Ob.nofrz ob od u (by rw [w]; exact h)]; exact z) ob⟩
  | .f m, ⟨a, q, ob⟩ => by
    refine ⟨a, q, ?_⟩
    have t := unlock_sm h hu
    cases m with
    | list ds =>
      obtain ⟨xs, g, r⟩ := ob
      refine ⟨xs, g.imp (fun z => ⟨z.1, ?_⟩) id, AtL.trW (unlock_tr h hu) _ r⟩
      by_cases e : a = d
      · subst e
        rcases z.2 with w | ⟨o, w⟩
        · rw [h] at w; cases w
        · rw [h] at w
          cases w
          exact hu.elim
      · exact z.2.imp (fun w => by rw [upd_ne e]; exact w) fun ⟨o, w⟩ => ⟨o, by rw [upd_ne e]; exact w⟩
    | dict dd =>
      obtain ⟨g, ob⟩ := ob
      refine ⟨g, ob.imp (fun ⟨kvs, r1, r2, r3⟩ => ⟨kvs, (t a).2.2.1 _ r1, r2, AtL.trW2 (unlock_tr h hu) _ r3⟩) fun ⟨kvs, r1, r2, r3⟩ => ⟨kvs, (t a).2.2.2 _ r1, r2, AtL.trW2 (unlock_tr h hu) _ r3⟩⟩
    | _ => exact ob.elim
theorem EOk.lock (I : EOk c Lf adr S σ H ρ) (h : H d = some u) (hu : DiO u) (n : ¬ Lvv Lf adr S d) : EOk c Lf adr S σ (L2.upd H d (.frz od u)) ρ :=
  ⟨fun i x q => let ⟨v, h1, h2⟩ := I.slot i x q; ⟨v, h1, h2.lock h hu fun z => n (.inl z)⟩, I.sto.lock h hu n, I.len⟩
theorem EOk.unlock (I : EOk c Lf adr S σ H ρ) (h : H d = some (.frz od u)) (hu : DiO u) : EOk c Lf adr S σ (L2.upd H d u) ρ :=
  ⟨fun i x q => let ⟨v, h1, h2⟩ := I.slot i x q; ⟨v, h1, h2.unlock h hu⟩, I.sto.unlock h hu, I.len⟩
/-- the entry's heap, locked where it is there -/
noncomputable def lkH (H : Hp) (d : Addr) (o : HO) : Hp := open Classical in fun a => if a = d ∧ H d ≠ none then some o else H a
theorem lkH_ne {o : HO} {a : Addr} (h : a ≠ d) : lkH H d o a = H a := if_neg fun z => h z.1
theorem lkH_there {o : HO} (h : H d ≠ none) : lkH H d o d = some o := if_pos ⟨rfl, h⟩
theorem lkH_no {o : HO} (h : H d = none) : lkH H d o = H := funext fun a => if_neg fun z => z.2 h
theorem lkH_none {o : HO} {a : Addr} : lkH H d o a = none ↔ H a = none := by
  by_cases e : a = d
  · subst e
    by_cases q : H a = none
    · rw [lkH_no q]
    · rw [lkH_there q]
      exact iff_of_false (fun z => nomatch z) q
  · rw [lkH_ne e]
theorem lkH_upd {o : HO} (h : H d ≠ none) : lkH H d o = L2.upd H d o := funext fun a => by
  by_cases e : a = d
  · subst e; rw [lkH_there h, upd_same]
  · rw [lkH_ne e, upd_ne e]
theorem lkH_un {o : HO} (h : H d = some u) : L2.upd (lkH H d o) d u = H := funext fun a => by
  by_cases e : a = d
  · subst e; rw [upd_same, h]
  · rw [upd_ne e, lkH_ne e]
noncomputable def En.lk (e : En) (d : Addr) (o : HO) : En := { e with H := lkH e.H d o }
theorem AtL.lk {L : AdP} (hd : H d = none ∨ L d ∨ H d = some u) (hu : DiO u) {vs : List V} {ds : List PyData} (r : AtL H L vs ds) : AtL (lkH H d (.frz od u)) L vs ds := by
  rcases hd with hd | hd | hd
  · rw [lkH_no hd]; exact r
  · refine AtL.tr (fun a h n => ⟨.of fun o q => ?_, n⟩) _ r
    rw [lkH_ne fun z => n (by rw [z]; exact hd)]; exact q
  · rw [lkH_upd (by rw [hd]; exact fun z => nomatch z)]
    exact AtL.tr (lock_tr hd hu) _ r
theorem AtL.unlk {L : AdP} (hd : H d = none ∨ L d ∨ H d = some u) (hu : DiO u) {vs : List V} {ds : List PyData} (r : AtL (lkH H d (.frz od u)) L vs ds) : AtL H L vs ds := by
  rcases hd with hd | hd | hd
  · rw [lkH_no hd] at r; exact r
  · refine AtL.tr (fun a h n => ⟨.of fun o q => ?_, n⟩) _ r
    rw [lkH_ne fun z => n (by rw [z]; exact hd)] at q; exact q
  · have hne : H d ≠ none := by rw [hd]; exact fun z => nomatch z
    have := AtL.trW (unlock_tr (L := L) (lkH_there (o := .frz od u) hne) hu) _ r
    rwa [lkH_un hd] at this
theorem Ok.ent (I : Ok c e adr S σ H ρ) (h : H d = some u) : e.H d = none ∨ Lvv e.Lf e.adr e.S d ∨ e.H d = some u := by
  cases q : e.H d with
  | none => exact .inl rfl
  | some o =>
    refine .inr ?_
    by_cases z : LvC e.adr e.S d
    · exact .inl (.inr z)
    · have := I.ext.keep d o q z
      rw [h] at this
      exact .inr this.symm
theorem Ok.lock (I : Ok c e adr S σ H ρ) (h : H d = some u) (hu : DiO u) (n : ¬ Lvv (LfN e σ ρ) adr S d) : Ok c (e.lk d (.frz od u)) adr S σ (L2.upd H d (.frz od u)) ρ := by
  have hent := I.ent h
  refine ⟨I.eok.lock h hu n, ⟨I.ext.len, I.ext.ad, fun a o q nc => ?_, fun a q => ?_, fun a z => ?_⟩, fun a z => lkH_none.mpr (I.fresh a z), I.inj, fun i m a q1 q2 => ?_, fun a z => fun w => I.lf0 a z (lkH_none.mp w), I.base.trans (lock_tr h hu)⟩
  · by_cases ea : a = d
    · subst ea
      by_cases q0 : e.H a = none
      · have q : lkH e.H a (.frz od u) a = some o := q
        rw [lkH_no q0, q0] at q
        cases q
      · have q : lkH e.H a (.frz od u) a = some o := q
        rw [lkH_there q0] at q
        rw [upd_same]
        exact q
    · have q : lkH e.H d (.frz od u) a = some o := q
      rw [lkH_ne ea] at q
      rw [upd_ne ea]
      exact I.ext.keep a o q nc
  · have : e.H a ≠ none := fun z => q (lkH_none.mpr z)
    by_cases ea : a = d
    · rw [ea, upd_same]; exact fun z => nomatch z
    · rw [upd_ne ea]; exact I.ext.trk a this
  · exact (I.ext.live a z).imp id fun w => lkH_none.mpr w
  · rcases I.frz i m a q1 q2 with w | w
    · exact .inl fun z => w (lkH_none.mp z)
    · refine .inr ?_
      cases m with
      | list ds => obtain ⟨xs, g, r⟩ := w; exact ⟨xs, g, AtL.lk hent hu r⟩
      | _ => exact w.elim
/-- behind the loop: the lock is off again -/
theorem Ok.unlock {e1 : En} {adr' : Nat → Addr} {S' : Sto} {σ' : L2.St} {H' : Hp} {ρ' : Env'} (I : Ok c e adr S σ H ρ) (h : H d = some u) (hu : DiO u) (n : ¬ Lvv (LfN e σ ρ) adr S d)
    (I' : Ok c ((e.lk d (.frz od u)).at (L2.upd H d (.frz od u)) (Lvv (LfN e σ ρ) adr S)) adr' S' σ' H' ρ') : H' d = some (.frz od u) ∧ Ok c e adr' S' σ' (L2.upd H' d u) ρ' := by
  have hent := I.ent h
  obtain ⟨sm, nL⟩ := I'.base d (by show L2.upd H d _ d ≠ none; rw [upd_same]; exact fun z => nomatch z) n
  have hf : H' d = some (.frz od u) := sm.2.2.2 _ _ upd_same
  refine ⟨hf, I'.eok.unlock hf hu, ⟨I'.ext.len, I'.ext.ad, fun a o q nc => ?_, fun a q => ?_, fun a z => ?_⟩, fun a z => lkH_none.mp (I'.fresh a z), I'.inj, fun i m a q1 q2 => ?_, I.lf0, fun a h0 n0 => ?_⟩
  · by_cases ea : a = d
    · subst ea
      have := I.ext.keep a o q nc
      rw [h] at this
      rw [upd_same]
      exact this
    · rw [upd_ne ea]
      exact I'.ext.keep a o (by show lkH e.H d _ a = _; rw [lkH_ne ea]; exact q) nc
  · by_cases ea : a = d
    · rw [ea, upd_same]; exact fun z => nomatch z
    · rw [upd_ne ea]; exact I'.ext.trk a fun z => q (lkH_none.mp z)
  · exact (I'.ext.live a z).imp id fun w => lkH_none.mp w
  · rcases I'.frz i m a q1 q2 with w | w
    · exact .inl fun z => w (lkH_none.mpr z)
    · refine .inr ?_
      cases m with
      | list ds => obtain ⟨xs, g, r⟩ := w; exact ⟨xs, g, AtL.unlk hent hu r⟩
      | _ => exact w.elim
  · obtain ⟨s1, n1⟩ := I.base a h0 n0
    have there : H a ≠ none := s1.there h0
    by_cases ea : a = d
    · subst ea
      have e1 : L2.upd H' a u a = H a := by rw [upd_same, h]
      refine ⟨⟨fun xs q => e1.trans (s1.1 xs q), fun xs q => e1.trans (s1.2.1 xs q), fun v q => (s1.2.2.1 v q).imp (fun z => e1.trans z) fun ⟨o, z⟩ => ⟨o, e1.trans z⟩, fun o v q => e1.trans (s1.2.2.2 o v q)⟩, nL⟩
    · obtain ⟨s2, n2⟩ := I'.base a (by show L2.upd H d _ a ≠ none; rw [upd_ne ea]; exact there) n1
      have e0 : (L2.upd H d (.frz od u)) a = H a := upd_ne ea
      have e1 : L2.upd H' d u a = H' a := upd_ne ea
      have s3 : SmAt H (L2.upd H' d u) a := ⟨fun xs q => e1.trans (s2.1 xs (e0.trans q)), fun xs q => e1.trans (s2.2.1 xs (e0.trans q)), fun v q => (s2.2.2.1 v (q.imp (fun z => e0.trans z) fun ⟨o, z⟩ => ⟨o, e0.trans z⟩)).imp (fun z => e1.trans z) fun ⟨o, z⟩ => ⟨o, e1.trans z⟩, fun o v q => e1.trans (s2.2.2.2 o v (e0.trans q))⟩
      exact ⟨s1.trans s3, n2⟩
end
end DL
namespace DL
open PySem PySem.Spec L2
open PyProof.Rows hiding St
/-! ### for k in d; comprehensions over d -/
section
variable {X : Cx}
theorem ps_or {st : Stmt} {t1 t2 : TS} (h1 : PS X st t1) (h2 : PS X st t2) : PS X st (fun D σ H => t1 D σ H ∨ t2 D σ H) := ⟨fun pins s σ H D I h => h.elim (h1.run pins s σ H D I) (h2.run pins s σ H D I)⟩
theorem pe_or' {e : Expr} {t1 t2 : TE} (h1 : PE X e t1) (h2 : PE X e t2) : PE X e (fun σ H Q => t1 σ H Q ∨ t2 σ H Q) := ⟨fun pins s σ H Q I h => h.elim (h1.run pins s σ H Q I) (h2.run pins s σ H Q I)⟩
theorem ps_mono {st : Stmt} {t1 t2 : TS} (h1 : PS X st t1) (h : ∀ D σ H, t2 D σ H → t1 D σ H) : PS X st t2 := ⟨fun pins s σ H D I q => h1.run pins s σ H D I (h D σ H q)⟩
end
section
variable {H : Hp} {L : AdP} {d : Addr} {od : Obj}
theorem key_at (k : Key) : At H L (kV k) (keyD k) := by
  cases k with
  | inl i => exact .int i
  | inr x => exact .str x
theorem keys_atL : ∀ ks : List Key, AtL H L (ks.map kV) (ks.map keyD)
  | [] => .nil
  | k :: ks => .cons (key_at k) (keys_atL ks)
theorem keyT_at {q : Addr} {ks : List Key} (h : H q = some (.tup (ks.map kV))) (n : ¬ L q) : At H L (.ref q) (keyT ks) := .tup n h (keys_atL ks)
theorem nt_tup {q : Addr} {xs : List V} (h : H q = some (.tup xs)) (hl : ∀ a, L a → Nt H a) : ¬ L q := fun z => by
  obtain ⟨o, e, n⟩ := hl q z
  rw [h] at e
  cases e
  exact n _ rfl
theorem now_keys {kvs : List (Key × V)} (h : H d = some (.frz od (.dK kvs))) : ItNow H L (Itk d od kvs) (kvs.map fun p => keyD p.1) := by
  refine ⟨fun i x e => ⟨h, by have := (List.getElem?_eq_some_iff.mp e).1; simpa using this⟩, fun i x v H' e y => ?_, ⟨h, by simp⟩⟩
  obtain ⟨rfl, k, w, e1, rfl⟩ := y
  rw [List.getElem?_map, e1] at e
  cases e
  exact ⟨fun _ _ z => z, fun _ => key_at k⟩
theorem now_keysT {kvs : List (List Key × V)} (h : H d = some (.frz od (.dT kvs))) : ItNow H L (Itkt d od kvs) (kvs.map fun p => keyT p.1) := by
  refine ⟨fun i x e => ⟨h, by have := (List.getElem?_eq_some_iff.mp e).1; simpa using this⟩, fun i x v H' e y => ?_, ⟨h, by simp⟩⟩
  obtain ⟨rfl, k, w, q, e1, rfl, e2⟩ := y
  rw [List.getElem?_map, e1] at e
  cases e
  exact ⟨fun _ _ z => z, fun hl => keyT_at e2 (nt_tup e2 hl)⟩
/-- the dict's object u holds the keys ks -/
def DKeys (u : HO) (ks : List PyData) : Prop := (∃ kvs, u = .dK kvs ∧ ks = kvs.map fun p => keyD p.1) ∨ ∃ kvs, u = .dT kvs ∧ ks = kvs.map fun p => keyT p.1
theorem DKeys.di {u : HO} {ks : List PyData} (h : DKeys u ks) : DiO u := by rcases h with ⟨_, rfl, _⟩ | ⟨_, rfl, _⟩ <;> trivial
theorem At.dict_u {v : V} {dd : List (PyData × PyData)} (h : At H L v (.dict dd)) : ∃ d u, v = .ref d ∧ ¬ L d ∧ DKeys u (dd.map (·.1)) ∧ (H d = some u ∨ ∃ o, H d = some (.frz o u)) := by
  cases h with
  | dK n r k _ => exact ⟨_, _, rfl, n, .inl ⟨_, rfl, k⟩, r⟩
  | dT n r k _ => exact ⟨_, _, rfl, n, .inr ⟨_, rfl, k⟩, r⟩
end
section
variable {c : Cxt} {e : En} {Lf : AdP} {adr : Nat → Addr} {S : Sto} {H : Hp} {σ : L2.St} {ρ : Env'} {d : Addr} {u : HO} {od : Obj} {i : Nat} {pos : Pos}
theorem it_keys {b : Bool} {ks : List PyData} (hk : DKeys u ks) (hz : ks.length ≤ sizeLine) (hs : σ[i]? = some (some (.ref d))) (hd : H d = some (.frz od u)) (n : ¬ Lvv Lf adr S d) (s : StOk c Lf adr S H) (R : It → Hp → Prop)
    (hR : ∀ J adr' H', Ext adr S H adr' S H' → StOk c Lf adr' S H' → ItOk b Lf H' (Lvv Lf adr' S) J ks → ks.length ≤ sizeLine → R J H') : iKeys (tVar i) σ H R := by
  refine ⟨.ref d, hs, d, od, rfl, ?_⟩
  have stay : ∀ H' L', Tr H (Lvv Lf adr S) H' L' → H' d = some (.frz od u) := fun H' L' t => (t d (by rw [hd]; exact fun z => nomatch z) n).1.2.2.2 _ _ hd
  rcases hk with ⟨kvs, rfl, rfl⟩ | ⟨kvs, rfl, rfl⟩
  · exact .inl ⟨kvs, hd, hR _ adr H .refl s (fun H' L' t _ => now_keys (stay H' L' t)) hz⟩
  · exact .inr ⟨kvs, hd, hR _ adr H .refl s (fun H' L' t _ => now_keysT (stay H' L' t)) hz⟩
def keysAt (i : Nat) (ρ : Env') : Option (List PyData) := match ρ[i]? with
  | some (some (.p (.dict dd))) => if dd.length ≤ sizeLine then some (dd.map (·.1)) else none
  | _ => none
theorem keysAt_inv {ks : List PyData} (h : keysAt i ρ = some ks) : ∃ dd, ρ[i]? = some (some (.p (.dict dd))) ∧ ks = dd.map (·.1) ∧ ks.length ≤ sizeLine := by
  unfold keysAt at h
  split at h
  · rename_i dd q
    split at h
    · rename_i hz
      cases h
      exact ⟨dd, q, rfl, by simpa using hz⟩
    · cases h
  · cases h
theorem rt_unlock {adr' : Nat → Addr} {S' : Sto} {H' : Hp} {d' : D} {v : V} {E : Ends} (I : Ok c e adr S σ H ρ) (h : H d = some u) (hu : DiO u) (n : ¬ Lvv (LfN e σ ρ) adr S d) (x : Ext e.adr e.S (lkH e.H d (.frz od u)) adr' S' H') (s : StOk c e.Lf adr' S' H')
    (b0 : Tr (upd H d (.frz od u)) (Lvv (LfN e σ ρ) adr S) H' (Lvv e.Lf adr' S')) (r : DR c.K H' (Lvv e.Lf adr' S') e.Lf (LvC adr' S') adr' S'.length v d') (w : OutOk c e E (.rt d' S')) : H' d = some (.frz od u) ∧ E.rt v (upd H' d u) := by
  obtain ⟨sm, nL⟩ := b0 d (by rw [upd_same]; exact fun z => nomatch z) n
  have hf : H' d = some (.frz od u) := sm.2.2.2 _ _ upd_same
  refine ⟨hf, w v adr' _ ⟨x.len, x.ad, fun a o q nc => ?_, fun a q => ?_, fun a z => ?_⟩ (s.unlock hf hu) (fun a h0 n0 => ?_) (r.unlock hf hu)⟩
  · by_cases ea : a = d
    · subst ea
      have := I.ext.keep a o q nc
      rw [h] at this
      rw [upd_same]
      exact this
    · rw [upd_ne ea]
      exact x.keep a o (by rw [lkH_ne ea]; exact q) nc
  · by_cases ea : a = d
    · rw [ea, upd_same]; exact fun z => nomatch z
    · rw [upd_ne ea]; exact x.trk a fun z => q (lkH_none.mp z)
  · exact (x.live a z).imp id fun w => lkH_none.mp w
  · obtain ⟨s1, n1⟩ := I.base a h0 n0
    have there : H a ≠ none := s1.there h0
    by_cases ea : a = d
    · subst ea
      have e1 : upd H' a u a = H a := by rw [upd_same, h]
      refine ⟨⟨fun xs q => e1.trans (s1.1 xs q), fun xs q => e1.trans (s1.2.1 xs q), fun v q => (s1.2.2.1 v q).imp (fun z => e1.trans z) fun ⟨o, z⟩ => ⟨o, e1.trans z⟩, fun o v q => e1.trans (s1.2.2.2 o v q)⟩, nL⟩
    · obtain ⟨s2, n2⟩ := b0 a (by rw [upd_ne ea]; exact there) n1
      have e0 : (upd H d (.frz od u)) a = H a := upd_ne ea
      have e1 : upd H' d u a = H' a := upd_ne ea
      have s3 : SmAt H (upd H' d u) a := ⟨fun xs q => e1.trans (s2.1 xs (e0.trans q)), fun xs q => e1.trans (s2.2.1 xs (e0.trans q)), fun v q => (s2.2.2.1 v (q.imp (fun z => e0.trans z) fun ⟨o, z⟩ => ⟨o, e0.trans z⟩)).imp (fun z => e1.trans z) fun ⟨o, z⟩ => ⟨o, e1.trans z⟩, fun o v q => e1.trans (s2.2.2.2 o v (e0.trans q))⟩
      exact ⟨s1.trans s3, n2⟩
/-- for x in d, d a slot -/
def sForK (is : List Nat) (i : Nat) (g : Gv) (b : Sv) : Sv := fun ρ S => (keysAt i ρ).bind fun ks => forL g (sFg is b) ks (wipeE ρ is) S
theorem sv_forK {is js : List Nat} {gg : TG} {tb : TS} {g : Gv} {b : Sv} (vg : GvOk c js gg g) (nf : GNf js g) (vb : SvOk c tb b) :
    SvOk c (fun D σ H => tLock (tFor (iKeys (tVar i)) gg tb) D σ H ∨ tFor (iKeys (tVar i)) gg tb D σ H) (sForK is i g b) := fun e adr S σ H ρ o D I h w => by
  unfold sForK at h
  obtain ⟨ks, e1, e2⟩ := Option.bind_eq_some_iff.mp h
  obtain ⟨dd, q, hks, hz⟩ := keysAt_inv e1
  obtain ⟨v, hs, r⟩ := I.eok.slot i _ q
  obtain ⟨d, u, rfl, n, hk, hd⟩ := At.dict_u r
  rw [← hks] at hk
  have hu := hk.di
  rcases hd with hd | ⟨od, hd⟩
  · refine .inl ⟨d, u, hd, hu.mut, fun od => ?_⟩
    have I1 := (I.lock (od := od) hd hu n).into
    have I2 := I1
    refine sv_for_at (is := is) (S1 := S) (o := o) I1 (fun R hR => it_keys hk hz hs upd_same n I1.eok.sto R hR) vg nf vb e2 ?_
    cases o with
    | nx ρ' S' =>
      intro adr' σ' H' I'
      obtain ⟨hf, J⟩ := I.unlock (e1 := e) hd hu n I'
      exact ⟨hf, w adr' σ' _ J⟩
    | bk ρ' S' =>
      intro adr' σ' H' I'
      obtain ⟨hf, J⟩ := I.unlock (e1 := e) hd hu n I'
      exact ⟨hf, w adr' σ' _ J⟩
    | ct ρ' S' =>
      intro adr' σ' H' I'
      obtain ⟨hf, J⟩ := I.unlock (e1 := e) hd hu n I'
      exact ⟨hf, w adr' σ' _ J⟩
    | rt d' S' =>
      intro v adr' H' x s b0 r'
      exact rt_unlock I hd hu n x s b0 r' w
  · refine .inr ?_
    have s1 : StOk c (LfN e σ ρ) adr S H := I.eok.sto
    exact sv_for_at (is := is) (S1 := S) I (fun R hR => it_keys hk hz hs hd n s1 R hR) vg nf vb e2 w
theorem ds_forK {is js : List Nat} {x : Str} {tg : Expr} {body : List Stmt} {g : Gv} {b : Sv} {p : Pos} (hN : c.N[i]? = some x) (hv : Vis c.sc x) (hd : (x == ("__debug__" : Str)) = false) (hcd : (x == ("__classdict__" : Str)) = false) (hg : DG c js tg g) (nf : GNf js g) (hb : DSs c body b) (hs : ∀ X, InC c X → ∀ y, foldedSetIterable (.Name x p) X.env y = pure y) : DS c (.For tg (.Name x p) body [] pos) (sForK is i g b) := by
  obtain ⟨gg, pg, vg⟩ := hg
  obtain ⟨tb, pb, vb⟩ := hb
  refine ⟨_, fun X hX => ?_, sv_forK vg nf vb⟩
  have h : PS X (.For tg (.Name x p) body [] pos) (tFor (iKeys (tVar i)) gg tb) := ps_for (by rw [hX.xe]; exact PassesOwn.never) hX.calm (pi_keys (pe_var (by rw [hX.N]; exact hN) (by rw [hX.sc]; exact hv) hd hcd)) (pg X hX) (pb X hX) (hs X hX)
  exact ps_or (ps_lock h) h
theorem forK (i : Nat) {is js : List Nat} {x : Str} {tg : Expr} {body : List Stmt} {g : Gv} {b : Sv} {p : Pos} (hg : DG c js tg g) (nf : GNf js g) (hb : DSs c body b) (hN : c.N[i]? = some x := by rfl) (hv : Vis c.sc x := by first | exact Or.inl rfl | exact Or.inr (Or.inl rfl) | exact Or.inr (Or.inr rfl)) (hd : (x == ("__debug__" : Str)) = false := by decide) (hcd : (x == ("__classdict__" : Str)) = false := by decide)
    (hs : ∀ X, InC c X → ∀ y, foldedSetIterable (.Name x p) X.env y = pure y := by exact fun _ _ _ => rfl) : DS c (.For tg (.Name x p) body [] pos) (sForK is i g b) := ds_forK hN hv hd hcd hg nf hb hs
/-! comprehensions -/
def lCompK (is : List Nat) (i : Nat) (g : Gv) (t : Tv) (f : Ev) : Lsv := fun ρ S => (keysAt i ρ).bind fun ks => compL g t f (wipeE ρ is) ks S
variable {g : Gv} {t : Tv} {f : Ev}
theorem lv_compK {is vs : List Nat} {gg : TG} {tt : TT} {te : TE} {scope : Scope} (vg : GvOk (c.blk scope) is gg g) (vt : TvOk (c.blk scope) tt t) (ve : EvOk (c.blk scope) te f) (his : ∀ j ∈ is, j ∈ vs) :
    LvOk c (fun σ H Q => tLockE (tLc (iKeys (tVar i)) gg tt te vs) σ H Q ∨ tLc (iKeys (tVar i)) gg tt te vs σ H Q) (lCompK vs i g t f) := fun Lf adr S σ H ρ ds S' Q I h w => by
  unfold lCompK at h
  obtain ⟨ks, e1, e2⟩ := Option.bind_eq_some_iff.mp h
  obtain ⟨dd, q, hks, hz⟩ := keysAt_inv e1
  obtain ⟨v, hs, r⟩ := I.slot i _ q
  obtain ⟨d, u, rfl, n, hk, hd⟩ := At.dict_u r
  rw [← hks] at hk
  have hu := hk.di
  rcases hd with hd | ⟨od, hd⟩
  · refine .inl ⟨d, u, hd, hu.mut, fun od => ?_⟩
    have I1 := I.lock (od := od) hd hu n
    refine lv_comp_at I1 (fun R hR => it_keys hk hz hs upd_same n I1.sto R hR) vg vt ve his e2 fun p ws adr' H' x s hp hq r' => ?_
    have hf : H' d = some (.frz od u) := x.keep d _ upd_same fun z => n (.inr z)
    have hpd : p ≠ d := fun z => by rw [z, upd_same] at hp; cases hp
    have hp0 : H p = none := by rw [upd_ne hpd] at hp; exact hp
    refine ⟨hf, w p ws adr' _ ⟨x.len, x.ad, fun a o q nc => ?_, fun a q => ?_, fun a z => ?_⟩ (s.unlock hf hu) hp0 (by rw [upd_ne hpd]; exact hq) (AtL.trW (unlock_tr hf hu) _ r')⟩
    · by_cases ea : a = d
      · subst ea
        rw [upd_same, ← hd]
        exact q
      · rw [upd_ne ea]
        exact x.keep a o (by rw [upd_ne ea]; exact q) nc
    · by_cases ea : a = d
      · rw [ea, upd_same]; exact fun z => nomatch z
      · rw [upd_ne ea]; exact x.trk a (by rw [upd_ne ea]; exact q)
    · rcases x.live a z with w | w
      · exact .inl w
      · by_cases ea : a = d
        · rw [ea, upd_same] at w; cases w
        · rw [upd_ne ea] at w; exact .inr w
  · exact .inr (lv_comp_at I (fun R hR => it_keys hk hz hs hd n I.sto R hR) vg vt ve his e2 w)
end
end DL
namespace DL
open PySem PySem.Spec L2
open PyProof.Rows hiding St
/-! ### list(d), sorted(d), dict(pairs), of data -/
section
variable {X : Cx} {pins : List (Addr × Obj)} {σ : L2.St} {H : Hp} {s : Shared} {L : AdP}
theorem vals_of_get : ∀ {vs : List V} {us : List Value}, vs.length = us.length → (∀ (i : Nat) (v : V) (u : Value), vs[i]? = some v → us[i]? = some u → RelV v u) → Vals vs us
  | [], [], _, _ => .nil
  | [], _ :: _, e, _ => by simp at e
  | _ :: _, [], e, _ => by simp at e
  | v :: vs, u :: us, e, h => .cons (h 0 v u rfl rfl) (vals_of_get (by simpa using e) fun i v' u' h1 h2 => h (i + 1) v' u' (by simpa using h1) (by simpa using h2))
/-- a dict's entries in the heap, and as data -/
structure RawD (X : Cx) (H : Hp) (L : AdP) (s : Shared) (a : Addr) (dd : List (PyData × PyData)) (es : Array DictEntry) (ep : Nat) : Prop where
  raw : s.heap.DictRaw a es ep
  lo : (a == sysModules) = false
  sz : es.size = dd.length
  z : dd.length ≤ sizeLine
  ex : ∃ ks vs : List V, Vals ks (es.toList.map (·.key)) ∧ AtL H L ks (dd.map (·.1)) ∧ Vals vs (es.toList.map (·.val)) ∧ AtL H L vs (dd.map (·.2))
theorem raw_of {a : Addr} {dd : List (PyData × PyData)} (I : Inv X pins σ H s) (hl : ∀ z, L z → Nt H z) (h : Vw X.K H L (.ref a) (.dict dd)) : ∃ es ep, RawD X H L s a dd es ep := by
  obtain ⟨a', q, h⟩ := h.dict_inv
  cases q
  rcases h with ⟨kvs, r, k, w⟩ | ⟨kvs, r, k, w⟩
  · obtain ⟨hz, lo, vs, rel, dd'⟩ := dk_rd I.hok r
    obtain ⟨es, ep, raw, hs, hent⟩ := dd'.raw
    have hlen : kvs.length = vs.length := Paired.length rel
    have hdl : dd.length = kvs.length := by have := congrArg List.length k; simpa using this
    refine ⟨es, ep, raw, lo, by omega, by omega, kvs.map fun p => kV p.1, kvs.map (·.2), vals_of_get (by simp; omega) fun i v u e1 e2 => ?_, ?_, vals_of_get (by simp; omega) fun i v u e1 e2 => ?_, w⟩
    · rw [List.getElem?_map] at e1 e2
      obtain ⟨⟨kk, x⟩, u1, rfl⟩ := Option.map_eq_some_iff.mp e1
      obtain ⟨en, u2, rfl⟩ := Option.map_eq_some_iff.mp e2
      obtain ⟨y, hy, _⟩ := kv_get rel u1
      rw [Array.getElem?_toList] at u2
      obtain ⟨hi, e3⟩ := Array.getElem?_eq_some_iff.mp u2
      have := (hent i hi kk y hy).1
      rw [e3] at this
      exact relV_key (show keyIs kk en.key = true from this)
    · rw [k, show kvs.map (fun p => kV p.1) = (kvs.map (·.1)).map kV from by rw [List.map_map]; rfl, show kvs.map (fun p => keyD p.1) = (kvs.map (·.1)).map keyD from by rw [List.map_map]; rfl]
      exact keys_atL _
    · rw [List.getElem?_map] at e1 e2
      obtain ⟨⟨kk, x⟩, u1, rfl⟩ := Option.map_eq_some_iff.mp e1
      obtain ⟨en, u2, rfl⟩ := Option.map_eq_some_iff.mp e2
      obtain ⟨y, hy, ry⟩ := kv_get rel u1
      rw [Array.getElem?_toList] at u2
      obtain ⟨hi, e3⟩ := Array.getElem?_eq_some_iff.mp u2
      have := (hent i hi kk y hy).2
      rw [e3] at this
      rw [this]
      exact ry
  · obtain ⟨hz, lo, xs, rel, dd'⟩ := dt_rd I.hok r
    obtain ⟨es, ep, raw, hs, hent⟩ := dd'.raw
    have hlen : kvs.length = xs.length := Paired.length rel
    have hdl : dd.length = kvs.length := by have := congrArg List.length k; simpa using this
    have hrel : ∀ i, i < kvs.length → ∃ p q, kvs[i]? = some p ∧ xs[i]? = some q ∧ p.1 = q.1 ∧ H q.2.1 = some (.tup (p.1.map kV)) ∧ RelV p.2 q.2.2 := fun i hi => by
      have e1 := List.getElem?_eq_getElem hi
      obtain ⟨q, e2, e3⟩ := paired_get rel e1
      exact ⟨_, q, e1, e2, e3⟩
    refine ⟨es, ep, raw, lo, by omega, by omega, xs.map fun q => V.ref q.2.1, kvs.map (·.2), vals_of_get (by simp; omega) fun i v u e1 e2 => ?_, .of_get (by simp; omega) fun i v u e1 e2 => ?_, vals_of_get (by simp; omega) fun i v u e1 e2 => ?_, w⟩
    · rw [List.getElem?_map] at e1 e2
      obtain ⟨q, u1, rfl⟩ := Option.map_eq_some_iff.mp e1
      obtain ⟨en, u2, rfl⟩ := Option.map_eq_some_iff.mp e2
      rw [Array.getElem?_toList] at u2
      obtain ⟨hi, e3⟩ := Array.getElem?_eq_some_iff.mp u2
      obtain ⟨y, hy, h1, _⟩ := hent i hi
      rw [u1] at hy
      cases hy
      rw [← e3]
      exact h1
    · rw [List.getElem?_map] at e1
      obtain ⟨q, u1, rfl⟩ := Option.map_eq_some_iff.mp e1
      have hi : i < kvs.length := by have := (List.getElem?_eq_some_iff.mp u1).1; omega
      obtain ⟨p, q', f1, f2, f3, f4, f5⟩ := hrel i hi
      rw [u1] at f2
      cases f2
      rw [k, List.getElem?_map, f1] at e2
      cases e2
      exact keyT_at f4 (nt_tup f4 hl)
    · rw [List.getElem?_map] at e1 e2
      obtain ⟨p, u1, rfl⟩ := Option.map_eq_some_iff.mp e1
      obtain ⟨en, u2, rfl⟩ := Option.map_eq_some_iff.mp e2
      have hi : i < kvs.length := (List.getElem?_eq_some_iff.mp u1).1
      obtain ⟨p', q', f1, f2, f3, f4, f5⟩ := hrel i hi
      rw [u1] at f1
      cases f1
      rw [Array.getElem?_toList] at u2
      obtain ⟨hi2, e3⟩ := Array.getElem?_eq_some_iff.mp u2
      obtain ⟨y, hy, _, h2, _⟩ := hent i hi2
      rw [f2] at hy
      cases hy
      rw [← e3, h2]
      exact f5
/-- the items collected from a dict are its keys -/
theorem items_keys {es : Array DictEntry} {acc : Array Value} (h : ItemsOf (fun i v => ∃ hi : i < es.size, v = es[i].key) acc es.size) : acc.toList = es.toList.map (·.key) := by
  refine List.ext_getElem? fun i => ?_
  rw [Array.getElem?_toList, List.getElem?_map, Array.getElem?_toList]
  rcases Nat.lt_or_ge i es.size with hi | hi
  · have ha : i < acc.size := by rw [h.1]; exact hi
    have e1 : acc[i]? = some acc[i] := Array.getElem?_eq_getElem ha
    obtain ⟨_, e2⟩ := h.2 i _ e1
    rw [e1, e2, Array.getElem?_eq_getElem hi]
    rfl
  · rw [Array.getElem?_eq_none (by rw [h.1]; exact hi), Array.getElem?_eq_none hi]
    rfl
/-- as rCL, where what is avoided is known to be no tuple -/
def rCLn (K : PySem.W.Frag) (op : List PyData → Option (List PyData)) : List V → Hp → VK → Prop := fun vs H Q => ∃ (L : AdP) (ds rs : List PyData), (∀ z, L z → Nt H z) ∧ VwL K H L vs ds ∧ op ds = some rs ∧ GrL H L Q rs
def listDk : List PyData → Option (List PyData)
  | [.dict dd] => some (dd.map (·.1))
  | _ => none
theorem hc_listK (hc : X.calm = true) : CallR X (.type "list") (rCLn X.K listDk) := by
  intro pins s σ H vs us Q I rs h
  obtain ⟨L, ds, r, hl, hv, e, q⟩ := h
  unfold listDk at e
  split at e
  · rename_i dd
    cases e
    obtain ⟨v, rfl, h1⟩ := hv.one
    obtain ⟨u, rfl, ru⟩ := vals1 rs
    obtain ⟨a, rfl, _⟩ := h1.dict_inv
    cases ru
    obtain ⟨es, ep, R⟩ := raw_of I hl h1
    obtain ⟨ks, vs, g1, g2, _, _⟩ := R.ex
    refine PySem.W.kdl_call (PySem.KdlSrc.rawDict (es := es) (ep := ep) R.lo) (I.ok.hd hc) R.raw (by rw [R.sz]; exact R.z) fun h' tk acc c hk hD hacc => ?_
    have hn : H s.heap.objs.size = none := I.hok.fresh (Nat.le_refl _)
    have hz : ks.length ≤ sizeLine := by have := g2.length; simp at this; have := R.z; omega
    exact ⟨.ref s.heap.objs.size, upd H s.heap.objs.size (.lst ks), I.laid (t' := tk) hk (Nat.le_refl _) (show ObjOk X.prog X.w _ _ _ (.lst ks) from ⟨hz, acc.toList, c, by rw [items_keys hacc]; exact g1, by rw [Array.toArray_toList]; exact hD⟩), rfl, q _ ks _ hn (upd_grow hn) upd_same g2⟩
  · cases e
open PySem PySem.W PySem.Calls PyProof.Rows in
theorem sorted_src {prog : Program} {w : World} {A : Around} {E : Value → Shared → Prop} {s : Shared} {T : String} {r d : Addr} {n : Nat} {P : Nat → Value → Prop} {OK : Heap → Prop} {vs : List Value} {bs : List PyData} {R : Value → PyData → Prop} {Q : Value → Shared → Prop} (K : KdlSrc prog w T r d n P OK) (hh : A.handled = none) (hok : OK s.heap) (hn : n ≤ sizeLine)
    (hvs : ∀ acc, ItemsOf P acc n → acc.toList = vs) (e : EachIs R vs bs) (er : EachIs (fun v b => ∃ as, Reads s.heap v b as) vs bs) (hal : AllAlike bs) (hk : Srt bs) (hL : bs.length ≤ sizeLine)
    (hu : ∀ b, b ∈ bs → A.units + 2 + b.depth < cLine) (h : ∀ D h2 tk out c, (∀ b o, s.heap.get? b = some o → h2.get? b = some o) → s.heap.get? D = none → h2.get? D = some (listOf (List.toArray out) c) → out.length = bs.length → EachIs R out (bs.mergeSort (dataLe false id)) → Q (.ref D) { s with heap := h2, toks := tk }) :
    wpAny (model prog w) A (call (.builtin "sorted") [.ref r]) Q E s := by
  have hlen := e.length
  refine call_function_entry kind_sorted plain_sorted entry_sorted (args_sorted1 _) ?_
  unfold Builtin.«sorted»
  refine wpAny_bind (m := checkCount "sorted" 1 1 _) (wpAny_pure ?_)
  refine wpAny_bind (kdu_collect (A := A.in1) K hh hok hn fun h' tk acc hkp hacc => ?_)
  rw [hvs acc hacc]
  refine wpAny_bind (wpAny_newList ?_ (by omega))
  have hD : (h'.push { cls := .type "list", data := .seq vs.toArray }).get? h'.objs.size = some (seqObj "list" vs.toArray 0) := Heap.get?_push_size _ rfl
  have hold : ∀ b o, s.heap.get? b = some o → b ≠ h'.objs.size := fun b o q => Nat.ne_of_lt (Heap.lt_size (hkp b o q))
  have hnone : s.heap.get? h'.objs.size = none := by
    cases q : s.heap.get? h'.objs.size with
    | none => rfl
    | some o => exact absurd rfl (hold _ _ q)
  have er' : EachIs (fun v b => ∃ as, Reads (sortingHeap (h'.push { cls := .type "list", data := .seq vs.toArray }) h'.objs.size vs) v b as) vs bs := er.mono fun _ _ ⟨as, r⟩ => ⟨as, PyProof.Rows.Reads.keeps (fun b o q => (sortingHeap_old (hold b o q) (Heap.get?_push_of_some _ (hkp b o q)))) r⟩
  show wpAny _ _ _ _ _ { s with heap := h'.push { cls := .type "list", data := .seq vs.toArray }, toks := tk }
  refine wpAny_bind (wpAny_holding (wpAny_call_entry slot_list_sort ⟨_, hD, rfl⟩ entry_list_sort ?body (args_list_sort _)))
  case body =>
    refine wpAny_mono (list_sort_vals (s := { s with heap := h'.push { cls := .type "list", data := .seq vs.toArray }, toks := tk }) (κ := dataKind (sortingHeap (h'.push { cls := .type "list", data := .seq vs.toArray }) h'.objs.size vs) bs) (P := fun f s' => f = .done (.ret .none) ∧ Q (.ref h'.objs.size) s') hD
      (srt_at (s := { s with heap := sortingHeap (h'.push { cls := .type "list", data := .seq vs.toArray }) h'.objs.size vs, toks := tk }) er' hal hk (by exact hu)) (by omega) ⟨rfl, ?_⟩) (fun f s' hf => ?_) fun _ _ e => e
    · obtain ⟨c, hc2⟩ := sortedHeap_at (out := (sortVals (dataKind (sortingHeap (h'.push { cls := .type "list", data := .seq vs.toArray }) h'.objs.size vs) bs) false vs vs).toArray) hD
      refine h _ _ tk (sortVals _ false vs vs) c (fun b o q => ?_) hnone hc2 (by rw [sortVals_length false rfl]; exact hlen) (by have q := sortVals_data (enc := id) false e (by simpa using er'); simp only [List.map_id_fun, id] at q; exact q hal)
      rw [sortedHeap_old (hold b o q) (by rw [Heap.size_push]; exact Nat.lt_succ_of_lt (Heap.lt_size (hkp b o q)))]
      exact Heap.get?_push_of_some _ (hkp b o q)
    · obtain ⟨rfl, hq⟩ := hf
      exact ⟨_, rfl, wpAny_pure ⟨_, rfl, hq⟩⟩
def sortDk : List PyData → Option (List PyData)
  | [.dict dd] => if sortB (dd.map (·.1)) = true then some ((dd.map (·.1)).mergeSort (PySem.W.dataLe false id)) else none
  | _ => none
theorem hc_sortedK (hc : X.calm = true) (hu : X.A.units + 100 < cLine) : CallR X (.builtin "sorted") (rCLn X.K sortDk) := by
  intro pins s σ H vs us Q I rs h
  obtain ⟨L, ds, r, hl, hv, e, q⟩ := h
  unfold sortDk at e
  split at e
  · rename_i dd
    split at e
    · rename_i hc2
      cases e
      obtain ⟨v, rfl, h1⟩ := hv.one
      obtain ⟨u, rfl, ru⟩ := vals1 rs
      obtain ⟨a, rfl, _⟩ := h1.dict_inv
      cases ru
      obtain ⟨es, ep, R⟩ := raw_of I hl h1
      obtain ⟨ks, vs, g1, g2, _, _⟩ := R.ex
      obtain ⟨f1, al, so⟩ := sortB_ok hc2
      obtain ⟨p1, p2⟩ := fitL_ok f1
      have hz : (dd.map (·.1)).length ≤ sizeLine := by rw [List.length_map]; exact R.z
      refine sorted_src (PySem.KdlSrc.rawDict (es := es) (ep := ep) R.lo) (I.ok.hd hc) R.raw (by rw [R.sz]; exact R.z) (fun acc ha => items_keys ha) (each_of_at I g2 g1) (each_reads I g2 g1 p1) al so hz (fun b hb => ?_) fun D h2 tk out c hk hn0 hc ho eo => ?_
      · have := (fitN_ok 20 b (List.all_eq_true.mp f1 b hb)).2
        show X.A.units + 2 + b.depth < cLine
        omega
      · obtain ⟨ys, rv', r'⟩ := at_of_each eo
        have hz : ys.length ≤ sizeLine := by
          have := rv'.length
          omega
        have hn : H D = none := I.hok.gone hn0
        exact ⟨.ref D, _, I.laidN (t' := tk) hk hn0 hn (show ObjOk X.prog X.w _ _ _ (.lst ys) from ⟨hz, out, c, rv', hc⟩), rfl, q _ ys _ hn (upd_grow hn) upd_same r'⟩
    · cases e
  · cases e
end
end DL
namespace DL
open PySem PySem.Spec L2
open PyProof.Rows hiding St
/-! ### dict(pairs) -/
section
variable {X : Cx} {pins : List (Addr × Obj)} {σ : L2.St} {H : Hp} {s : Shared} {L : AdP}
def pairsOf : List PyData → Option (List (PyData × PyData))
  | [] => some []
  | .tuple [k, v] :: ds => (pairsOf ds).map fun r => (k, v) :: r
  | _ => none
theorem pairsOf_eq : ∀ {ds : List PyData} {prs : List (PyData × PyData)}, pairsOf ds = some prs → ds = prs.map fun p => .tuple [p.1, p.2]
  | [], prs, h => by cases h; rfl
  | d :: ds, prs, h => by
    unfold pairsOf at h
    split at h
    · rename_i e; cases e
    · rename_i k v ds' e
      cases e
      obtain ⟨r, h1, rfl⟩ := Option.map_eq_some_iff.mp h
      rw [pairsOf_eq h1]
      rfl
    · cases h
theorem pairsOf_map : ∀ {prs : List (PyData × PyData)}, pairsOf (prs.map fun p => .tuple [p.1, p.2]) = some prs
  | [] => rfl
  | (k, v) :: prs => by
    rw [List.map_cons, pairsOf, pairsOf_map]
    rfl
theorem pairs_data (I : Inv X pins σ H s) : ∀ {vs : List V} {us : List Value} {prs : List (PyData × PyData)}, Vals vs us → AtL H L vs (prs.map fun p => .tuple [p.1, p.2]) →
    ∃ (Tl : List Addr) (ps : List (Value × Value)) (kx : List (V × V)), us = Tl.map Value.ref ∧ Tl.length = prs.length ∧ ps.length = prs.length ∧ kx.length = prs.length ∧ (∀ (j : Nat) (k v : Value), ps[j]? = some (k, v) → ∃ b, Tl[j]? = some b ∧ PairAt s.heap b k v) ∧
      Vals (kx.map (·.1)) (ps.map (·.1)) ∧ Vals (kx.map (·.2)) (ps.map (·.2)) ∧ AtL H L (kx.map (·.1)) (prs.map (·.1)) ∧ AtL H L (kx.map (·.2)) (prs.map (·.2))
  | _, _, [], r, h => by
    cases h
    cases r
    exact ⟨[], [], [], rfl, rfl, rfl, rfl, fun j k v e => by simp at e, .nil, .nil, .nil, .nil⟩
  | _, _, (k, x) :: prs, r, h => by
    cases h with
    | cons a b =>
      cases r with
      | cons ra rb =>
        obtain ⟨Tl, ps, kx, e1, e2, e3, e4, e5, e6, e7, e8, e9⟩ := pairs_data I rb b
        cases a with
        | tup n e r =>
          cases r with
          | cons r1 r2 =>
            cases r2 with
            | cons r2 r3 =>
              cases r3
              obtain ⟨its, rv, ht, _⟩ := I.tuple (.of e)
              obtain ⟨u, y, ei, ru, ry⟩ := vals2 rv
              subst ei
              cases ra
              refine ⟨_ :: Tl, (u, y) :: ps, (_, _) :: kx, by rw [e1]; rfl, by simp [e2], by simp [e3], by simp [e4], fun j k v q => ?_, .cons ru e6, .cons ry e7, .cons r1 e8, .cons r2 e9⟩
              cases j with
              | zero =>
                cases q
                exact ⟨_, rfl, .inl ht⟩
              | succ j => simpa using e5 j k v (by simpa using q)
/-- the same, as tuple keys -/
theorem keysT_of (hl : ∀ z, L z → Nt H z) : ∀ {vs : List (V × V)} {ds : List (PyData × PyData)}, AtL H L (vs.map (·.1)) (ds.map (·.1)) → AtL H L (vs.map (·.2)) (ds.map (·.2)) → (ds.all fun q => isKT q.1) = true →
    ∃ kvs : List (List Key × Addr × V), vs = kvs.map (fun kv => (.ref kv.2.1, kv.2.2)) ∧ (∀ kv ∈ kvs, H kv.2.1 = some (.tup (kv.1.map kV))) ∧ ds.map (·.1) = kvs.map (fun p => keyT p.1) ∧ AtL H L (kvs.map (·.2.2)) (ds.map (·.2))
  | [], [], _, _, _ => ⟨[], rfl, (fun kv h => by cases h), rfl, .nil⟩
  | [], _ :: _, h, _, _ => by cases h
  | _ :: _, [], h, _, _ => by cases h
  | (x, y) :: vs, (k, d) :: ds, h1, h2, h3 => by
    cases h1 with
    | cons a1 b1 =>
      cases h2 with
      | cons a2 b2 =>
        rw [List.all_cons, Bool.and_eq_true] at h3
        obtain ⟨kvs, e1, e0, e2, e3⟩ := keysT_of hl b1 b2 h3.2
        obtain ⟨key, ek⟩ := isKT_key h3.1
        simp only at ek
        subst ek
        have a1 : At H L x (keyT key) := a1
        cases a1 with
        | @tup q xs _ n e r =>
          have := at_keys r
          subst this
          refine ⟨(key, q, y) :: kvs, by rw [e1]; rfl, fun kv hk => ?_, by simp [e2], .cons a2 e3⟩
          rcases List.mem_cons.mp hk with rfl | hk
          · exact e
          · exact e0 kv hk
def mergeT (kvs more : List (List Key × V)) : List (List Key × V) := more.foldl (fun acc kv => putK acc kv.1 kv.2) kvs
theorem merge_relT : ∀ {more : List (List Key × V)} {ds : List (PyData × PyData)} {kvs : List (List Key × V)} {dd : List (PyData × PyData)}, ds.map (·.1) = more.map (fun p => keyT p.1) → AtL H L (more.map (·.2)) (ds.map (·.2)) →
    dd.map (·.1) = kvs.map (fun p => keyT p.1) → AtL H L (kvs.map (·.2)) (dd.map (·.2)) →
    (ds.foldl (fun acc p => putD acc p.1 p.2) dd).map (·.1) = (mergeT kvs more).map (fun p => keyT p.1) ∧ AtL H L ((mergeT kvs more).map (·.2)) ((ds.foldl (fun acc p => putD acc p.1 p.2) dd).map (·.2))
  | [], [], _, _, _, _, h3, h4 => ⟨h3, h4⟩
  | [], _ :: _, _, _, h, _, _, _ => by simp at h
  | _ :: _, [], _, _, h, _, _, _ => by simp at h
  | (k, v) :: more, (kd, d) :: ds, kvs, dd, h1, h2, h3, h4 => by
    simp only [List.map_cons, List.cons.injEq] at h1
    cases h2 with
    | cons a b =>
      obtain ⟨g1, g2⟩ := put_rel (f := keyT) (fun a b => eqv_keyT a b) k a h3 h4
      have e : kd = keyT k := h1.1
      rw [List.foldl_cons]
      simp only
      rw [e]
      have r := merge_relT (more := more) h1.2 b g1 g2
      exact r
theorem kt_merge : ∀ {more : List (List Key × Addr × V)} {us : List Value} {kvs : List (List Key × V)} {xs : List (List Key × Addr × Value)}, Vals (more.map (·.2.2)) us → (∀ kv ∈ more, H kv.2.1 = some (.tup (kv.1.map kV))) → KT H kvs xs →
    KT H (mergeT kvs (more.map fun p : List Key × Addr × V => (p.1, p.2.2))) (storedAllH xs ((more.zip us).map fun p => (p.1.1, p.1.2.1, p.2)))
  | [], _, _, _, r, _, h => by cases r; exact h
  | p :: more, _, _, _, r, ht, h => by
    cases r with
    | cons a b =>
      have h1 := h.put p.1 (ht p List.mem_cons_self) a
      exact kt_merge (more := more) b (fun kv hk => ht kv (List.mem_cons_of_mem _ hk)) h1
theorem length_mergeT : ∀ (more kvs : List (List Key × V)), (mergeT kvs more).length ≤ kvs.length + more.length
  | [], kvs => Nat.le_refl _
  | p :: more, kvs => by
    have h1 := length_putK kvs p.1 p.2
    have h2 := length_mergeT more (putK kvs p.1 p.2)
    show (mergeT (putK kvs p.1 p.2) more).length ≤ _
    simp only [List.length_cons]
    omega
/-- a call that gives a new object -/
def rCF (K : PySem.W.Frag) (op : List PyData → Option PyData) : List V → Hp → VK → Prop := fun vs H Q => ∃ (L : AdP) (ds : List PyData) (m : PyData), (∀ z, L z → Nt H z) ∧ VwL K H L vs ds ∧ op ds = some m ∧
  ∀ p H', (∀ a o, H a = some o → H' a = some o) → H p = none → Ob H' (fun a => L a ∨ a = p) p m → Q (.ref p) H'
def dictPs (ds : List PyData) : Option PyData := if ds.length ≤ sizeLine then (pairsOf ds).bind fun prs => if (prs.all fun q => isKK q.1) = true ∨ (prs.all fun q => isKT q.1) = true then some (.dict (mergeD prs)) else none else none
def dictP : List PyData → Option PyData
  | [.list ds] => dictPs ds
  | [.dict dd] => if (dd.all fun q => isKK q.1) = true then some (.dict dd) else none
  | _ => none
theorem hc_dictP (hc : X.calm = true) (hu : X.A.units + 100 < cLine) : CallR X (.type "dict") (rCF X.K dictP) := by
  intro pins s σ H vs us Q I rs h
  obtain ⟨L, ds, m, hl, hv, e, q⟩ := h
  unfold dictP at e
  split at e
  · rename_i ds
    unfold dictPs at e
    split at e
    · rename_i hz
      obtain ⟨prs, e1, e2⟩ := Option.bind_eq_some_iff.mp e
      obtain rfl := pairsOf_eq e1
      obtain ⟨v, rfl, h1⟩ := hv.one
      obtain ⟨u, rfl, ru⟩ := vals1 rs
      obtain ⟨a, xs, rfl, hq, r2⟩ := h1.list_inv
      cases ru
      obtain ⟨its, rv, pl, hz2⟩ := I.list hq
      obtain ⟨Tl, ps, kx, rfl, f2, f3, f4, f5, f6, f7, f8, f9⟩ := pairs_data I rv r2
      have hn : H s.heap.objs.size = none := I.hok.fresh (Nat.le_refl _)
      have hm : (s.heap.objs.size == sysModules) = false := beq_eq_false_iff_ne.mpr (Nat.ne_of_gt I.big)
      have hpl : PlainSeq "list" s.heap a (Tl.map Value.ref).toArray := by
        obtain ⟨o, n, ho, hcl, hd, hdat⟩ := pl
        exact ⟨o, n, ho, hcl, hd, hdat⟩
      have hpi : PairItems s.heap (Tl.map Value.ref).toArray (fun j => Tl.getD j 0) ps := by
        refine ⟨by simp; omega, fun j k v q => ?_⟩
        obtain ⟨b, g1, g2⟩ := f5 j k v q
        have : Tl.getD j 0 = b := by rw [List.getD_eq_getElem?_getD, g1]; rfl
        dsimp only
        rw [this]
        refine ⟨by simp [g1], g2⟩
      have hps : ps.length ≤ sizeLine := by rw [f3]; simpa using hz
      split at e2
      · rename_i hk
        cases e2
        by_cases hkk : (prs.all fun q => isKK q.1) = true
        · obtain ⟨kvs, rfl, k2, k3⟩ := keys_of f8 f9 hkk
          have hkl : kvs.length = prs.length := by simpa using f4
          have hrel : ∀ (i : Nat) (kv : Key × V), kvs[i]? = some kv → ∃ p : Value × Value, ps[i]? = some p ∧ RelV (kV kv.1) p.1 ∧ RelV kv.2 p.2 := fun i kv q => by
            have g1 := f6.get (i := i) (x := kV kv.1) (by rw [List.getElem?_map, List.getElem?_map, q]; rfl)
            have g2 := f7.get (i := i) (x := kv.2) (by rw [List.getElem?_map, List.getElem?_map, q]; rfl)
            obtain ⟨u1, g1, g3⟩ := g1
            obtain ⟨u2, g2, g4⟩ := g2
            rw [List.getElem?_map] at g1 g2
            obtain ⟨p, p1, rfl⟩ := Option.map_eq_some_iff.mp g1
            rw [p1] at g2
            cases g2
            exact ⟨p, p1, g3, g4⟩
          have hkv : ∀ {kvs : List (Key × V)} {ps : List (Value × Value)}, kvs.length = ps.length → (∀ (i : Nat) (kv : Key × V), kvs[i]? = some kv → ∃ p : Value × Value, ps[i]? = some p ∧ RelV (kV kv.1) p.1 ∧ RelV kv.2 p.2) → KV kvs (List.zipWith (fun (kv : Key × V) (p : Value × Value) => (kv.1, p.2)) kvs ps) := fun {kvs} => by
            induction kvs with
            | nil => intro ps _ _; cases ps <;> exact .nil
            | cons kv kvs ih =>
              intro ps hl hr
              cases ps with
              | nil => simp at hl
              | cons p ps =>
                obtain ⟨p', e1, _, e3⟩ := hr 0 kv rfl
                cases e1
                exact .cons ⟨rfl, e3⟩ (ih (by simpa using hl) fun i kv' q => by simpa using hr (i + 1) kv' (by simpa using q))
          have rel := hkv (show kvs.length = ps.length by omega) hrel
          refine call_dict_pairs (knd := mixKind X.prog X.w) (kvs := List.zipWith (fun (kv : Key × V) (p : Value × Value) => (kv.1, p.2)) kvs ps) (PairArg.list a _ _ ps) (I.ok.hd hc) ⟨hpl, hpi⟩ ⟨by rw [List.length_zipWith]; omega, fun i key v q => ?_⟩ hps fun h' tk hd' hk' => ?_
          · have q : ps[i]? = some (key, v) := q
            have hi : i < kvs.length := by have := (List.getElem?_eq_some_iff.mp q).1; omega
            have hi2 := List.getElem?_eq_getElem hi
            obtain ⟨p, p1, p2, _⟩ := hrel i _ hi2
            rw [q] at p1
            cases p1
            exact ⟨kvs[i].1, by rw [List.getElem?_zipWith, hi2, q], kV_is p2⟩
          · have hlen : (mergeK [] kvs).length ≤ sizeLine := by
              refine Nat.le_trans (length_mergeK kvs []) ?_
              simp
              omega
            obtain ⟨g1, g2⟩ := merge_rel (kvs := []) (dd := []) k2 k3 rfl .nil
            refine ⟨.ref s.heap.objs.size, upd H s.heap.objs.size (.dK (mergeK [] kvs)), I.laid (t' := tk) (fun b o e => hk' b o (by simp) e) (Nat.le_refl _) (show ObjOk X.prog X.w _ _ _ (.dK (mergeK [] kvs)) from ⟨hlen, hm, _, KV.merge rel .nil, hd'⟩), rfl, q _ _ (upd_grow hn) hn (.inl ⟨_, upd_same, g1, ?_⟩)⟩
            exact g2.tr fun z h1 h2 => ⟨.of fun o q => upd_grow hn z o q, fun h3 => h3.elim h2 fun h4 => h1 (by rw [h4]; exact hn)⟩
        · have hkt := hk.resolve_left hkk
          obtain ⟨kvs, rfl, k1, k2, k3⟩ := keysT_of hl f8 f9 hkt
          have hkl : kvs.length = prs.length := by simpa using f4
          have e6 : (kvs.map fun kv : List Key × Addr × V => (V.ref kv.2.1, kv.2.2)).map (·.2) = kvs.map (·.2.2) := by rw [List.map_map]; rfl
          rw [e6] at f7
          have hus : (ps.map (·.2)).length = kvs.length := by simp; omega
          have rel := kt_merge (kvs := []) (xs := []) f7 k1 .nil
          have hps3 : ∀ (i : Nat) (key v : Value), ps[i]? = some (key, v) → ∃ (k : List Key) (b : Addr), ((kvs.zip (ps.map (·.2))).map fun p : (List Key × Addr × V) × Value => (p.1.1, p.1.2.1, p.2))[i]? = some (k, b, v) ∧ key = Value.ref b := fun i key v q => by
            have hi : i < kvs.length := by have := (List.getElem?_eq_some_iff.mp q).1; omega
            have hi2 := List.getElem?_eq_getElem hi
            have g1 := f6.get (i := i) (x := V.ref kvs[i].2.1) (by rw [List.getElem?_map, List.getElem?_map, hi2]; rfl)
            obtain ⟨u1, g1, g3⟩ := g1
            rw [List.getElem?_map, q] at g1
            cases g1
            refine ⟨kvs[i].1, kvs[i].2.1, ?_, g3⟩
            have hz : (kvs.zip (ps.map (·.2)))[i]? = some (kvs[i], v) := List.getElem?_zip_eq_some.mpr ⟨hi2, by rw [List.getElem?_map, q]; rfl⟩
            rw [List.getElem?_map, hz]
            rfl
          refine call_dict_pairsH (knd := tupleKind (mixKind X.prog X.w)) (ps := (kvs.zip (ps.map (·.2))).map fun p : (List Key × Addr × V) × Value => (p.1.1, p.1.2.1, p.2)) (PairArg.list a _ _ ps) (I.ok.hd hc) (tupleKind_room_in1 (by show X.A.in1.units + 1 < cLine; have : X.A.in1.units = X.A.units + 1 := rfl; omega)) ⟨hpl, hpi⟩ ⟨by simp; omega, hps3⟩ (fun h' hk' x hx => ?_) hps fun h' tk hd' hk' => ?_
          · obtain ⟨⟨kv, u⟩, hkv, rfl⟩ := List.mem_map.mp hx
            have := k1 kv (List.of_mem_zip hkv).1
            obtain ⟨o, arr, n, w1, w2, w3, w4⟩ := key_of I.hok this
            exact ⟨o, arr, n, hk' _ o (Nat.ne_of_lt (Heap.lt_size w1)) (by simp) w1, w2, w3, w4⟩
          · have hlen : (mergeT [] (kvs.map fun p : List Key × Addr × V => (p.1, p.2.2))).length ≤ sizeLine := by
              refine Nat.le_trans (length_mergeT _ []) ?_
              simp
              omega
            obtain ⟨g1, g2⟩ := merge_relT (kvs := []) (dd := []) (more := kvs.map fun p : List Key × Addr × V => (p.1, p.2.2)) (by rw [k2, List.map_map]; rfl) (by rw [List.map_map]; exact k3) rfl .nil
            obtain ⟨o, es, ep, w1, w2, w3, w4, w5, w6⟩ := hd'
            refine ⟨.ref s.heap.objs.size, upd H s.heap.objs.size (.dT (mergeT [] (kvs.map fun p : List Key × Addr × V => (p.1, p.2.2)))), I.laid (t' := tk) (fun b o e => hk' b o (by simp) e) (Nat.le_refl _) (show ObjOk X.prog X.w _ _ _ (.dT _) from ⟨hlen, hm, _, rel.keeps (fun b ys e => upd_grow hn b _ e), o, es, ep, w1, w2, w3, w4, w6⟩), rfl, q _ _ (upd_grow hn) hn (.inr ⟨mergeT [] (kvs.map fun p : List Key × Addr × V => (p.1, p.2.2)), upd_same, g1, ?_⟩)⟩
            exact g2.tr fun z h1 h2 => ⟨.of fun o q => upd_grow hn z o q, fun h3 => h3.elim h2 fun h4 => h1 (by rw [h4]; exact hn)⟩
      · cases e2
    · cases e
  · rename_i dd
    split at e
    · rename_i hkk
      cases e
      obtain ⟨v, rfl, h1⟩ := hv.one
      obtain ⟨u, rfl, ru⟩ := vals1 rs
      obtain ⟨a, rfl, h2⟩ := h1.dict_inv
      have fin : ∀ kvs, dd.map (·.1) = kvs.map (fun p => keyD p.1) → AtL H L (kvs.map (·.2)) (dd.map (·.2)) → ∀ p, H p = none → Q (.ref p) (upd H p (.dK kvs)) := fun kvs k w p hp =>
        q p _ (upd_grow hp) hp (.inl ⟨_, upd_same, k, w.tr fun z h1 h2 => ⟨.of fun o q => upd_grow hp z o q, fun h3 => h3.elim h2 fun h4 => h1 (by rw [h4]; exact hp)⟩⟩)
      rcases h2 with ⟨kvs, r, k, w⟩ | ⟨kvs, r, k, w⟩
      · exact call_dictD pins s σ H _ _ Q I rs ⟨a, kvs, rfl, r, fin kvs k w⟩
      · cases kvs with
        | nil =>
          have hdd : dd = [] := by simpa using k
          subst hdd
          cases ru
          obtain ⟨z, lo, _, _, _⟩ := dt_rd I.hok r
          have hm : (s.heap.objs.size == sysModules) = false := beq_eq_false_iff_ne.mpr (Nat.ne_of_gt I.big)
          refine kt_call_dict lo (dT_emptyO I r) (Nat.zero_le _) fun h' d' hs => ?_
          exact ⟨.ref s.heap.objs.size, upd H s.heap.objs.size (.dK []), I.laid (t' := s.toks) (fun b u e => (hs.2 b (Nat.ne_of_lt (Heap.lt_size e))).trans (Heap.get?_push_of_some _ e)) (Nat.le_refl _)
            (show ObjOk X.prog X.w _ _ _ (.dK []) from ⟨z, hm, [], .nil, d'⟩), rfl, fin [] rfl .nil _ (I.hok.fresh (Nat.le_refl _))⟩
        | cons kv kvs =>
          cases dd with
          | nil => simp at k
          | cons p dd =>
            simp only [List.map_cons, List.cons.injEq] at k
            rw [List.all_cons, Bool.and_eq_true, k.1] at hkk
            rw [kt_not_kk] at hkk
            exact absurd hkk.1 (by decide)
    · cases e
  · cases e
end
end DL
namespace DL
open PySem PySem.Spec L2
open PyProof.Rows hiding St
/-! ### sorted(d.items()), list(d.items()) -/
open PySem PySem.W PySem.Calls PyProof.Rows in
theorem sort_body {prog : Program} {w : World} {A : Around} {E : Value → Shared → Prop} {s0 : Shared} {h' : Heap} {tk : Nat} {vs : List Value} {bs : List PyData} {R : Value → PyData → Prop} {Q : Shared → Prop}
    (e : EachIs R vs bs) (er : EachIs (fun v b => ∃ as, Reads h' v b as) vs bs) (hal : AllAlike bs) (hk : Srt bs) (hL : bs.length ≤ sizeLine) (hu : ∀ b, b ∈ bs → A.units + 1 + b.depth < cLine)
    (h : ∀ h2 out c, (∀ b o, h'.get? b = some o → h2.get? b = some o) → h2.get? h'.objs.size = some (listOf (List.toArray out) c) → out.length = bs.length → EachIs R out (bs.mergeSort (dataLe false id)) → Q { s0 with heap := h2, toks := tk }) :
    wpAny (model prog w) A (call (.builtin "list.sort") [.ref h'.objs.size]) (fun _ s' => Q s') E { s0 with heap := h'.push { cls := .type "list", data := .seq vs.toArray }, toks := tk } := by
  have hlen := e.length
  have hD : (h'.push { cls := .type "list", data := .seq vs.toArray }).get? h'.objs.size = some (seqObj "list" vs.toArray 0) := Heap.get?_push_size _ rfl
  have hold : ∀ b o, h'.get? b = some o → b ≠ h'.objs.size := fun b o q => Nat.ne_of_lt (Heap.lt_size q)
  have er' : EachIs (fun v b => ∃ as, Reads (sortingHeap (h'.push { cls := .type "list", data := .seq vs.toArray }) h'.objs.size vs) v b as) vs bs := er.mono fun _ _ ⟨as, r⟩ => ⟨as, PyProof.Rows.Reads.keeps (fun b o q => (sortingHeap_old (hold b o q) (Heap.get?_push_of_some _ q))) r⟩
  refine wpAny_call_entry slot_list_sort ⟨_, hD, rfl⟩ entry_list_sort ?body (args_list_sort _)
  case body =>
    refine wpAny_mono (list_sort_vals (s := { s0 with heap := h'.push { cls := .type "list", data := .seq vs.toArray }, toks := tk }) (κ := dataKind (sortingHeap (h'.push { cls := .type "list", data := .seq vs.toArray }) h'.objs.size vs) bs) (P := fun f s' => f = .done (.ret .none) ∧ Q s') hD
      (srt_at (s := { s0 with heap := sortingHeap (h'.push { cls := .type "list", data := .seq vs.toArray }) h'.objs.size vs, toks := tk }) er' hal hk (by exact hu)) (by omega) ⟨rfl, ?_⟩) (fun f s' hf => ?_) fun _ _ e => e
    · obtain ⟨c, hc2⟩ := sortedHeap_at (out := (sortVals (dataKind (sortingHeap (h'.push { cls := .type "list", data := .seq vs.toArray }) h'.objs.size vs) bs) false vs vs).toArray) hD
      refine h _ (sortVals _ false vs vs) c (fun b o q => ?_) hc2 (by rw [sortVals_length false rfl]; exact hlen) (by have q := sortVals_data (enc := id) false e (by simpa using er'); simp only [List.map_id_fun, id] at q; exact q hal)
      rw [sortedHeap_old (hold b o q) (by rw [Heap.size_push]; exact Nat.lt_succ_of_lt (Heap.lt_size q))]
      exact Heap.get?_push_of_some _ q
    · obtain ⟨rfl, hq⟩ := hf
      exact ⟨_, rfl, hq⟩
/-- the wish of a new list of perhaps new data -/
abbrev GrL2 (H : Hp) (L : AdP) (Q : VK) (r : List PyData) : Prop := ∀ p ws H2 H', (∀ a o, H a = some o → H2 a = some o) → (∀ a o, H2 a = some o → H' a = some o) → H2 p = none → H' p = some (.lst ws) → AtL H2 L ws r → Q (.ref p) H'
def itemsOf (dd : List (PyData × PyData)) : List PyData := dd.map fun p => .tuple [p.1, p.2]
section
variable {X : Cx} {pins : List (Addr × Obj)} {σ : L2.St} {H : Hp} {s : Shared} {L : AdP}
/-- the new pairs are tracked -/
theorem items_in {a : Addr} {dd : List (PyData × PyData)} {es : Array DictEntry} {ep : Nat} {h' : Heap} {tk : Nat} {as : List Addr} {lo : Addr} {Hs : Hp} (I : Inv X pins σ H s) (hl : ∀ z, L z → Nt H z) (R : RawD X H L s a dd es ep) (hlo : s.heap.objs.size ≤ lo)
    (I1 : Inv X pins σ Hs { s with heap := h', toks := tk }) (hs : ∀ b, lo < b → H b = none → Hs b = none) (hle : as.length = es.size) (G : DT.Made es lo h' as) :
    ∃ H2, Inv X pins σ H2 { s with heap := h', toks := tk } ∧ (∀ b o, Hs b = some o → H2 b = some o) ∧ ∀ Hm : Hp, (∀ b o, H b = some o → Hm b = some o) → (∀ b ∈ as, Hm b = H2 b) → AtL Hm L (as.map V.ref) (itemsOf dd) := by
  obtain ⟨ks, vs, g1, g2, g3, g4⟩ := R.ex
  have hkl := g1.length
  have hvl := g3.length
  simp only [List.length_map, Array.length_toList] at hkl hvl
  have hsz := R.sz
  have nd : as.Nodup := List.Pairwise.imp (fun {a b} (h : a < b) => Nat.ne_of_lt h) G.rise
  have ent : ∀ (j : Nat) (b : Addr), as[j]? = some b → ∃ vk vx uk ux, ks[j]? = some vk ∧ vs[j]? = some vx ∧ RelV vk uk ∧ RelV vx ux ∧ h'.get? b = some { cls := .type "tuple", data := .seq #[uk, ux] } := fun j b hj => by
    obtain ⟨e, he, ho⟩ := G.pairs j b hj
    have hj2 : j < es.size := (Array.getElem?_eq_some_iff.mp he).1
    have h1 : ks[j]? = some ks[j] := List.getElem?_eq_getElem (by omega)
    have h2 : vs[j]? = some vs[j] := List.getElem?_eq_getElem (by omega)
    obtain ⟨uk, q1, r1⟩ := g1.get h1
    obtain ⟨ux, q2, r2⟩ := g3.get h2
    rw [List.getElem?_map, Array.getElem?_toList, he] at q1 q2
    cases q1
    cases q2
    exact ⟨_, _, _, _, h1, h2, r1, r2, ho⟩
  obtain ⟨H2, I2, k2, t2⟩ := L2.DX.takeT (P := fun b xs => ∃ j vk vx, as[j]? = some b ∧ ks[j]? = some vk ∧ vs[j]? = some vx ∧ xs = [vk, vx]) I as Hs I1 nd fun b hb => by
    obtain ⟨j, hj⟩ := List.mem_iff_getElem?.mp hb
    obtain ⟨vk, vx, uk, ux, h1, h2, r1, r2, ho⟩ := ent j b hj
    refine ⟨Nat.le_trans hlo (Nat.le_of_lt (G.above b hb)), hs b (G.above b hb) (I.hok.fresh (Nat.le_trans hlo (Nat.le_of_lt (G.above b hb)))), [vk, vx], ⟨j, vk, vx, hj, h1, h2, rfl⟩, fun H2 => ⟨by show 2 ≤ sizeLine; decide, [uk, ux], .cons r1 (.cons r2 .nil), ⟨_, ho, rfl, _, rfl⟩⟩⟩
  refine ⟨H2, I2, k2, fun Hm km mm => .of_get (by unfold itemsOf; simp; omega) fun i v d e1 e2 => ?_⟩
  · rw [List.getElem?_map] at e1
    obtain ⟨b, hb, rfl⟩ := Option.map_eq_some_iff.mp e1
    obtain ⟨xs, ⟨j, vk, vx, hj, h1, h2, rfl⟩, ht⟩ := t2 b (List.mem_of_getElem? hb)
    have hij : i = j := by
      have p1 := (List.getElem?_eq_some_iff.mp hb)
      have p2 := (List.getElem?_eq_some_iff.mp hj)
      obtain ⟨p1, p1'⟩ := p1
      obtain ⟨p2, p2'⟩ := p2
      exact (List.getElem_inj nd).mp (p1'.trans p2'.symm)
    subst hij
    unfold itemsOf at e2
    rw [List.getElem?_map] at e2
    obtain ⟨p, hp, rfl⟩ := Option.map_eq_some_iff.mp e2
    obtain ⟨kd, q1, a1⟩ := g2.get' h1
    obtain ⟨xd, q2, a2⟩ := g4.get' h2
    rw [List.getElem?_map, hp] at q1 q2
    cases q1
    cases q2
    have tr : Tr H L Hm L := fun z _ n => ⟨.of fun o q => km z o q, n⟩
    rw [← mm b (List.mem_of_getElem? hb)] at ht
    have hn : H b = none := by
      have hb' := List.mem_of_getElem? hb
      exact I.hok.fresh (Nat.le_trans hlo (Nat.le_of_lt (G.above b hb')))
    exact .tup (fun z => by obtain ⟨o, e, _⟩ := hl b z; rw [hn] at e; cases e) ht (.cons (At.tr tr _ a1) (.cons (At.tr tr _ a2) .nil))
theorem refs_vals : ∀ as : List Addr, Vals (as.map V.ref) (as.map Value.ref)
  | [] => .nil
  | a :: as => .cons rfl (refs_vals as)
def sortItems (dd : List (PyData × PyData)) : Option (List PyData) := if sortB (itemsOf dd) = true then some ((itemsOf dd).mergeSort (PySem.W.dataLe false id)) else none
def tItems (K : PySem.W.Frag) (op : List (PyData × PyData) → Option (List PyData)) (te : TE) : TE := fun σ H Q => te σ H fun x H1 => ∃ (L : AdP) (dd : List (PyData × PyData)) (r : List PyData), (∀ z, L z → Nt H1 z) ∧ Vw K H1 L x (.dict dd) ∧ op dd = some r ∧ GrL2 H1 L Q r
theorem pe_sortItems {e : Expr} {te : TE} {apos cpos pos p : Pos} (hc : X.calm = true) (hu : X.A.units + 100 < cLine) (he : PE X e te) (hg : Gl X "sorted") (hm : X.mg "sorted" = none) (hbase : attributeBase e "items" X.env (eval e X.env) = eval e X.env := by rfl) (hline : (apos.endLine == cpos.line) = true := by rfl)
    (hs : starEach [.Call (.Attribute e "items" apos) [] [] cpos] X.env = (false, eval (.Call (.Attribute e "items" apos) [] [] cpos) X.env) :: starEach [] X.env := by rfl) :
    PE X (.Call (.Name "sorted" p) [.Call (.Attribute e "items" apos) [] [] cpos] [] pos) (tItems X.K sortItems te) := by
  refine ⟨fun pins s σ H Q I hq => ?_⟩
  refine wpAny_Call_Name_kw (ld_blt I hg hm PyProof.Rows.boot_sorted ?_)
  refine PyProof.Rows.callWith_builtin1 ?_ hs rfl
  rw [hs]
  show wpAny _ _ (spliced ((false, eval (.Call (.Attribute e "items" apos) [] [] cpos) X.env) :: backTo pos (starEach [] X.env))) _ _ s
  refine Calls.spliced_cons ?_
  refine wpAny_Call_method (T := "dict") (id := "dict.items") hbase rfl hline F.plainAttrs_dict F.slot_dict_items F.type_dict_items (thn (he.run pins s σ H _ I hq) fun u s1 ⟨x, H1, I1, rx, L, dd, r, hl, hv, ho, q⟩ => ?_)
  obtain ⟨a, rfl, _⟩ := hv.dict_inv
  obtain rfl : u = Value.ref a := rx
  obtain ⟨es, ep, R⟩ := raw_of I1 hl hv
  have raw : DT.Raw s1.heap a es ep := R.raw
  have I2 : Inv X pins σ H1 { s1 with heap := s1.heap.push { cls := .type "dict_items", data := .fields #[.ref a] } } := I1.kept (t' := s1.toks) fun b ob q => Heap.get?_push_of_some _ q
  refine ⟨raw.typeIs, (fun b eb => by obtain ⟨o, h1, h2, _⟩ := R.raw; cases eb; exact ⟨o, h1, h2.2.1⟩), ?_⟩
  show wpAny _ _ (callWith cpos (.builtin "dict.items") [.ref a] [] []) _ X.xe s1
  refine method_meetsIn F.slot_dict_items F.entry_dict_items rfl (PySem.evalArgs_none ⟨rfl, raw.typeIs, F.args_dict_items_1 _, _, DT.meetsItems (es := es) (ep := ep) R.lo, raw, ?_⟩)
  refine Calls.spliced_nil ?_
  unfold sortItems at ho
  split at ho
  · rename_i hsb
    cases ho
    obtain ⟨f1, al, so⟩ := sortB_ok hsb
    obtain ⟨p1, p2⟩ := fitL_ok f1
    have hz : (itemsOf dd).length ≤ sizeLine := by unfold itemsOf; rw [List.length_map]; exact R.z
    refine DT.sortedI (es := es) (ep := ep) (I1.ok.hd hc) ⟨_, Heap.get?_push_size _ rfl, rfl, rfl⟩ (raw.push _) (by rw [R.sz]; exact R.z) fun h' tk as hk hlt hle hG => ?_
    have hk1 : ∀ b o, s1.heap.get? b = some o → h'.get? b = some o := fun b o e => hk b o (Heap.get?_push_of_some _ e)
    have hlo : s1.heap.objs.size ≤ (s1.heap.push { cls := .type "dict_items", data := .fields #[.ref a] }).objs.size := by rw [Heap.size_push]; exact Nat.le_succ _
    obtain ⟨H2, I3, k3, at3⟩ := items_in (tk := tk) I1 hl R hlo (I1.kept hk1) (fun b _ z => z) hle hG
    have rv := refs_vals as
    have at3 := at3 H2 k3 fun b _ => rfl
    refine sort_body (s0 := { s1 with heap := s1.heap.push { cls := .type "dict_items", data := .fields #[.ref a] } }) (each_of_at I3 at3 rv) (each_reads I3 at3 rv p1) al so hz (fun b hb => ?_) fun h2 out c hk2 hc2 ho2 eo => ?_
    · have := (fitN_ok 20 b (List.all_eq_true.mp f1 b hb)).2
      show X.A.in1.units + 1 + b.depth < cLine
      have : X.A.in1.units = X.A.units + 1 := rfl
      omega
    · obtain ⟨ys, rv', r'⟩ := at_of_each eo
      have hz : ys.length ≤ sizeLine := by
        have := rv'.length
        omega
      have hn2 : h'.get? h'.objs.size = none := Heap.get?_none_of_le (Nat.le_refl _)
      have hn : H2 h'.objs.size = none := I3.hok.gone hn2
      have J := I3.laidN (t' := tk) hk2 hn2 hn (show ObjOk X.prog X.w _ _ _ (.lst ys) from ⟨hz, out, c, rv', hc2⟩)
      exact ⟨.ref h'.objs.size, _, J, rfl, q _ ys H2 _ k3 (upd_grow hn) hn upd_same r'⟩
  · cases ho
end
open PySem PySem.W PySem.Calls PyProof.Rows in
theorem list_items {prog : Program} {w : World} {A : Around} {E : Value → Shared → Prop} {s : Shared} {r d : Addr} {es : Array DictEntry} {ep : Nat} {Q : Value → Shared → Prop} (hh : A.handled = none) (hv : s.heap.IsItemsView r d) (hm : DT.Raw s.heap d es ep) (hn : es.size ≤ sizeLine)
    (hQ : ∀ h' tk acc c as, (∀ b o, s.heap.get? b = some o → h'.get? b = some o) → h'.get? s.heap.objs.size = some { cls := .type "list", dict := none, data := .seq acc c, slots := #[] } → as.length = es.size → DT.Made es s.heap.objs.size h' as → acc.toList = as.map Value.ref → Q (.ref s.heap.objs.size) { s with heap := h', toks := tk }) :
    wpAny (model prog w) A (call (.type "list") [.ref r]) Q E s := by
  have hr : r < s.heap.objs.size := let ⟨_, ho, _⟩ := hv; Heap.lt_size ho
  have hd : d < s.heap.objs.size := hm.lt
  refine callType_codes (Q₁ := fun obj s₁ => obj = .ref s.heap.objs.size ∧ s₁ = { s with heap := s.heap.push { cls := .type "list", data := .seq #[] } }) PySem.F.called_list (PySem.F.typeCall_list_1 _) PySem.F.entry_list_init
    (code_list_new _ ⟨rfl, rfl⟩) fun obj s₁ h₁ => ?_
  obtain ⟨rfl, rfl⟩ := h₁
  have hS : (s.heap.push { cls := .type "list", data := .seq #[] }).get? s.heap.objs.size = some { cls := .type "list", data := .seq #[] } := Heap.get?_push_size _ rfl
  refine ⟨⟨_, hS, rfl⟩, PySem.F.args_list_init_2 _ _, ?_⟩
  show wpAny _ _ (do let old ← Builtin.List.listItems (.ref s.heap.objs.size); Builtin.List.listUpdate (.ref s.heap.objs.size) (fun _ => #[]); letGo old.toList.reverse; Builtin.List.listExtendWith (.ref s.heap.objs.size) (.ref r) .none) _ _ _
  refine wpAny_bind ?_
  unfold Builtin.List.listItems
  refine wpAny_bind (wpAny_seqItems hS rfl (wpAny_pure ?_))
  show wpAny _ _ (updateSeq s.heap.objs.size (fun _ => #[]) >>= fun _ => letGo (#[] : Array Value).toList.reverse >>= fun _ => Builtin.List.listExtendWith (.ref s.heap.objs.size) (.ref r) .none) _ _ _
  refine wpAny_bind (wpAny_updateSeq hS rfl ?_)
  have hS₂ := Heap.get?_update_self (Obj.mapSeq (fun _ => (#[] : Array Value))) hS rfl
  have oth : ∀ b o, b ≠ s.heap.objs.size → (s.heap.push { cls := .type "list", data := .seq #[] }).get? b = some o → ((s.heap.push { cls := .type "list", data := .seq #[] }).update s.heap.objs.size (Obj.mapSeq (fun _ => (#[] : Array Value)))).get? b = some o :=
    fun b o hb e => (Heap.get?_update_other _ _ (Ne.symm hb)).trans e
  have kp : ∀ b o, s.heap.get? b = some o → ((s.heap.push { cls := .type "list", data := .seq #[] }).update s.heap.objs.size (Obj.mapSeq (fun _ => (#[] : Array Value)))).get? b = some o := fun b o e => oth b o (Nat.ne_of_lt (Heap.lt_size e)) (Heap.get?_push_of_some _ e)
  refine wpAny_bind (wpAny_letGo ?_)
  refine DT.extI (A := A.in1) (R := wants (fun r s₂ => r = Value.none ∧ Q (.ref s.heap.objs.size) s₂) E) (s := { s with heap := (s.heap.push { cls := .type "list", data := .seq #[] }).update s.heap.objs.size (Obj.mapSeq (fun _ => (#[] : Array Value))) }) (es := es) (ep := ep) hh (let ⟨o, ho, x⟩ := hv; ⟨o, kp _ _ ho, x⟩) (hm.at' fun o e => kp d o e) s.heap.objs.size (Nat.ne_of_gt hr) (Nat.ne_of_lt hd) .none _ hS₂ (fun h' tk acc c as hk hS' hle hG hacc => ?_) hn
  exact ⟨rfl, hQ h' tk acc c as (fun b o e => hk b o (Nat.ne_of_lt (Heap.lt_size e)) (kp b o e)) hS' hle (hG.low (Nat.le_of_lt (Heap.lt_size hS₂))) hacc⟩
section
variable {X : Cx} {pins : List (Addr × Obj)} {σ : L2.St} {H : Hp} {s : Shared} {L : AdP}
theorem pe_listItemsD {e : Expr} {te : TE} {apos cpos pos p : Pos} (hc : X.calm = true) (he : PE X e te) (hg : Gl X "list") (hm : X.mg "list" = none) (hv : bootBuiltins "list" = some (.type "list")) (hbase : attributeBase e "items" X.env (eval e X.env) = eval e X.env := by rfl) (hline : (apos.endLine == cpos.line) = true := by rfl)
    (hs : starEach [.Call (.Attribute e "items" apos) [] [] cpos] X.env = (false, eval (.Call (.Attribute e "items" apos) [] [] cpos) X.env) :: starEach [] X.env := by rfl) :
    PE X (.Call (.Name "list" p) [.Call (.Attribute e "items" apos) [] [] cpos] [] pos) (tItems X.K (fun dd => some (itemsOf dd)) te) := by
  refine ⟨fun pins s σ H Q I hq => ?_⟩
  refine wpAny_Call_Name_kw (ld_blt I hg hm hv ?_)
  refine PyProof.Rows.callWith_type1 ?_ hs rfl
  rw [hs]
  show wpAny _ _ (spliced ((false, eval (.Call (.Attribute e "items" apos) [] [] cpos) X.env) :: backTo pos (starEach [] X.env))) _ _ s
  refine Calls.spliced_cons ?_
  refine wpAny_Call_method (T := "dict") (id := "dict.items") hbase rfl hline F.plainAttrs_dict F.slot_dict_items F.type_dict_items (thn (he.run pins s σ H _ I hq) fun u s1 ⟨x, H1, I1, rx, L, dd, r, hl, hv, ho, q⟩ => ?_)
  cases ho
  obtain ⟨a, rfl, _⟩ := hv.dict_inv
  obtain rfl : u = Value.ref a := rx
  obtain ⟨es, ep, R⟩ := raw_of I1 hl hv
  have raw : DT.Raw s1.heap a es ep := R.raw
  have I2 : Inv X pins σ H1 { s1 with heap := s1.heap.push { cls := .type "dict_items", data := .fields #[.ref a] } } := I1.kept (t' := s1.toks) fun b ob q => Heap.get?_push_of_some _ q
  refine ⟨raw.typeIs, (fun b eb => by obtain ⟨o, h1, h2, _⟩ := R.raw; cases eb; exact ⟨o, h1, h2.2.1⟩), ?_⟩
  show wpAny _ _ (callWith cpos (.builtin "dict.items") [.ref a] [] []) _ X.xe s1
  refine method_meetsIn F.slot_dict_items F.entry_dict_items rfl (PySem.evalArgs_none ⟨rfl, raw.typeIs, F.args_dict_items_1 _, _, DT.meetsItems (es := es) (ep := ep) R.lo, raw, ?_⟩)
  refine Calls.spliced_nil ?_
  refine list_items (es := es) (ep := ep) (I1.ok.hd hc) ⟨_, Heap.get?_push_size _ rfl, rfl, rfl⟩ (raw.push _) (by rw [R.sz]; exact R.z) fun h' tk acc c as hk hS hle hG hacc => ?_
  have hk1 : ∀ b o, s1.heap.get? b = some o → h'.get? b = some o := fun b o e => hk b o (Heap.get?_push_of_some _ e)
  have hlo : s1.heap.objs.size ≤ (s1.heap.push { cls := .type "dict_items", data := .fields #[.ref a] }).objs.size := by rw [Heap.size_push]; exact Nat.le_succ _
  have hz : (as.map V.ref).length ≤ sizeLine := by rw [List.length_map, hle, R.sz]; exact R.z
  have I1' : Inv X pins σ H1 { s1 with heap := h', toks := tk } := I1.kept hk1
  have hD0 : H1 (s1.heap.push { cls := .type "dict_items", data := .fields #[.ref a] }).objs.size = none := I1.hok.fresh hlo
  have J := I1'.take (h' := h') (t' := tk) (it := (s1.heap.push { cls := .type "dict_items", data := .fields #[.ref a] }).objs.size) (o := .lst (as.map V.ref)) (fun b ob _ e => e) (I1.fpOk hlo hD0) (show ObjOk X.prog X.w _ h' _ (.lst (as.map V.ref)) from ⟨hz, as.map Value.ref, c, refs_vals as, by rw [← hacc, Array.toArray_toList]; exact hS⟩)
  obtain ⟨H2, I3, k3, at3⟩ := items_in (tk := tk) I1 hl R hlo J (fun b hb z => by rw [upd_ne (Nat.ne_of_gt hb)]; exact z) hle hG
  refine ⟨.ref _, _, I3, rfl, q _ _ (fun b => if b = (s1.heap.push { cls := .type "dict_items", data := .fields #[.ref a] }).objs.size then none else H2 b) _ (fun b o e => ?_) (fun b o e => ?_) (if_pos rfl) (k3 _ _ upd_same) (at3 _ (fun b o e => ?_) fun b hb => if_neg (Nat.ne_of_gt (hG.above b hb)))⟩
  · have hb : b ≠ (s1.heap.push { cls := .type "dict_items", data := .fields #[.ref a] }).objs.size := fun z => by rw [z, hD0] at e; cases e
    show (if _ then _ else _) = _
    rw [if_neg hb]
    exact k3 b o (by rw [upd_ne hb]; exact e)
  · split at e
    · cases e
    · exact e
  · have hb : b ≠ (s1.heap.push { cls := .type "dict_items", data := .fields #[.ref a] }).objs.size := fun z => by rw [z, hD0] at e; cases e
    show (if _ then _ else _) = _
    rw [if_neg hb]
    exact k3 b o (by rw [upd_ne hb]; exact e)
end
end DL
namespace DL
open PySem PySem.Spec L2
open PyProof.Rows hiding St
/-! ### the rules for dicts, in short -/
section
variable {c : Cxt} {Lf : AdP} {adr : Nat → Addr} {S : Sto} {H : Hp} {σ : L2.St} {ρ : Env'} {pos p q p2 cpos apos : Pos} {es : List Expr} {fs : Av} {x y z : Str} {e a : Expr} {i : Nat}
theorem lv_cbn {f : List PyData → Option (List PyData)} {t : TA} (h : AvOk c t fs) : LvOk c (tCB (rCLn c.K f) t) (lB f fs) := fun Lf adr S σ H ρ d S' Q I e w => by
  unfold lB at e
  simp only [Option.bind_eq_some_iff] at e
  obtain ⟨⟨x, S1⟩, e1, ds, e2, r, e3, e4⟩ := e
  cases e4
  refine h Lf adr S σ H ρ _ _ _ I e1 fun us adr1 H1 x1 s1 r1 => ?_
  exact ⟨_, ds, _, fun z => s1.lvo, vws_ok s1 r1 e2, e3, wi_grL s1 (w.trans x1)⟩
theorem lcbn {id : String} {f : List PyData → Option (List PyData)} (hc : ∀ X, InC c X → CallR X (.builtin id) (rCLn X.K f)) (hm : c.mg x = none) (ha : DA c (e :: es) fs) (hg : c.sc.names.lookup x = some .globalImplicit := by rfl) (hv : bootBuiltins x = some (.builtin id) := by kernel_rfl)
    (hn : x ≠ "__name__" := by decide) (hdb : (x == ("__debug__" : Str)) = false := by decide) (hst : noStar (e :: es) = true := by rfl) : DLs c (.Call (.Name x p) (e :: es) [] pos) (lB f fs) := by
  obtain ⟨t, pa, va⟩ := ha
  exact ⟨_, fun X hX => by
    have h := pe_callB (p := p) (pos := pos) (hc X hX) (show Gl X x by show X.env.scope.names.lookup x = _; rw [hX.sc]; exact hg) (by rw [hX.mg]; exact hm) hv (pa X hX) hn hdb (star_cons hst) (star_any (star_tl hst))
    rw [hX.K] at h
    exact h, lv_cbn va⟩
theorem lctn {T : String} {f : List PyData → Option (List PyData)} (hc : ∀ X, InC c X → CallR X (.type T) (rCLn X.K f)) (hm : c.mg x = none) (ha : DA c (e :: es) fs) (hg : c.sc.names.lookup x = some .globalImplicit := by rfl) (hv : bootBuiltins x = some (.type T) := by kernel_rfl)
    (hn : x ≠ "__name__" := by decide) (hdb : (x == ("__debug__" : Str)) = false := by decide) (hst : noStar (e :: es) = true := by rfl) : DLs c (.Call (.Name x p) (e :: es) [] pos) (lB f fs) := by
  obtain ⟨t, pa, va⟩ := ha
  exact ⟨_, fun X hX => by
    have h := pe_callTy (p := p) (pos := pos) (hc X hX) (show Gl X x by show X.env.scope.names.lookup x = _; rw [hX.sc]; exact hg) (by rw [hX.mg]; exact hm) hv (pa X hX) hn hdb (star_cons hst) (star_any (star_tl hst))
    rw [hX.K] at h
    exact h, lv_cbn va⟩
/-- sorted(d), list(d), d a dict -/
theorem soK (hm : c.mg "sorted" = none) (ha : DA c (e :: es) fs) (hg : c.sc.names.lookup ("sorted" : Str) = some .globalImplicit := by rfl) (hst : noStar (e :: es) = true := by rfl) : DLs c (.Call (.Name "sorted" p) (e :: es) [] pos) (lB sortDk fs) := lcbn (fun X hX => hc_sortedK hX.calm hX.un) hm ha hg (hst := hst)
theorem liK (hm : c.mg "list" = none) (ha : DA c (e :: es) fs) (hg : c.sc.names.lookup ("list" : Str) = some .globalImplicit := by rfl) (hst : noStar (e :: es) = true := by rfl) : DLs c (.Call (.Name "list" p) (e :: es) [] pos) (lB listDk fs) := lctn (fun X hX => hc_listK hX.calm) hm ha hg (hst := hst)
/-- a call that makes an object -/
def fB (f : List PyData → Option PyData) (fs : Av) : Fsv := fun ρ S => (fs ρ S).bind fun p => (vws p.2 p.1).bind fun ds => (f ds).bind fun r => some (r, p.2)
theorem fv_cb {f : List PyData → Option PyData} {t : TA} (h : AvOk c t fs) : FvOk c (tCB (rCF c.K f) t) (fB f fs) := fun Lf adr S σ H ρ m S' Q I e w => by
  unfold fB at e
  simp only [Option.bind_eq_some_iff] at e
  obtain ⟨⟨x, S1⟩, e1, ds, e2, r, e3, e4⟩ := e
  cases e4
  refine h Lf adr S σ H ρ _ _ _ I e1 fun us adr1 H1 x1 s1 r1 => ?_
  refine ⟨_, ds, _, fun z => s1.lvo, vws_ok s1 r1 e2, e3, fun p' H' k hp ob => ?_⟩
  have hp0 : H p' = none := by
    cases w : H p' with
    | none => rfl
    | some o => exact absurd hp (x1.trk p' (by rw [w]; exact fun z => nomatch z))
  have eL : (fun a => Lvv Lf adr1 S1 a ∨ a = p') = Lvv (fun a => Lf a ∨ a = p') adr1 S1 := funext fun a => propext ⟨fun z => z.elim (fun z => z.imp .inl id) fun z => .inl (.inr z), fun z => z.elim (fun z => z.imp .inl id) fun z => .inl (.inr z)⟩
  rw [eL] at ob
  refine w p' adr1 H' (x1.trans (.grow k)) (s1.grow k fun a z => ?_) hp0 ob
  rcases z with z | rfl
  · exact ⟨.inl z, (s1.lfo a z).keep (k a)⟩
  · exact ⟨.inr hp, Ob.nt ob⟩
theorem diK (hm : c.mg "dict" = none) (ha : DA c (e :: es) fs) (hg : c.sc.names.lookup ("dict" : Str) = some .globalImplicit := by rfl) (hv : bootBuiltins "dict" = some (.type "dict") := by kernel_rfl) (hst : noStar (e :: es) = true := by rfl) : DF c (.Call (.Name "dict" p) (e :: es) [] pos) (fB dictP fs) := by
  obtain ⟨t, pa, va⟩ := ha
  exact ⟨_, fun X hX => by
    have h := pe_callTy (p := p) (pos := pos) (hc_dictP hX.calm hX.un) (show Gl X "dict" by show X.env.scope.names.lookup ("dict" : Str) = _; rw [hX.sc]; exact hg) (by rw [hX.mg]; exact hm) hv (pa X hX) (by decide) (by decide) (star_cons hst) (star_any (star_tl hst))
    rw [hX.K] at h
    exact h, fv_cb va⟩
theorem wi_grL2 (s : StOk c Lf adr S H) {Q : VK} {r : List PyData} (w : WiL c Lf adr S H Q r S) : GrL2 H (Lvv Lf adr S) Q r := fun p ws H2 H' k1 k2 hp e a => by
  have k : ∀ a o, H a = some o → H' a = some o := fun a o q => k2 a o (k1 a o q)
  have hp0 : H p = none := by
    cases q : H p with
    | none => rfl
    | some o => rw [k1 _ _ q] at hp; cases hp
  refine w p ws adr H' (.grow k) (s.grow k fun z hz => ?_) hp0 e (a.tr fun z h1 h2 => ⟨.of fun o q => k2 z o q, fun h3 => ?_⟩)
  · rcases hz with hz | hz
    · exact ⟨.inl hz, (s.lfo z hz).keep (k z)⟩
    · subst hz
      exact ⟨.inr hp0, _, e, fun _ z => nomatch z⟩
  · rcases h3 with (h3 | h3) | h3
    · exact h2 (.inl h3)
    · subst h3
      exact h1 hp
    · exact h2 (.inr h3)
def lItems (op : List (PyData × PyData) → Option (List PyData)) (fa : Ev) : Lsv := fun ρ S => (fa ρ S).bind fun p => (vw p.2 p.1).bind fun m => match m with
  | .dict dd => (op dd).bind fun r => some (r, p.2)
  | _ => none
theorem lv_items {op : List (PyData × PyData) → Option (List PyData)} {ta : TE} {fa : Ev} (va : EvOk c ta fa) : LvOk c (tItems c.K op ta) (lItems op fa) := fun Lf adr S σ H ρ ds S' Q I e w => by
  unfold lItems at e
  simp only [Option.bind_eq_some_iff] at e
  obtain ⟨⟨x, S1⟩, e1, m, e2, e3⟩ := e
  refine va Lf adr S σ H ρ _ _ _ I e1 fun v adr1 H1 x1 s1 r1 => ?_
  cases m with
  | dict dd =>
    obtain ⟨r, e4, e5⟩ := Option.bind_eq_some_iff.mp e3
    cases e5
    exact ⟨_, dd, _, fun z => s1.lvo, vw_ok s1 r1 e2, e4, wi_grL2 s1 (w.trans x1)⟩
  | _ => cases e3
theorem soItems {fa : Ev} (hm : c.mg "sorted" = none) (ha : DE c e fa) (hg : c.sc.names.lookup ("sorted" : Str) = some .globalImplicit := by rfl) (hb : ∀ X, InC c X → attributeBase e "items" X.env (eval e X.env) = eval e X.env := by exact fun _ _ => rfl) (hline : (apos.endLine == cpos.line) = true := by rfl) :
    DLs c (.Call (.Name "sorted" p) [.Call (.Attribute e "items" apos) [] [] cpos] [] pos) (lItems sortItems fa) := by
  obtain ⟨t, pa, va⟩ := ha
  exact ⟨_, fun X hX => by
    have h := pe_sortItems (pos := pos) (p := p) hX.calm hX.un (pa X hX) (show Gl X "sorted" by show X.env.scope.names.lookup ("sorted" : Str) = _; rw [hX.sc]; exact hg) (by rw [hX.mg]; exact hm) (hb X hX) hline
    rw [hX.K] at h
    exact h, lv_items va⟩
theorem liItems {fa : Ev} (hm : c.mg "list" = none) (ha : DE c e fa) (hg : c.sc.names.lookup ("list" : Str) = some .globalImplicit := by rfl) (hv : bootBuiltins "list" = some (.type "list") := by kernel_rfl) (hb : ∀ X, InC c X → attributeBase e "items" X.env (eval e X.env) = eval e X.env := by exact fun _ _ => rfl) (hline : (apos.endLine == cpos.line) = true := by rfl) :
    DLs c (.Call (.Name "list" p) [.Call (.Attribute e "items" apos) [] [] cpos] [] pos) (lItems (fun dd => some (itemsOf dd)) fa) := by
  obtain ⟨t, pa, va⟩ := ha
  exact ⟨_, fun X hX => by
    have h := pe_listItemsD (pos := pos) (p := p) hX.calm (pa X hX) (show Gl X "list" by show X.env.scope.names.lookup ("list" : Str) = _; rw [hX.sc]; exact hg) (by rw [hX.mg]; exact hm) hv (hb X hX) hline
    rw [hX.K] at h
    exact h, lv_items va⟩
/-! comprehensions over a dict -/
variable {g : Gv} {t : Tv} {f : Ev} {is : List Nat} {tg elt : Expr} {ifs : List Expr} {scope : Scope} {lpos : Pos} {q2 : Pos}
theorem lcompK (i : Nat) (hN : c.N.Nodup) {own : List (Str × Nat)} (ok : BlkOk c.N c.sc scope own) (hg : DG (c.blk scope) is tg g) (ht : DTs (c.blk scope) ifs t) (he : DE (c.blk scope) elt f) (his : ∀ i ∈ is, i ∈ own.map (·.2))
    (hi : c.N[i]? = some x := by rfl) (hv : Vis c.sc x := by first | exact Or.inl rfl | exact Or.inr (Or.inl rfl) | exact Or.inr (Or.inr rfl)) (hd : (x == ("__debug__" : Str)) = false := by decide) (hcd : (x == ("__classdict__" : Str)) = false := by decide)
    (hs : ∀ X, InC c X → ∀ y, foldedSetIterable (.Name x q2) X.env y = pure y := by exact fun _ _ _ => rfl) : DLs c (.ListComp elt [⟨tg, .Name x q2, ifs, 0⟩] scope pos) (lCompK (own.map (·.2)) i g t f) := by
  obtain ⟨gg, pg, vg⟩ := hg
  obtain ⟨tt, pt, vt⟩ := ht
  obtain ⟨te, pe, ve⟩ := he
  refine ⟨_, fun X hX => ?_, lv_compK vg vt ve his⟩
  have h := pe_lc (pos := pos) hX.calm (by rw [hX.N]; exact hN) (pi_keys (tg := tg) (pe_var (pos := q2) (i := i) (by rw [hX.N]; exact hi) (by rw [hX.sc]; exact hv) hd hcd)) (by rw [hX.N, hX.sc]; exact ok) (fun s H C cl fp => pg _ (hX.blk s H scope C cl fp)) (fun s H C cl fp => pt _ (hX.blk s H scope C cl fp)) (fun s H C cl fp => pe _ (hX.blk s H scope C cl fp)) (hs X hX)
  exact pe_or' (pe_lock h) h
theorem lcK (j i : Nat) (hN : c.N.Nodup) {own : List (Str × Nat)} (ok : BlkOk c.N c.sc scope own) (hg : DG (c.blk scope) is tg g) (ht : DTs (c.blk scope) ifs t) (he : DE (c.blk scope) elt f) (his : ∀ i ∈ is, i ∈ own.map (·.2))
    (hi : c.N[i]? = some x := by rfl) (hv : Vis c.sc x := by first | exact Or.inl rfl | exact Or.inr (Or.inl rfl) | exact Or.inr (Or.inr rfl)) (hd : (x == ("__debug__" : Str)) = false := by decide) (hcd : (x == ("__classdict__" : Str)) = false := by decide)
    (hy : c.N[j]? = some y := by rfl) (hyl : c.sc.names.lookup y = some .local := by rfl) (hk : c.sc.kind = .function := by rfl) (hl : (q.line == lpos.line) = true := by rfl)
    (ha : (scope.names.any fun (n, k) => n == y && (k == .local || k == .cell)) = false := by kernel_rfl) (hs : ∀ X, InC c X → ∀ x', foldedSetIterable (.Name x q2) X.env x' = pure x' := by exact fun _ _ _ => rfl) :
    ∃ tl, (∀ X, InC c X → PS X (.Assign [.Name y q] (.ListComp elt [⟨tg, .Name x q2, ifs, 0⟩] scope lpos) pos) (tAsg tl (gName j))) ∧ LvOk c tl (lCompK (own.map (·.2)) i g t f) := by
  obtain ⟨gg, pg, vg⟩ := hg
  obtain ⟨tt, pt, vt⟩ := ht
  obtain ⟨te, pe, ve⟩ := he
  refine ⟨_, fun X hX => ?_, lv_compK vg vt ve his⟩
  have h : PS X (.Assign [.Name y q] (.ListComp elt [⟨tg, .Name x q2, ifs, 0⟩] scope lpos) pos) (tAsg (tLc (iKeys (tVar i)) gg tt te (own.map (·.2))) (gName j)) := ps_setLc hX.calm (by rw [hX.N]; exact hN) (by rw [hX.N]; exact hy) (by rw [hX.sc]; exact hyl) (sw_true (by rw [hX.sc]; exact hk) (by rw [hX.sc]; exact hyl) hl ha) (pi_keys (tg := tg) (pe_var (pos := q2) (i := i) (by rw [hX.N]; exact hi) (by rw [hX.sc]; exact hv) hd hcd)) (by rw [hX.N, hX.sc]; exact ok) (fun s H C cl fp => pg _ (hX.blk s H scope C cl fp)) (fun s H C cl fp => pt _ (hX.blk s H scope C cl fp)) (fun s H C cl fp => pe _ (hX.blk s H scope C cl fp)) (hs X hX)
  refine ps_mono (ps_or (ps_lock h) h) fun D σ H q => q.imp (fun ⟨d, u, hd, mu, w⟩ => ⟨d, u, hd, mu, fun od => w od⟩) id
end
/-! plain walking -/
section
variable {ρ : Env'} {S : Sto} {fa : Ev} {fs : Av} {i : Nat} {g : Gv} {t : Tv} {f : Ev} {b : Sv} {is : List Nat} {QS : Out → Prop} {QL : List PyData × Sto → Prop} {QF : PyData × Sto → Prop}
theorem keysAt_sl : keysAt i ρ = (sl ρ i).bind fun x => match x with | .p (.dict dd) => if dd.length ≤ sizeLine then some (dd.map (·.1)) else none | _ => none := by
  unfold keysAt sl
  rcases h : ρ[i]? with _ | (_ | d)
  · rfl
  · rfl
  · cases d <;> first | rfl | (rename_i d; cases d <;> rfl)
@[simp ↓] theorem w_forK : W (sForK is i g b ρ S) QS = W (sl ρ i) fun x => match x with | .p (.dict dd) => dd.length ≤ sizeLine ∧ W (forL g (sFg is b) (dd.map (·.1)) (wipeE ρ is) S) QS | _ => False := by
  unfold sForK
  rw [keysAt_sl, W_bind, W_bind]
  congr; funext x
  cases x <;> first | exact W_none | (rename_i d; cases d <;> first | exact W_none | exact W_req)
@[simp ↓] theorem w_compK : W (lCompK is i g t f ρ S) QL = W (sl ρ i) fun x => match x with | .p (.dict dd) => dd.length ≤ sizeLine ∧ W (compL g t f (wipeE ρ is) (dd.map (·.1)) S) QL | _ => False := by
  unfold lCompK
  rw [keysAt_sl, W_bind, W_bind]
  congr; funext x
  cases x <;> first | exact W_none | (rename_i d; cases d <;> first | exact W_none | exact W_req)
@[simp ↓] theorem w_fb {op : List PyData → Option PyData} : W (fB op fs ρ S) QF = W (fs ρ S) fun p => W (vws p.2 p.1) fun ds => W (op ds) fun r => QF (r, p.2) := by
  unfold fB
  simp only [W_bind, W_some]
@[simp ↓] theorem w_items {op : List (PyData × PyData) → Option (List PyData)} : W (lItems op fa ρ S) QL = W (fa ρ S) fun p => W (vw p.2 p.1) fun m => match m with | .dict dd => W (op dd) fun r => QL (r, p.2) | _ => False := by
  unfold lItems
  simp only [W_bind]
  congr; funext p; congr; funext m
  cases m <;> first | exact W_none | (refine W_bind.trans ?_; simp only [W_some])
@[simp] theorem listDk_d {dd : List (PyData × PyData)} : listDk [.dict dd] = some (dd.map (·.1)) := rfl
theorem sortDk_d {α : Type} {n : Nat} [DecidableEq α] {e : α → PyData} (h : Enc n e) {dd : List (PyData × PyData)} {ks : List α} (hk : dd.map (·.1) = ks.map e) (hn : n ≤ 20 := by decide) : sortDk [.dict dd] = some ((sortE e ks).map e) := by
  show (if sortB (dd.map (·.1)) = true then _ else _) = _
  rw [hk, if_pos (h.sortB ks hn)]
  exact congrArg some (List.map_mergeSort (f := e) (l := ks) (r := fun a b => dle (e a) (e b)) (s := PySem.W.dataLe false id) (fun a _ b _ => rfl)).symm
theorem dictP_l {prs : List (PyData × PyData)} (hz : prs.length ≤ sizeLine) (h : (prs.all fun q => isKK q.1) = true ∨ (prs.all fun q => isKT q.1) = true) : dictP [.list (prs.map fun p => .tuple [p.1, p.2])] = some (.dict (mergeD prs)) := by
  show dictPs _ = _
  unfold dictPs
  rw [if_pos (by rw [List.length_map]; exact hz), pairsOf_map]
  show (if _ then _ else _) = _
  rw [if_pos h]
theorem dictP_d {dd : List (PyData × PyData)} (h : (dd.all fun q => isKK q.1) = true) : dictP [.dict dd] = some (.dict dd) := by
  show (if _ then _ else _) = _
  rw [if_pos h]
end
end DL
namespace DL
open PySem PySem.Spec L2
open PyProof.Rows hiding St
/-! ### isinstance, where the value may be a dict -/
inductive TyY (K : PySem.W.Frag) (H : Hp) : V → Value → Prop where
  | x {x : V} {t : Value} (h : TyX K H x t) : TyY K H x t
  | fT {a : Addr} {o : Obj} {kvs : List (List Key × V)} (e : H a = some (.frz o (.dT kvs))) : TyY K H (.ref a) (.type "dict")
section
variable {X : Cx} {pins : List (Addr × Obj)} {σ : L2.St} {H : Hp} {s : Shared}
theorem kit_ofY {x : V} {u t : Value} (I : Inv X pins σ H s) (rx : RelV x u) (ty : TyY X.K H x t) : ∃ P : Heap → Prop, PySem.W.KitX X.K u t P ∧ P s.heap ∧ u ≠ .builtin "__main__.__loader__#opaque" := by
  cases ty with
  | x h => exact kit_of I rx h
  | @fT a ob kvs ea =>
    cases (show u = Value.ref a from rx)
    obtain ⟨_, _, _, vs, _, o, es, ep, h1, h2, _⟩ := (show ObjOk X.prog X.w H s.heap a (.frz ob (.dT kvs)) from I.hok a _ ea)
    exact ⟨_, PySem.W.kitx_dict, ⟨o, h1, h2.1⟩, fun z => nomatch z⟩
def rIsiY (K : PySem.W.Frag) : List V → Hp → VK → Prop := fun xs H Q => ∃ (x c : V) (t u : Value) (b : Bool), xs = [x, c] ∧ ClsV c u ∧ TyY K H x t ∧ PySem.W.kitOne K t u = some b ∧ Q (.bl b) H
theorem call_isiY : CallR X (.builtin "isinstance") (rIsiY X.K) := by
  intro pins s σ H xs us Q I r h
  obtain ⟨x, c, t, u, b, rfl, k, ty, e, q⟩ := h
  obtain ⟨u1, u2, rfl, r1, r2⟩ := vals2 r
  have e2 := k.eq r2
  subst e2
  obtain ⟨P, Z, p, hx⟩ := kit_ofY I r1 ty
  exact PySem.W.kia_one Z I.kIn p e hx fun tk => ⟨.bl b, H, I.tok tk, rfl, q⟩
end
section
variable {c : Cxt} {e : En} {Lf : AdP} {adr : Nat → Addr} {S : Sto} {H : Hp} {L : AdP} {σ : L2.St} {ρ : Env'} {a b : Expr} {fa fb : Ev} {pos : Pos} {es : List Expr} {fs : Av}
def isaY (T : String) (d : PyData) : Option PyData := (kitB (tyS d) T).map .bool
theorem rd_tyK {a : Addr} {kvs : List (Key × V)} {K : PySem.W.Frag} (h : Rd H a (.dK kvs)) : TyY K H (.ref a) (.type "dict") := by
  rcases h with h | ⟨o, h⟩
  · exact .x (.base (.dK h))
  · exact .x (.fDict h)
theorem rd_tyT {a : Addr} {kvs : List (List Key × V)} {K : PySem.W.Frag} (h : Rd H a (.dT kvs)) : TyY K H (.ref a) (.type "dict") := by
  rcases h with h | ⟨o, h⟩
  · exact .x (.base (.dT h))
  · exact .fT h
theorem vw_tyY {K : PySem.W.Frag} {v : V} {d : PyData} (h : Vw K H L v d) : TyY K H v (.type (tyS d)) := by
  by_cases hd : ∃ dd, d = .dict dd
  · obtain ⟨dd, rfl⟩ := hd
    cases h with
    | dat h =>
      cases h with
      | dK _ h _ _ => exact rd_tyK h
      | dT _ h _ _ => exact rd_tyT h
    | @ob a m h =>
      rcases h with ⟨kvs, h, _⟩ | ⟨kvs, h, _⟩
      · exact rd_tyK h
      · exact rd_tyT h
  · exact .x (vw_ty h fun dd z => hd ⟨dd, z⟩)
def eIsaY (T : String) (fa : Ev) : Ev := fun ρ S => (fa ρ S).bind fun p => (vw p.2 p.1).bind fun d => (isaY T d).bind fun r => some (.p r, p.2)
theorem de_isaY {T : String} {x y : Str} {p q : Pos} (hx : x = ("isinstance" : Str)) (hg : c.sc.names.lookup x = some .globalImplicit) (hm : c.mg x = none)
    (hg2 : c.sc.names.lookup y = some .globalImplicit) (hm2 : c.mg y = none) (hv : bootBuiltins y = some (.type T)) (ha : DE c a fa) (hn : y ≠ "__name__") (hdb : (y == ("__debug__" : Str)) = false)
    (hst : noStar [a, .Name y q] = true) : DE c (.Call (.Name x p) [a, .Name y q] [] pos) (eIsaY T fa) := by
  subst hx
  obtain ⟨ta, pa, va⟩ := ha
  refine ⟨tCB (rIsiY c.K) (tCons ta (tCons (tC (.ty T)) tNil)), fun X hX => ?_, fun Lf adr S σ H ρ d S' Q I e w => ?_⟩
  · have h := pe_callB (p := p) (pos := pos) (call_isiY (X := X)) (show Gl X "isinstance" by show X.env.scope.names.lookup _ = _; rw [hX.sc]; exact hg) (by rw [hX.mg]; exact hm) PyProof.Rows.boot_isinstance
      (pa_cons (pa X hX) (pa_cons (pe_bltn (pos := q) (v := .ty T) (show Gl X y by show X.env.scope.names.lookup _ = _; rw [hX.sc]; exact hg2) (by rw [hX.mg]; exact hm2) hv rfl hn hdb) pa_nil rfl) (star_cons hst)) (by decide) (by decide) (star_cons hst) (star_any (star_tl hst))
    rw [hX.K] at h
    exact h
  · unfold eIsaY at e
    simp only [Option.bind_eq_some_iff] at e
    obtain ⟨⟨x, S1⟩, e1, m, e2, r, e3, e4⟩ := e
    cases e4
    refine va Lf adr S σ H ρ _ _ _ I e1 fun v adr1 H1 x1 s1 r1 => ?_
    have hv := vw_ok s1 r1 e2
    obtain ⟨k, e6, rfl⟩ := Option.map_eq_some_iff.mp e3
    exact ⟨v, .ty T, _, _, k, rfl, .ty T, vw_tyY hv, kit_ty e6, w _ adr1 H1 x1 s1 (.bl k)⟩
variable {y : Str} {p q : Pos}
theorem isaD (T : String) (hm : c.mg "isinstance" = none) (hm2 : c.mg y = none) (ha : DE c a fa) (hg : c.sc.names.lookup ("isinstance" : Str) = some .globalImplicit := by rfl) (hg2 : c.sc.names.lookup y = some .globalImplicit := by rfl) (hv : bootBuiltins y = some (.type T) := by kernel_rfl) (hn : y ≠ "__name__" := by decide) (hdb : (y == ("__debug__" : Str)) = false := by decide)
    (hst : noStar [a, .Name y q] = true := by rfl) : DE c (.Call (.Name "isinstance" p) [a, .Name y q] [] pos) (eIsaY T fa) := de_isaY rfl hg hm hg2 hm2 hv ha hn hdb hst
variable {Q : D × Sto → Prop}
@[simp ↓] theorem w_isaY {T : String} : W (eIsaY T fa ρ S) Q = W (fa ρ S) fun p => W (vw p.2 p.1) fun d => W (isaY T d) fun r => Q (.p r, p.2) := by
  unfold eIsaY
  simp only [W_bind, W_some]
@[simp] theorem isaY_dd {dd : List (PyData × PyData)} : isaY "dict" (.dict dd) = some (.bool true) := by kernel_rfl
@[simp] theorem isaY_di {i : Int} : isaY "dict" (.int i) = some (.bool false) := by kernel_rfl
@[simp] theorem isaY_dt {xs : List PyData} : isaY "dict" (.tuple xs) = some (.bool false) := by kernel_rfl
@[simp] theorem isaY_dl {xs : List PyData} : isaY "dict" (.list xs) = some (.bool false) := by kernel_rfl
@[simp] theorem isaY_ds {x : Str} : isaY "dict" (.str x) = some (.bool false) := by kernel_rfl
@[simp] theorem isaY_dn : isaY "dict" .none = some (.bool false) := by kernel_rfl
end
end DL
namespace DL
open PySem PySem.Spec L2
open PyProof.Rows hiding St
/-! ### dict displays with tuple keys -/
section
variable {X : Cx} {pos : Pos}
/-- {k: v, ..} with keys tuples of ints and texts -/
def tDispT (trs : List (TE × TE)) : TE := fun σ H Q => ∀ p, H p = none → tPairs trs σ (upd H p (.dT [])) fun ps H2 => H2 p = some (.dT []) ∧ ∃ kvs : List (List Key × Addr × V), ps = kvs.map (fun kv => (V.ref kv.2.1, kv.2.2)) ∧
  (∀ kv ∈ kvs, H2 kv.2.1 = some (.tup (kv.1.map kV))) ∧ kvs.length ≤ 15 ∧ Q (.ref p) (upd H2 p (.dT (mergeT [] (kvs.map fun p : List Key × Addr × V => (p.1, p.2.2)))))
theorem carriesT {P : Program} {w : World} {H : Hp} {h : Heap} (ok : HOk P w H h) : ∀ {kvs : List (List Key × Addr × V)} {vs : List (Value × Value)}, VV (kvs.map fun kv => (V.ref kv.2.1, kv.2.2)) vs → (∀ kv ∈ kvs, H kv.2.1 = some (.tup (kv.1.map kV))) →
    CarriesH (tupleKind (mixKind P w)) h vs ((kvs.zip (vs.map (·.2))).map fun p : (List Key × Addr × V) × Value => (p.1.1, p.1.2.1, p.2)) ∧ Vals (kvs.map (·.2.2)) (vs.map (·.2))
  | [], _, r, _ => by cases r; exact ⟨trivial, .nil⟩
  | kv :: kvs, _, r, ht => by
    cases r with
    | @cons a b as bs h1 t =>
      obtain ⟨c, q⟩ := carriesT ok t fun kv hk => ht kv (List.mem_cons_of_mem _ hk)
      obtain ⟨b1, b2⟩ := b
      have e1 : b1 = Value.ref kv.2.1 := h1.1
      exact ⟨⟨e1, rfl, key_of ok (ht kv List.mem_cons_self), c⟩, .cons h1.2 q⟩
theorem pe_dispT {keys : List (Option Expr)} {values : List Expr} {trs : List (TE × TE)} (hu : X.A.units + 100 < cLine) (h : PPs X pos keys values trs) (hall : keys.all (·.isSome) = true) (hl : keys.length = values.length) (h0 : keys ≠ [])
    (h15 : keys.length ≤ 15) : PE X (.Dict keys values pos) (tDispT trs) := by
  refine ⟨fun pins s σ H Q I q => ?_⟩
  have hn := I.hok.fresh (Nat.le_refl s.heap.objs.size)
  have I1 := I.laid (a := s.heap.objs.size) (o := .dT []) (h' := s.heap.push { cls := .type "dict", data := .dict #[] }) (t' := s.toks) (fun _ _ q => Heap.get?_push_of_some _ q) (Nat.le_refl _) (dt_empty s.heap I.big)
  have hpl := pairTrees_length keys values X.env pos hall hl
  rw [arm_eval_Dict, zip_pairTrees keys values X.env pos hall hl, dictDisplay_pairs (pairTrees keys values X.env pos) (fun he => by
    rw [he] at hpl
    exact h0 (List.length_eq_zero_iff.mp hpl.symm)) (by omega)]
  refine wpAny_bind (wpAny_standAt (wpAny_bind (wpAny_subDictH (knd := tupleKind (mixKind X.prog X.w)) (Q := fun d s' => wpAny (model X.prog X.w) X.A (pure (Value.ref d)) _ _ s') (show X.A.units < cLine by omega) (by omega) (thn (h.run pins _ σ _ _ I1 (q _ hn)) fun vs s2 ⟨ps, H2, I2, rel, e, kvs, ep, ht, lk, q2⟩ => ?_))))
  subst ep
  obtain ⟨c, rv⟩ := carriesT I2.hok rel ht
  obtain ⟨_, hd, xs0, r0, dd⟩ := dt_of I2.hok e
  have hx0 : xs0 = [] := by cases r0; rfl
  subst hx0
  refine ⟨_, c, dd, fun h' tk hd' hs => wpAny_pure ⟨.ref s.heap.objs.size, _, ?_, rfl, q2⟩⟩
  have rel2 := kt_merge (kvs := []) (xs := []) rv ht .nil
  have hlen : (mergeT [] (kvs.map fun p : List Key × Addr × V => (p.1, p.2.2))).length ≤ sizeLine := by
    refine Nat.le_trans (length_mergeT _ []) ?_
    rw [sizeLine_eq, List.length_map, List.length_nil]
    omega
  obtain ⟨o, es, ep, w1, w2, w3, w4, w5, w6⟩ := hd'
  exact d_write I2 (by rw [e]; exact True.intro) hs ⟨o, w1⟩ (show ObjOk X.prog X.w _ _ _ (.dT _) from ⟨hlen, hd, _, rel2.keeps (fun b ys q => by rw [upd_ne (fun z => by rw [z, e] at q; cases q)]; exact q), o, es, ep, w1, w2, w3, w4, w6⟩)
end
section
variable {c : Cxt} {Lf : AdP} {adr : Nat → Addr} {S : Sto} {H : Hp} {L : AdP} {σ : L2.St} {ρ : Env'} {pos : Pos}
/-- a display with keys of either kind -/
def fDispX (f : Pv) : Fsv := fun ρ S => (f ρ S).bind fun p => if ((p.1.all fun q => isKK q.1) = true ∨ (p.1.all fun q => isKT q.1) = true) ∧ p.1.length ≤ 15 then some (.dict (mergeD p.1), p.2) else none
theorem df_dispT {ks : List (Option Expr)} {vs : List Expr} {f : Pv} (h : DPs c pos ks vs f) (hall : ks.all (·.isSome) = true) (hl : ks.length = vs.length) (h0 : ks ≠ []) (h15 : ks.length ≤ 15) : DF c (.Dict ks vs pos) (fDispX f) := by
  obtain ⟨t, p, v⟩ := h
  refine ⟨_, fun X hX => pe_or' (pe_disp (p X hX) hall hl h0 h15) (pe_dispT hX.un (p X hX) hall hl h0 h15), fun Lf adr S σ H ρ m S' Q I e w => ?_⟩
  unfold fDispX at e
  obtain ⟨⟨ds, S1⟩, e1, e2⟩ := Option.bind_eq_some_iff.mp e
  split at e2
  · rename_i hc
    cases e2
    by_cases hkk : (ds.all fun q => isKK q.1) = true
    · refine .inl ?_
      intro p hp
      have x0 : Ext adr S H adr S (upd H p (.dK [])) := .grow (upd_grow hp)
      have s0 := fresh_sto (o := .dK []) I.sto hp
      have hl0 : ∀ a, (Lf a ∨ a = p) → Lf a ∨ H a = none := fun a z => z.imp id fun q => by rw [q]; exact hp
      refine v _ adr S σ _ ρ ds S1 _ (I.ext' x0 s0 hl0 fun a z => .inl z) e1 fun vs adr1 H1 x1 s1 r1 r2 => ?_
      have np : ¬ LvC adr S p := fun z => I.sto.ne z hp
      have hp1 : H1 p = some (.dK []) := x1.keep p _ upd_same np
      obtain ⟨kvs, rfl, k2, k3⟩ := keys_of r1 r2 hkk
      have hlen : kvs.length ≤ 15 := by have := congrArg List.length k2; simp at this; have := hc.2; simp only at this; omega
      refine ⟨hp1, kvs, rfl, hlen, ?_⟩
      have t2 : Tr H1 (Lvv (fun a => Lf a ∨ a = p) adr1 S1) (upd H1 p (.dK (mergeK [] kvs))) (Lvv (fun a => Lf a ∨ a = p) adr1 S1) := tr_upd (.inl (.inr rfl))
      obtain ⟨g1, g2⟩ := merge_rel (kvs := []) (dd := []) k2 k3 rfl .nil
      have x01 := x0.trans x1
      have x2 : Ext adr S H adr1 S1 (upd H1 p (.dK (mergeK [] kvs))) := by
        refine ⟨x01.len, x01.ad, fun a o q n => ?_, fun a q => ?_, x01.live⟩
        · rw [upd_ne (ne_of_none q hp)]; exact x01.keep a o q n
        · by_cases hh : a = p
          · rw [hh, upd_same]; exact fun z => nomatch z
          · rw [upd_ne hh]; exact x01.trk a q
      refine w p adr1 _ x2 (s1.updO (.inr rfl)) hp (.inl ⟨_, upd_same, g1, g2.tr t2⟩)
    · refine .inr ?_
      have hkt := hc.1.resolve_left hkk
      intro p hp
      have x0 : Ext adr S H adr S (upd H p (.dT [])) := .grow (upd_grow hp)
      have s0 := fresh_sto (o := .dT []) I.sto hp
      have hl0 : ∀ a, (Lf a ∨ a = p) → Lf a ∨ H a = none := fun a z => z.imp id fun q => by rw [q]; exact hp
      refine v _ adr S σ _ ρ ds S1 _ (I.ext' x0 s0 hl0 fun a z => .inl z) e1 fun vs adr1 H1 x1 s1 r1 r2 => ?_
      have np : ¬ LvC adr S p := fun z => I.sto.ne z hp
      have hp1 : H1 p = some (.dT []) := x1.keep p _ upd_same np
      obtain ⟨kvs, rfl, k1, k2, k3⟩ := keysT_of (fun z => s1.lvo) r1 r2 hkt
      have hlen : kvs.length ≤ 15 := by have := congrArg List.length k2; simp at this; have := hc.2; simp only at this; omega
      refine ⟨hp1, kvs, rfl, k1, hlen, ?_⟩
      have t2 : Tr H1 (Lvv (fun a => Lf a ∨ a = p) adr1 S1) (upd H1 p (.dT (mergeT [] (kvs.map fun p : List Key × Addr × V => (p.1, p.2.2))))) (Lvv (fun a => Lf a ∨ a = p) adr1 S1) := tr_upd (.inl (.inr rfl))
      obtain ⟨g1, g2⟩ := merge_relT (kvs := []) (dd := []) (more := kvs.map fun p : List Key × Addr × V => (p.1, p.2.2)) (by rw [k2, List.map_map]; rfl) (by rw [List.map_map]; exact k3) rfl .nil
      have x01 := x0.trans x1
      have x2 : Ext adr S H adr1 S1 (upd H1 p (.dT (mergeT [] (kvs.map fun p : List Key × Addr × V => (p.1, p.2.2))))) := by
        refine ⟨x01.len, x01.ad, fun a o q n => ?_, fun a q => ?_, x01.live⟩
        · rw [upd_ne (ne_of_none q hp)]; exact x01.keep a o q n
        · by_cases hh : a = p
          · rw [hh, upd_same]; exact fun z => nomatch z
          · rw [upd_ne hh]; exact x01.trk a q
      refine w p adr1 _ x2 (s1.updO (.inr rfl)) hp (.inr ⟨_, upd_same, g1, g2.tr t2⟩)
  · cases e2
variable {pv : Pv} {QF : PyData × Sto → Prop}
@[simp ↓] theorem w_fdispX : W (fDispX pv ρ S) QF = W (pv ρ S) fun p => (((p.1.all fun q => isKK q.1) = true ∨ (p.1.all fun q => isKT q.1) = true) ∧ p.1.length ≤ 15) ∧ QF (.dict (mergeD p.1), p.2) := by
  unfold fDispX
  simp only [W_bind, W_req]
end
end DL
namespace DL
open PySem PySem.Spec L2
open PyProof.Rows hiding St
/-! ### a list by a test -/
section
variable {c : Cxt} {t a b : Expr} {tA : Tv} {fa fb : Lsv} {pos : Pos} {ρ : Env'} {S : Sto} {QL : List PyData × Sto → Prop}
def lIf (t : Tv) (fa fb : Lsv) : Lsv := fun ρ S => (t ρ S).bind fun p => if p.1 = true then fa ρ p.2 else fb ρ p.2
theorem ls_if (ht : DT c t tA) (ha : DLs c a fa) (hb : DLs c b fb) : DLs c (.IfExp t a b pos) (lIf tA fa fb) := by
  obtain ⟨tt, pt, vt⟩ := ht
  obtain ⟨ta, pa, va⟩ := ha
  obtain ⟨tb, pb, vb⟩ := hb
  refine ⟨_, fun X hX => pe_ifExp (pt X hX) (pa X hX) (pb X hX), fun Lf adr S σ H ρ d S' Q I e w => ?_⟩
  unfold lIf at e
  simp only [Option.bind_eq_some_iff] at e
  obtain ⟨⟨k, S1⟩, e1, e2⟩ := e
  refine vt Lf adr S σ H ρ _ _ _ I e1 fun adr1 H1 x1 s1 => ?_
  cases k with
  | true => exact iteT (va Lf adr1 S1 σ H1 ρ _ _ _ (I.ext x1 s1) e2 (w.trans x1))
  | false => exact iteF (vb Lf adr1 S1 σ H1 ρ _ _ _ (I.ext x1 s1) e2 (w.trans x1))
@[simp ↓] theorem w_lif : W (lIf tA fa fb ρ S) QL = W (tA ρ S) fun p => if p.1 = true then W (fa ρ p.2) QL else W (fb ρ p.2) QL := by
  unfold lIf
  simp only [W_bind, W_ite]
end
end DL
namespace DL
open PySem PySem.Spec L2
open PyProof.Rows hiding St
/-! ### x.remove(e), as a statement -/
def remD (m d : PyData) : Option PyData := match m with
  | .list ds => if ds.length ≤ sizeLine ∧ ds.all fit = true ∧ fit d = true then (ds.findIdx? fun y => PyData.eqv y d).map fun j => .list (ds.eraseIdx j) else none
  | _ => none
theorem rem_list (m d m' : PyData) (h : remD m d = some m') : ∃ ds, m = .list ds := by cases m <;> first | exact ⟨_, rfl⟩ | cases h
theorem AtL.erase {H : Hp} {L : AdP} : ∀ {xs : List V} {us : List PyData} (n : Nat), AtL H L xs us → AtL H L (xs.eraseIdx n) (us.eraseIdx n)
  | _, _, _, .nil => .nil
  | _, _, 0, .cons a r => r
  | _, _, n + 1, .cons a r => .cons a (AtL.erase n r)
theorem hm_rem {X : Cx} (hu : X.A.units + 100 < cLine) : MtR X "list.remove" (rMut X.K remD) := by
  intro pins s σ H x vs v us Q I rx rv h
  obtain ⟨L, p, y, m, d, m', rfl, rfl, hL, ob, a, e, q⟩ := h
  unfold remD at e
  split at e
  · rename_i ds
    split at e
    · rename_i hc
      obtain ⟨j, hj, e⟩ := Option.map_eq_some_iff.mp e
      subst e
      obtain ⟨xs, hx, r⟩ := ob
      cases (show v = Value.ref p from rx)
      obtain ⟨u, rfl, ru⟩ := Vals.one rv
      obtain ⟨pa, da⟩ := fitN_ok 20 d hc.2.2
      obtain ⟨pb, db⟩ := fitL_ok hc.2.1
      obtain ⟨bs, rd⟩ := Dp.reads I d y u (a.dp d pa) ru
      obtain ⟨as, rl⟩ := Dp.reads I (.list ds) (.ref p) (.ref p) (.lst (.of hx) (AtL.dp ds r pb)) rx
      obtain ⟨z, its, n, r1, hl, e3⟩ := I.lstM hx
      cases rl with
      | list h1 h2 h3 h4 =>
        refine PySem.SeqAt.remove_list_data (j := j) ⟨_, h1, h2, _, h3⟩ h4 rd pb pa (by omega) hj ?_ ?_
        · rw [PySem.SeqAt.len_at h4]
          exact hc.1
        · refine ⟨.non, _, I.lset (its' := its.eraseIdx j) hx e3 (by rw [List.eraseIdxIfInBounds_toArray]) (r1.eraseIdx j) ?_, rfl, q _ ⟨_, upd_same, (r.erase j).tr (tr_upd hL)⟩⟩
          have := List.length_eraseIdx_le xs j
          omega
    · cases e
  · cases e
section
variable {c : Cxt} {fa : Ev} {a : Expr} {x : Str} {p apos cpos pos : Pos}
theorem remm (i : Nat) (ha : DE c a fa) (hN : c.N[i]? = some x := by rfl) (hv : Vis c.sc x := by first | exact Or.inl rfl | exact Or.inr (Or.inl rfl) | exact Or.inr (Or.inr rfl)) (hd : (x == ("__debug__" : Str)) = false := by decide) (hcd : (x == ("__classdict__" : Str)) = false := by decide) (hst : noStar [a] = true := by rfl)
    (hbase : ∀ X, InC c X → attributeBase (.Name x p) "remove" X.env (eval (.Name x p) X.env) = eval (.Name x p) X.env := by exact fun _ _ => rfl)
    (hfew : ∀ X, InC c X → ((backTo cpos (starEach [a] X.env)).all (fun x => !x.1) && (backToKw cpos (keywordEach [] X.env)).all (fun x => x.1.isSome)
      && decide ([a].length + ([] : List Keyword).length + (if ([] : List Keyword).isEmpty then 0 else 1) < 30)) = true := by exact fun _ _ => rfl)
    (hline : (apos.endLine == cpos.line) = true := by rfl) (hs : ∀ X, InC c X → swapsWith (.Call (.Attribute (.Name x p) "remove" apos) [a] [] cpos) none pos.line X.env = pure false := by exact fun _ _ => rfl) :
    DS c (.Expr (.Call (.Attribute (.Name x p) "remove" apos) [a] [] cpos) pos) (sMut remD i fa) := by
  obtain ⟨ta, pa, va⟩ := ha
  exact ⟨_, fun X hX => ps_expr (by
    have h := pe_bm (cpos := cpos) (apos := apos) PySem.F.plainAttrs_list PySem.F.slot_list_remove PySem.F.type_list_remove (hm_rem (X := X) (by have := hX.un; omega)) (pe_var (pos := p) (i := i) (by rw [hX.N]; exact hN) (by rw [hX.sc]; exact hv) hd hcd) (pa_cons (pa X hX) pa_nil (star_cons hst)) (hbase X hX) (hfew X hX) hline (star_cons hst) rfl
    rw [hX.K] at h
    exact h) (hs X hX), sv_mut rem_list va⟩
end
theorem map_eraseIdxA {α β : Type} (f : α → β) : ∀ (xs : List α) (j : Nat), (xs.map f).eraseIdx j = (xs.eraseIdx j).map f
  | [], _ => rfl
  | _ :: _, 0 => rfl
  | a :: r, j + 1 => by
    show f a :: (r.map f).eraseIdx j = f a :: (r.eraseIdx j).map f
    rw [map_eraseIdxA f r j]
/-- .. of things of one Enc -/
theorem Enc.rem {α : Type} [DecidableEq α] {n : Nat} {e : α → PyData} (h : Enc n e) {xs : List α} {x : α} (hx : x ∈ xs) (hz : xs.length ≤ sizeLine) (hn : n ≤ 19 := by decide) : remD (.list (xs.map e)) (e x) = some (.list ((xs.erase x).map e)) := by
  have hp : ((xs.map e).findIdx? fun y => PyData.eqv y (e x)) = xs.findIdx? fun y => y == x := by
    rw [List.findIdx?_map]
    congr 1
    funext y
    show PyData.eqv (e y) (e x) = _
    rw [h.eqv, Bool.eq_iff_iff, decide_eq_true_eq, beq_iff_eq]
  show (if _ then _ else _) = _
  rw [if_pos ⟨by rw [List.length_map]; exact hz, h.all (Nat.le_trans hn (by decide)) xs, h.fit' (Nat.le_trans hn (by decide)) x⟩, hp]
  cases hf : xs.findIdx? fun y => y == x with
  | none => exact absurd (List.findIdx?_eq_none_iff.mp hf x hx) (by simp)
  | some j =>
    have he : xs.erase x = xs.eraseIdx j := by
      rw [List.erase_eq_eraseIdx]
      have : xs.idxOf? x = some j := hf
      rw [this]
    rw [he, Option.map_some, map_eraseIdxA]
end DL
namespace DL
open PySem PySem.Spec L2
open PyProof.Rows hiding St
/-! ### dict(d), d with tuples of ints as keys: a copy -/
section
variable {prog : Program} {w : World} {K : Type} [DecidableEq K] {knd : HeapKind prog w K} {A : Around} {E : Value → Shared → Prop} {s : Shared}
theorem copy_new {o : Addr} {xs : List (K × Addr × Value)} {Q : Value → Shared → Prop} (hu : knd.room A.in1.in1) (lo : (o == sysModules) = false) (ho : s.heap.DictOfH knd o xs) (ht : ∀ x ∈ xs, s.TypeIs (.ref x.2.1) "tuple") (hh : (xs.map fun x => knd.hash x.1).Nodup) (hz : xs.length ≤ sizeLine)
    (hst : (s.heap.push { cls := .type "dict", data := .dict #[] }).DictOfH knd o xs)
    (h : ∀ h', h'.DictOfH knd s.heap.objs.size xs → Heap.SameBut s.heap.objs.size (s.heap.push { cls := .type "dict", data := .dict #[] }) h' → Q (.ref s.heap.objs.size) { s with heap := h' }) : wpAny (model prog w) A (call (.type "dict") [.ref o]) Q E s := by
  have ne : s.heap.objs.size ≠ o := by
    obtain ⟨_, _, _, g, _⟩ := ho
    intro e
    have q := Heap.lt_size g
    rw [← e] at q
    exact absurd q (Nat.lt_irrefl _)
  have new := Heap.DictOfH.new (knd := knd) s.heap
  have tt : ∀ x ∈ xs, ({ s with heap := s.heap.push { cls := .type "dict", data := .dict #[] } } : Shared).TypeIs (.ref x.2.1) "tuple" := fun x hx => by
    obtain ⟨oo, g1, g2⟩ := ht x hx
    exact ⟨oo, Heap.get?_push_of_some _ g1, g2⟩
  refine callType_codes (Q₁ := fun v t => v = .ref s.heap.objs.size ∧ t = { s with heap := s.heap.push { cls := .type "dict", data := .dict #[] } }) F.kt_called_dict (F.kt_typeCall_dict_1 _) F.entry_dict_init (kt_code_dict_new _ ⟨rfl, rfl⟩) ?_
  rintro v t ⟨e1, e2⟩
  subst e1 e2
  refine ⟨new.typeIs, F.args_dict_init_2 _ _, ?_⟩
  unfold Builtin.«dict.__init__»
  refine wpAny_bind ?_
  unfold Builtin.Dict.selfAndRest
  refine wpAny_bind (wpAny_notOrdered_dict new.typeIs (show wpAny _ _ (pure (s.heap.objs.size, [Value.ref o])) _ _ _ from wpAny_pure ?_))
  exact updateFrom_dictH .none hu ne lo new hst (.inr ⟨tt, hh⟩) (by simpa using hz) fun h' d1 _ sb => by
    rw [storedAllH_nil_of_nodup xs ho.nodup] at d1
    exact ⟨rfl, h h' d1 sb⟩
end
/-- a tuple of ints alone -/
def isKI : PyData → Bool
  | .tuple ds => ds.all fun d => match d with | .int _ => true | _ => false
  | _ => false
def hashKI : PyData → Int
  | .tuple ds => reduceHash (Builtin.Tuple.tupleHashOf (ds.map fun d => match d with | .int i => hashInt i | _ => 0))
  | _ => 0
def copyOk (dd : List (PyData × PyData)) : Bool := (dd.all fun q => isKI q.1) && decide ((dd.map fun q => hashKI q.1).Nodup)
def dictC : List PyData → Option PyData
  | [.dict dd] => if copyOk dd = true then some (.dict dd) else none
  | _ => none
theorem hashKI_key {P : Program} {w : World} {k : List Key} (h : isKI (keyT k) = true) : hashKI (keyT k) = (tupleKind (mixKind P w)).hash k := by
  have e : (k.map keyD).map (fun d => match d with | .int i => hashInt i | _ => 0) = k.map (mixKind P w).hash := by
    rw [List.map_map]
    refine List.map_congr_left fun x hx => ?_
    have h2 : (k.map keyD).all (fun d => match d with | .int _ => true | _ => false) = true := h
    rw [List.all_eq_true] at h2
    have h3 := h2 _ (List.mem_map.mpr ⟨x, hx, rfl⟩)
    cases x with
    | inl i => rfl
    | inr y => cases h3
  show reduceHash _ = reduceHash _
  rw [e]
theorem isKI_kt {d : PyData} (h : isKI d = true) : isKT d = true := by
  cases d with
  | tuple ds =>
    have h2 : ds.all (fun d => match d with | .int _ => true | _ => false) = true := h
    have : ∃ ks : List Key, keysK ds = some ks := by
      clear h
      induction ds with
      | nil => exact ⟨[], rfl⟩
      | cons x ds ih =>
        rw [List.all_cons, Bool.and_eq_true] at h2
        obtain ⟨ks, e⟩ := ih h2.2
        cases x with
        | int i => exact ⟨.inl i :: ks, by simp [keysK, e]; rfl⟩
        | _ => cases h2.1
    obtain ⟨ks, e⟩ := this
    show (keysK ds).isSome = true
    rw [e]
    rfl
  | _ => cases h
theorem hc_dictC {X : Cx} (hu : X.A.units + 100 < cLine) : CallR X (.type "dict") (rCF X.K dictC) := by
  intro pins s σ H vs us Q I rs h
  obtain ⟨L, ds, m, hl, hv, e, q⟩ := h
  unfold dictC at e
  split at e
  · rename_i dd
    split at e
    · rename_i hk
      cases e
      obtain ⟨v, rfl, h1⟩ := hv.one
      obtain ⟨u, rfl, ru⟩ := vals1 rs
      obtain ⟨a, rfl, h2⟩ := h1.dict_inv
      unfold copyOk at hk
      rw [Bool.and_eq_true, decide_eq_true_eq] at hk
      obtain ⟨hk1, hk2⟩ := hk
      cases ru
      have hn : H s.heap.objs.size = none := I.hok.fresh (Nat.le_refl _)
      have hm : (s.heap.objs.size == sysModules) = false := beq_eq_false_iff_ne.mpr (Nat.ne_of_gt I.big)
      rcases h2 with ⟨kvs, r, k, w⟩ | ⟨kvs, r, k, w⟩
      · refine call_dictD pins s σ H _ _ Q I rs ⟨a, kvs, rfl, r, fun p hp => q p _ (upd_grow hp) hp (.inl ⟨_, upd_same, k, w.tr fun z h1 h2 => ⟨.of fun o q => upd_grow hp z o q, fun h3 => h3.elim h2 fun h4 => h1 (by rw [h4]; exact hp)⟩⟩)⟩
      · obtain ⟨z, lo, xs, kt, d0⟩ := dt_rd I.hok r
        have hty : ∀ x ∈ xs, s.TypeIs (.ref x.2.1) "tuple" := fun x hx => by
          obtain ⟨_, _, _, _, _, _, _, g, _⟩ := d0
          obtain ⟨o, _, _, g1, g2, _⟩ := g x hx
          exact ⟨o, g1, g2⟩
        have hkx : kvs.map (·.1) = xs.map (·.1) := by
          clear d0 r hty w k z
          induction kt with
          | nil => rfl
          | cons a _ ih => rw [List.map_cons, List.map_cons, ih, a.1]
        have hhs : (xs.map fun x => (tupleKind (mixKind X.prog X.w)).hash x.1) = dd.map fun q => hashKI q.1 := by
          have e1 : (xs.map fun x => (tupleKind (mixKind X.prog X.w)).hash x.1) = (xs.map (·.1)).map (tupleKind (mixKind X.prog X.w)).hash := by rw [List.map_map]; rfl
          have e2 : (dd.map fun q => hashKI q.1) = (dd.map (·.1)).map hashKI := by rw [List.map_map]; rfl
          rw [e1, e2, k, ← hkx, List.map_map, List.map_map]
          refine List.map_congr_left fun p hp => (hashKI_key ?_).symm
          rw [List.all_eq_true] at hk1
          have : keyT p.1 ∈ dd.map (·.1) := by rw [k]; exact List.mem_map.mpr ⟨p, hp, rfl⟩
          obtain ⟨q', hq', e3⟩ := List.mem_map.mp this
          rw [← e3]
          exact hk1 q' hq'
        have hst : (s.heap.push { cls := .type "dict", data := .dict #[] }).DictOfH (tupleKind (mixKind X.prog X.w)) a xs := by
          obtain ⟨o, es, ep, g1, g2, g3, g4, g5, g6⟩ := d0
          refine ⟨o, es, ep, Heap.get?_push_of_some _ g1, g2, g3, g4, fun x hx => ?_, g6⟩
          obtain ⟨o2, its, n, f1, f2, f3, f4⟩ := g5 x hx
          exact ⟨o2, its, n, Heap.get?_push_of_some _ f1, f2, f3, f4⟩
        have hkl : kvs.length = xs.length := by have := congrArg List.length hkx; simpa using this
        refine copy_new (tupleKind_room_in1 (by show X.A.in1.units + 1 < cLine; have : X.A.in1.units = X.A.units + 1 := rfl; omega)) lo d0 hty (by rw [hhs]; exact hk2) (by omega) hst fun h' d1 sb => ?_
        obtain ⟨o, es, ep, w1, w2, w3, w4, w5, w6⟩ := d1
        refine ⟨.ref s.heap.objs.size, upd H s.heap.objs.size (.dT kvs), I.laid (t' := s.toks) (fun b u e => (sb.2 b (Nat.ne_of_lt (Heap.lt_size e))).trans (Heap.get?_push_of_some _ e)) (Nat.le_refl _) (show ObjOk X.prog X.w _ _ _ (.dT _) from ⟨z, hm, xs, kt.keeps (fun b ys e => upd_grow hn b _ e), o, es, ep, w1, w2, w3, w4, w6⟩), rfl, q _ _ (upd_grow hn) hn (.inr ⟨kvs, upd_same, k, ?_⟩)⟩
        exact w.tr fun z h1 h2 => ⟨.of fun o q => upd_grow hn z o q, fun h3 => h3.elim h2 fun h4 => h1 (by rw [h4]; exact hn)⟩
    · cases e
  · cases e
section
variable {c : Cxt} {e : Expr} {es : List Expr} {fs : Av} {p pos : Pos}
theorem diC (hm : c.mg "dict" = none) (ha : DA c (e :: es) fs) (hg : c.sc.names.lookup ("dict" : Str) = some .globalImplicit := by rfl) (hv : bootBuiltins "dict" = some (.type "dict") := by kernel_rfl) (hst : noStar (e :: es) = true := by rfl) : DF c (.Call (.Name "dict" p) (e :: es) [] pos) (fB dictC fs) := by
  obtain ⟨t, pa, va⟩ := ha
  exact ⟨_, fun X hX => by
    have q := pe_callTy (p := p) (pos := pos) (hc_dictC hX.un) (show Gl X "dict" by show X.env.scope.names.lookup ("dict" : Str) = _; rw [hX.sc]; exact hg) (by rw [hX.mg]; exact hm) hv (pa X hX) (by decide) (by decide) (star_cons hst) (star_any (star_tl hst))
    rw [hX.K] at q
    exact q, fv_cb va⟩
theorem dictC_d {dd : List (PyData × PyData)} (h : copyOk dd = true) : dictC [.dict dd] = some (.dict dd) := if_pos h
end
end DL
namespace DL
open PySem PySem.Spec L2
open PyProof.Rows hiding St
/-! ### dicts beside dicts: == with an empty one, and of two with tuples as keys and ints as values -/
section
variable {prog : Program} {w : World} {K : Type} [DecidableEq K] {knd : HeapKind prog w K} {A : Around} {E : Value → Shared → Prop} {s : Shared}
/-- the entries of the one looked up in the other, one by one -/
inductive Looked (A : Around) (s : Shared) (kb : List (K × Addr × Value)) : List (K × Addr × Value) → Bool → Prop
  | done : Looked A s kb [] true
  | lost {k : K} {p : Addr × Value} {r : List (K × Addr × Value)} : atKey kb k = none → Looked A s kb ((k, p) :: r) false
  | met {k : K} {p q : Addr × Value} {r : List (K × Addr × Value)} {e b : Bool} : atKey kb k = some q → SeqAt.EqAt A s p.2 q.2 e → Looked A s kb r b → Looked A s kb ((k, p) :: r) (e && b)
/-- dicts in the raw, the sizes apart or the other one empty -/
theorem same_raw {nm : String} {a b : Addr} {oa ob : Obj} {es es' : Array DictEntry} {ep ep' : Nat} {Q : Bool → Shared → Prop} (ha : (a == sysModules) = false) (hb : (b == sysModules) = false)
    (hoa : s.heap.get? a = some oa) (hda : oa.data = .dict es ep) (hob : s.heap.get? b = some ob) (hdb : ob.data = .dict es' ep') (hz : es.size ≠ es'.size ∨ es.size = 0) (h : Q (es.size == es'.size) s) :
    wpAny (model prog w) A (Builtin.Dict.samePairs nm a b) Q E s := by
  unfold Builtin.Dict.samePairs Builtin.Dict.showsAll
  simp only [ha, hb, Bool.false_eq_true, if_false]
  refine wpAny_bind (wpAny_pure (wpAny_bind (wpAny_pure (wpAny_bind (wpAny_dictEntries hoa hda ?_)))))
  refine wpAny_bind (wpAny_dictEntries hob hdb ?_)
  by_cases hn : es.size = es'.size
  · have h0 : es.size = 0 := hz.resolve_left (fun q => q hn)
    rw [if_neg (by simp [hn])]
    refine wpAny_bind (wpAny_dictEpoch hoa hda (wpAny_bind ?_))
    rw [h0]
    simp only [Std.Legacy.Range.forIn_eq_forIn_range', Std.Legacy.Range.size, Nat.sub_zero, Nat.zero_add, Nat.sub_self, Nat.zero_div, List.range'_zero]
    have e : (es.size == es'.size) = true := by simp [hn]
    rw [e] at h
    exact wpAny_pure (wpAny_pure h)
  · rw [if_pos (by simpa using hn)]
    have e : (es.size == es'.size) = false := by simpa using hn
    rw [e] at h
    exact wpAny_bind (wpAny_rule (wpAny_pure h))
theorem same_heap {nm : String} {a b : Addr} {ka kb : List (K × Addr × Value)} {r : Bool} {Q : Bool → Shared → Prop} (hu : knd.room A) (ha : (a == sysModules) = false) (hb : (b == sysModules) = false)
    (da : s.heap.DictOfH knd a ka) (db : s.heap.DictOfH knd b kb) (hl : ka.length = kb.length) (hits : Looked A s kb ka r) (h : Q r s) :
    wpAny (model prog w) A (Builtin.Dict.samePairs nm a b) Q E s := by
  obtain ⟨oa, es, ep, hoa, _, hda, hea, hia, hna⟩ := da
  obtain ⟨ob, es', ep', hob, _, hdb, heb, hib, hnb⟩ := db
  have la : es.size = ka.length := size_of_entries hea
  have lb : es'.size = kb.length := size_of_entries heb
  unfold Builtin.Dict.samePairs Builtin.Dict.showsAll
  simp only [ha, hb, Bool.false_eq_true, if_false]
  refine wpAny_bind (wpAny_pure (wpAny_bind (wpAny_pure (wpAny_bind (wpAny_dictEntries hoa hda ?_)))))
  refine wpAny_bind (wpAny_dictEntries hob hdb ?_)
  rw [if_neg (by rw [la, lb, hl]; simp)]
  refine wpAny_bind (wpAny_dictEpoch hoa hda (wpAny_bind ?_))
  simp only [Std.Legacy.Range.forIn_eq_forIn_range', Std.Legacy.Range.size, Nat.sub_zero, Nat.add_sub_cancel, Nat.div_one]
  refine wpAny_forIn_list _ (fun rest q t => t = s ∧ q = (none, ()) ∧ ∃ i, rest = List.range' i (es.size - i) ∧ i ≤ es.size ∧ Looked A s kb (ka.drop i) r) _ (fun x rest q t hi => ?_) (fun q t hi => ?_) _ _ ⟨rfl, rfl, 0, by simp, Nat.zero_le _, hits⟩
  · obtain ⟨rfl, rfl, i, hr, hi, hp⟩ := hi
    have hlt : i < es.size := Nat.lt_of_not_le fun q => by rw [Nat.sub_eq_zero_of_le q] at hr; cases hr
    rw [show es.size - i = (es.size - (i + 1)) + 1 by omega, List.range'_succ] at hr
    obtain ⟨rfl, hrest⟩ := List.cons.inj hr
    have hlk : x < ka.length := by omega
    refine wpAny_bind (wpAny_dictEntries hoa hda ?_)
    have hex : es[x]? = some (entryOfKey knd ka[x]) := by rw [entry_at hea x, List.getElem?_eq_getElem hlk]; rfl
    rw [hex]
    rw [List.drop_eq_getElem_cons hlk] at hp
    have hkx := hia ka[x] (List.getElem_mem hlk)
    generalize ka[x] = kv at *
    obtain ⟨k, p⟩ := kv
    show wpAny _ _ (holding [_, _] _ >>= _) _ _ _
    refine wpAny_bind (wpAny_holding (wpAny_bind (wpAny_dictFind_heap (knd := knd) hu hkx hob hdb heb hib hnb (fun hno => ?_) fun j y hj => ?_)))
    · have hn := atKey_none_of_get hno
      generalize hL : (k, p) :: ka.drop (x + 1) = L at hp
      cases hp with
      | done => cases hL
      | lost _ => exact wpAny_pure (wpAny_pure (wpAny_pure h))
      | met g _ _ => cases hL; rw [hn] at g; cases g
    · have hs := atKey_of_get hnb hj
      generalize hL : (k, p) :: ka.drop (x + 1) = L at hp
      cases hp with
      | done => cases hL
      | lost g => cases hL; rw [hs] at g; cases g
      | met g he hrr =>
        cases hL
        rw [hs] at g
        cases g
        refine wpAny_bind (wpAny_dictEntries hob hdb ?_)
        rw [entry_at heb j, hj]
        refine wpAny_holding (he prog w _ _ ?_)
        rename_i e b'
        cases e with
        | false => exact wpAny_pure (wpAny_pure h)
        | true =>
          refine wpAny_bind (wpAny_dictEpoch hoa hda ?_)
          rw [if_neg (by simp)]
          exact wpAny_pure ⟨rfl, rfl, x + 1, hrest, hlt, hrr⟩
  · obtain ⟨rfl, rfl, i, hr, hi, hp⟩ := hi
    have hin : i = es.size := by
      rcases Nat.lt_or_ge i es.size with q | q
      · rw [show es.size - i = (es.size - (i + 1)) + 1 by omega, List.range'_succ] at hr; cases hr
      · omega
    rw [hin, la, List.drop_length] at hp
    cases hp
    exact wpAny_pure h
theorem eq_same {a b : Addr} {r : Bool} {Q : Value → Shared → Prop} (ta : s.TypeIs (.ref a) "dict") (tb : s.TypeIs (.ref b) "dict") (hu : A.units < cLine)
    (hs : ∀ (nm : String) (E' : Value → Shared → Prop) (Q' : Bool → Shared → Prop), Q' r s → wpAny (model prog w) A.in1 (Builtin.Dict.samePairs nm a b) Q' E' s) (h : Q (.bool r) s) : wpAny (model prog w) A (compareOp .Eq (.ref a) (.ref b)) Q E s := by
  refine wpAny_richCompare_same_room (op := .Eq) ta tb PySem.F.slot_dict_eq (wpAny_call_entry PySem.F.slot_dict_eq ta PySem.F.entry_dict_eq (show wpAny _ _ (Builtin.Dict.dictSlotArgs "__eq__" ⟨[.ref a, .ref b], []⟩ >>= _) _ _ s from wpAny_bind ?_) (PySem.F.args_dict_eq_2 _ _)) hu
  unfold Builtin.Dict.dictSlotArgs
  refine wpAny_bind (wpAny_notOrdered_dict ta (show wpAny _ _ (pure (Value.ref a, Value.ref b)) _ _ s from wpAny_pure (wpAny_bind (wpAny_isInstance (T := "dict") tb PySem.F.sub_dict_dict ?_))))
  simp only [if_false, Bool.false_eq_true, Bool.not_true]
  refine wpAny_bind (wpAny_pure (wpAny_bind (wpAny_pure (wpAny_bind (hs _ _ _ ?_)))))
  cases r <;> exact wpAny_pure ⟨_, rfl, Value.noConfusion, h⟩
theorem ne_same {a b : Addr} {r : Bool} {Q : Value → Shared → Prop} (ta : s.TypeIs (.ref a) "dict") (tb : s.TypeIs (.ref b) "dict") (hu : A.units < cLine)
    (hs : ∀ (nm : String) (E' : Value → Shared → Prop) (Q' : Bool → Shared → Prop), Q' r s → wpAny (model prog w) A.in1 (Builtin.Dict.samePairs nm a b) Q' E' s) (h : Q (.bool (!r)) s) : wpAny (model prog w) A (compareOp .NotEq (.ref a) (.ref b)) Q E s := by
  refine wpAny_richCompare_same_room (op := .NotEq) ta tb PySem.F.slot_dict_ne (wpAny_call_entry PySem.F.slot_dict_ne ta PySem.F.entry_dict_ne (show wpAny _ _ (Builtin.Dict.dictSlotArgs "__ne__" ⟨[.ref a, .ref b], []⟩ >>= _) _ _ s from wpAny_bind ?_) (PySem.F.args_dict_ne_2 _ _)) hu
  unfold Builtin.Dict.dictSlotArgs
  refine wpAny_bind (wpAny_notOrdered_dict ta (show wpAny _ _ (pure (Value.ref a, Value.ref b)) _ _ s from wpAny_pure (wpAny_bind (wpAny_isInstance (T := "dict") tb PySem.F.sub_dict_dict ?_))))
  simp only [if_false, Bool.false_eq_true, Bool.not_true]
  refine wpAny_bind (wpAny_pure (wpAny_bind (wpAny_pure (wpAny_bind (hs _ _ _ ?_)))))
  cases r <;> exact wpAny_pure ⟨_, rfl, Value.noConfusion, h⟩
end
/-! the law's == -/
def isIV : PyData → Bool
  | .int _ => true
  | _ => false
def intV (dd : List (PyData × PyData)) : Bool := dd.all fun q => isIV q.2
def sameY (da db : List (PyData × PyData)) : Bool := da.length == db.length && da.all fun p => match getK db p.1 with | some v => PyData.eqv p.2 v | none => false
def eqYB (da db : List (PyData × PyData)) : Option Bool := if da = [] ∨ db = [] then some (da.length == db.length) else if ((da.all fun q => isKT q.1) && (db.all fun q => isKT q.1) && intV da && intV db) = true then some (sameY da db) else none
def eqY : PyData → PyData → Option PyData
  | .dict da, .dict db => (eqYB da db).map .bool
  | _, _ => none
def neY : PyData → PyData → Option PyData
  | .dict da, .dict db => (eqYB da db).map fun b => .bool (!b)
  | _, _ => none
section
variable {X : Cx} {pins : List (Addr × Obj)} {σ : L2.St} {H : Hp} {s : Shared} {L : AdP}
structure RawY (s : Shared) (a : Addr) (n : Nat) : Prop where
  ty : s.TypeIs (.ref a) "dict"
  lo : (a == sysModules) = false
  raw : ∃ (o : Obj) (es : Array DictEntry) (ep : Nat), s.heap.get? a = some o ∧ o.data = .dict es ep ∧ es.size = n
theorem rawY_of (I : Inv X pins σ H s) {a : Addr} {dd : List (PyData × PyData)} (h : (∃ kvs, Rd H a (.dK kvs) ∧ dd.map (·.1) = kvs.map (fun p => keyD p.1) ∧ AtL H L (kvs.map (·.2)) (dd.map (·.2))) ∨ (∃ kvs, Rd H a (.dT kvs) ∧ dd.map (·.1) = kvs.map (fun p => keyT p.1) ∧ AtL H L (kvs.map (·.2)) (dd.map (·.2)))) : RawY s a dd.length := by
  rcases h with ⟨kvs, r, k, _⟩ | ⟨kvs, r, k, _⟩
  · obtain ⟨_, lo, vs, rel, d⟩ := dk_rd I.hok r
    refine ⟨d.typeIs, lo, ?_⟩
    obtain ⟨o, es, ep, g1, _, g3, _, g5, _⟩ := d
    have hl := congrArg List.length k
    rw [List.length_map, List.length_map] at hl
    exact ⟨o, es, ep, g1, g3, by rw [← Array.length_toList, g5.length, ← rel.length, hl]⟩
  · obtain ⟨_, lo, xs, kt, d⟩ := dt_rd I.hok r
    refine ⟨d.typeIs, lo, ?_⟩
    obtain ⟨o, es, ep, g1, _, g3, g4, _⟩ := d
    have hl := congrArg List.length k
    rw [List.length_map, List.length_map] at hl
    exact ⟨o, es, ep, g1, g3, by rw [size_of_entries g4, hl]; exact (Paired.length kt).symm⟩
abbrev RepD (H : Hp) (L : AdP) (a : Addr) (dd : List (PyData × PyData)) : Prop := (∃ kvs, Rd H a (.dK kvs) ∧ dd.map (·.1) = kvs.map (fun p => keyD p.1) ∧ AtL H L (kvs.map (·.2)) (dd.map (·.2))) ∨ (∃ kvs, Rd H a (.dT kvs) ∧ dd.map (·.1) = kvs.map (fun p => keyT p.1) ∧ AtL H L (kvs.map (·.2)) (dd.map (·.2)))
theorem RepD.tup {a : Addr} {dd : List (PyData × PyData)} (h : RepD H L a dd) (hn : dd ≠ []) (hk : (dd.all fun q => isKT q.1) = true) : ∃ kvs, Rd H a (.dT kvs) ∧ dd.map (·.1) = kvs.map (fun p => keyT p.1) ∧ AtL H L (kvs.map (·.2)) (dd.map (·.2)) := by
  rcases h with ⟨kvs, _, k, _⟩ | h
  · cases dd with
    | nil => exact absurd rfl hn
    | cons p dd =>
      cases kvs with
      | nil => simp at k
      | cons kv kvs =>
        simp only [List.map_cons, List.cons.injEq] at k
        rw [List.all_cons, Bool.and_eq_true, k.1, kk_not_kt] at hk
        exact absurd hk.1 (by decide)
  · exact h
theorem looked_of {A : Around} {kb : List (List Key × Addr × Value)} {kvb : List (List Key × V)} {db : List (PyData × PyData)} (rb : KT H kvb kb) (k2 : db.map (·.1) = kvb.map (fun p => keyT p.1)) (w2 : AtL H L (kvb.map (·.2)) (db.map (·.2))) (hib : intV db = true) :
    ∀ {ka : List (List Key × Addr × Value)} {kva : List (List Key × V)} {da : List (PyData × PyData)}, KT H kva ka → da.map (·.1) = kva.map (fun p => keyT p.1) → AtL H L (kva.map (·.2)) (da.map (·.2)) → intV da = true →
    Looked A s kb ka (da.all fun p => match getK db p.1 with | some v => PyData.eqv p.2 v | none => false)
  | _, _, [], .nil, _, _, _ => .done
  | _, _, _ :: _, .nil, h, _, _ => by simp at h
  | _, _, [], .cons _ _, h, _, _ => by simp at h
  | _ :: _, (k, v) :: _, (e, d) :: da, .cons ha ra, h, w, hi => by
    rename_i y ys zs
    obtain ⟨k', p⟩ := y
    obtain ⟨rfl, hb, rv⟩ := ha
    simp only [List.map_cons, List.cons.injEq] at h
    obtain ⟨rfl, h⟩ := h
    cases w with
    | cons w1 w3 =>
      have hi2 : isIV d = true ∧ intV da = true := by
        have q : (isIV d && intV da) = true := hi
        rwa [Bool.and_eq_true] at q
      have ih := looked_of (A := A) rb k2 w2 hib ra h w3 hi2.2
      have g := getK_dT k k2 w2
      have gv := rb.val k
      rw [List.all_cons]
      simp only
      cases hg : getK db (keyT k) with
      | none =>
        rw [hg] at g
        simp only at g
        rw [g] at gv
        have hn : atKey kb k = none := by
          cases q : atKey kb k with
          | none => rfl
          | some z => rw [q] at gv; exact absurd gv (by simp [RelO])
        rw [Bool.false_and]
        exact .lost hn
      | some d2 =>
        rw [hg] at g
        obtain ⟨vv, g1, g2⟩ := g
        rw [g1] at gv
        obtain ⟨j, rfl⟩ : ∃ j, d2 = .int j := by
          unfold getK at hg
          obtain ⟨p2, hp2, rfl⟩ := Option.map_eq_some_iff.mp hg
          have := List.mem_of_find?_eq_some hp2
          have hq := (List.all_eq_true.mp hib) p2 this
          revert hq
          cases p2.2 <;> simp [isIV]
        cases d with
        | int i =>
          cases g2
          cases w1
          cases q : atKey kb k with
          | none => rw [q] at gv; exact absurd gv (by simp [RelO])
          | some z =>
            rw [q] at gv
            obtain ⟨t1, e1⟩ := rv
            obtain ⟨t2, e2⟩ := gv
            refine Looked.met q ?_ ih
            show SeqAt.EqAt A s p.2 z.2 _
            have e2 : z.2 = Value.int j t2 := e2
            rw [e1, e2]
            exact SeqAt.EqAt.int_int i t1 j t2
        | _ => cases hi2.1
theorem same_of (I : Inv X pins σ H s) (hu : X.A.units + 100 < cLine) {a b : Addr} {da db : List (PyData × PyData)} {r : Bool} (ga : RepD H L a da) (gb : RepD H L b db) (e : eqYB da db = some r) (nm : String) (E' : Value → Shared → Prop) (Q' : Bool → Shared → Prop) (h : Q' r s) :
    wpAny (model X.prog X.w) X.A.in1 (Builtin.Dict.samePairs nm a b) Q' E' s := by
  have ra := rawY_of I ga
  have rb := rawY_of I gb
  obtain ⟨oa, es, ep, a1, a2, a3⟩ := ra.raw
  obtain ⟨ob, es', ep', b1, b2, b3⟩ := rb.raw
  unfold eqYB at e
  split at e
  · rename_i hz
    cases e
    refine same_raw ra.lo rb.lo a1 a2 b1 b2 ?_ (by rw [a3, b3]; exact h)
    rcases hz with rfl | rfl
    · exact .inr a3
    · by_cases q : es.size = 0
      · exact .inr q
      · exact .inl (by rw [b3]; exact q)
  · rename_i hz
    split at e
    · rename_i hk
      cases e
      rw [Bool.and_eq_true, Bool.and_eq_true, Bool.and_eq_true] at hk
      obtain ⟨⟨⟨k1, k2⟩, i1⟩, i2⟩ := hk
      by_cases hl : da.length = db.length
      · obtain ⟨kva, r1, ka, wa⟩ := ga.tup (fun q => hz (.inl q)) k1
        obtain ⟨kvb, r2, kb, wb⟩ := gb.tup (fun q => hz (.inr q)) k2
        obtain ⟨_, _, xa, ta, d1⟩ := dt_rd I.hok r1
        obtain ⟨_, _, xb, tb, d2⟩ := dt_rd I.hok r2
        have l1 := congrArg List.length ka
        have l2 := congrArg List.length kb
        have l3 := Paired.length ta
        have l4 := Paired.length tb
        rw [List.length_map, List.length_map] at l1 l2
        have hlk := looked_of (A := X.A.in1) (s := s) tb kb wb i2 ta ka wa i1
        refine same_heap (knd := tupleKind (mixKind X.prog X.w)) (tupleKind_room_in1 (by omega)) ra.lo rb.lo d1 d2 (by omega) hlk ?_
        unfold sameY at h
        rw [hl, beq_self_eq_true, Bool.true_and] at h
        exact h
      · have e2 : (da.length == db.length) = false := by simpa using hl
        unfold sameY at h
        rw [e2, Bool.false_and] at h
        exact same_raw ra.lo rb.lo a1 a2 b1 b2 (.inl (by rw [a3, b3]; exact hl)) (by rw [a3, b3, e2]; exact h)
    · cases e
theorem ho_eqY (hu : X.A.units + 100 < cLine) : OpR X (compareOp .Eq) (rD X.K eqY) := by
  intro pins s σ H x y v u Q I rx ry hq
  obtain ⟨L, a, b, r, hl, ha, hb, e, q⟩ := hq
  unfold eqY at e
  split at e
  · obtain ⟨bb, e1, rfl⟩ := Option.map_eq_some_iff.mp e
    obtain ⟨a1, rfl, g1⟩ := ha.dict_inv
    obtain ⟨b1, rfl, g2⟩ := hb.dict_inv
    cases rx
    cases ry
    exact eq_same (rawY_of I g1).ty (rawY_of I g2).ty (by omega) (fun nm E' Q' h => same_of I hu g1 g2 e1 nm E' Q' h) ⟨.bl _, H, I, rfl, q _ _ (fun _ _ z => z) (.bl _)⟩
  · cases e
theorem ho_neY (hu : X.A.units + 100 < cLine) : OpR X (compareOp .NotEq) (rD X.K neY) := by
  intro pins s σ H x y v u Q I rx ry hq
  obtain ⟨L, a, b, r, hl, ha, hb, e, q⟩ := hq
  unfold neY at e
  split at e
  · obtain ⟨bb, e1, rfl⟩ := Option.map_eq_some_iff.mp e
    obtain ⟨a1, rfl, g1⟩ := ha.dict_inv
    obtain ⟨b1, rfl, g2⟩ := hb.dict_inv
    cases rx
    cases ry
    exact ne_same (rawY_of I g1).ty (rawY_of I g2).ty (by omega) (fun nm E' Q' h => same_of I hu g1 g2 e1 nm E' Q' h) ⟨.bl _, H, I, rfl, q _ _ (fun _ _ z => z) (.bl _)⟩
  · cases e
end
end DL
namespace DL
open PySem PySem.Spec L2
open PyProof.Rows hiding St
/-! ### x, y = a list -/
def gTL (fs : Gsv) : Gv := fun d ρ => match d with | .list ds => fs ds ρ | _ => none
section
variable {c : Cxt} {pos : Pos} {ρ : Env'} {d : PyData}
theorem dg_lst {is : List Nat} {es : List Expr} {fs : Gsv} {k n : Nat} (h : DGs c is es fs) (hn : ∀ X, InC c X → (assignEach es X.env).length = n) (hst : ∀ X, InC c X → (assignEach es X.env).findIdx? (·.1) = none) (hl : ∀ ds ρ ρ', fs ds ρ = some ρ' → ds.length = n) : DG c is (.Tuple es k pos) (gTL fs) := by
  obtain ⟨gs, pgs, vgs⟩ := h
  refine ⟨gLst c.K n gs, fun X hX => by have q := pg_lst (pos := pos) (k := k) hX.calm (pgs X hX) (hn X hX) (hst X hX); rw [hX.K] at q; exact q, fun Lf adr S σ H ρ v d ρ' Q I r e w => ?_⟩
  cases d with
  | list ds =>
    have e : fs ds ρ = some ρ' := e
    cases r with
    | lst n h1 h2 =>
      exact ⟨_, _, rfl, .of h1, by rw [h2.length]; exact hl _ _ _ e, vgs Lf adr S σ H ρ _ _ ρ' _ I h2 e w⟩
  | _ => cases e
theorem nf_lst {is : List Nat} {gs : Gsv} (h : NfGs is gs) : NfG is (gTL gs) := fun d ρ ρ' e => by
  cases d with
  | list ds => exact h ds ρ ρ' e
  | _ => cases e
@[simp ↓] theorem w_gtl {gs : Gsv} {QR : Env' → Prop} : W (gTL gs d ρ) QR = match d with | .list ds => W (gs ds ρ) QR | _ => False := by
  unfold gTL
  cases d <;> first | exact W_none | rfl
end
end DL
namespace DL
open PySem PySem.Spec L2
open PyProof.Rows hiding St
/-! _law_field -/
noncomputable def b__law_field : Sv := sSeq (sOwnF 1 (fEmp)) (sSeq (sFor [2, 3] (iR (aCons (e2 addD (eC (.int 2)) (eCG f__law_next (aCons (eVar 0) (aCons (eC (.int 4)) (aNil))))) (aNil))) (gN 2) (sFor [3] (iR (aCons (e2 addD (eC (.int 1)) (eCG f__law_next (aCons (eVar 0) (aCons (eC (.int 3)) (aNil))))) (aNil))) (gN 3) (sIf (tB (e2 gtD (eCG f__law_next (aCons (eVar 0) (aCons (eC (.int 9)) (aNil)))) (eC (.int 0)))) (sPut 1 (eTup (aCons (eVar 2) (aCons (eVar 3) (aNil)))) (e2 addD (eC (.int 1)) (eCG f__law_next (aCons (eVar 0) (aCons (eC (.int 4)) (aNil)))))) (sNx)))) (sFz 1 (sRet (eIf (tB (e2 neY (eVar 1) (eF (fEmp)))) (eVar 1) (eF (fDispX (pCons (eTup (aCons (eC (.int 0)) (aCons (eC (.int 0)) (aNil)))) (eC (.int 1)) (pNil))))))))
noncomputable def f__law_field := runG 1 4 b__law_field
/-! _law_sides -/
noncomputable def b__law_sides : Sv := sSeq (sAsg (eVar 0) (gT (gCons (gN 1) (gCons (gN 2) (gNil))))) (sRet (eL (lDisp (aCons (eTup (aCons (e2 subD (eVar 1) (eC (.int 1))) (aCons (eVar 2) (aNil)))) (aCons (eTup (aCons (eVar 1) (aCons (e2 subD (eVar 2) (eC (.int 1))) (aNil)))) (aCons (eTup (aCons (eVar 1) (aCons (e2 addD (eVar 2) (eC (.int 1))) (aNil)))) (aCons (eTup (aCons (e2 addD (eVar 1) (eC (.int 1))) (aCons (eVar 2) (aNil)))) (aNil))))))))
noncomputable def f__law_sides := runP 1 3 b__law_sides
/-! _law_alight -/
noncomputable def b__law_alight : Sv := sSeq (sOwnF 2 (fB dictP (aCons (eL (lComp [4] (iPO (eVar 1)) (gN 4) (tB (e2 inD (eVar 4) (eVar 0))) (eTup (aCons (eVar 4) (aCons (eC (.int 0)) (aNil)))))) (aNil)))) (sSeq (sForK [3, 4, 5] 0 (gN 3) (sFor [4, 5] (iP (eL (lB sortDk (aCons (eVar 2) (aNil))))) (gN 4) (sFor [5] (iP (eCP f__law_sides (aCons (eVar 4) (aNil)))) (gN 5) (sIf (tB (e2 inD (eVar 5) (eVar 0))) (sPut 2 (eVar 5) (eB minD (aCons (eGet2 (eVar 2) (eVar 5) (e2 addD (e2 ixD (eVar 2) (eVar 4)) (e2 ixD (eVar 0) (eVar 4)))) (aCons (e2 addD (e2 ixD (eVar 2) (eVar 4)) (e2 ixD (eVar 0) (eVar 4))) (aNil))))) (sNx))))) (sRetV 2))
noncomputable def f__law_alight := runP 2 6 b__law_alight
/-! _law_safe -/
noncomputable def b__law_safe : Sv := sRet (eOr (e2 notInD (eVar 1) (eVar 0)) (e2 ltD (eVar 2) (e2 ixD (eVar 0) (eVar 1))))
noncomputable def f__law_safe := runP 3 3 b__law_safe
/-! _law_hours -/
noncomputable def b__law_hours_c1 : Sv := sFor [9, 10] (iP (eCP f__law_sides (aCons (eVar 8) (aNil)))) (gN 9) (sSeq (sAsg (eGet2 (eVar 6) (e2 addD (eVar 7) (eVar 3)) (eL (lDisp (aNil)))) (gN 10)) (sIf (tAnd (tB (e2 inD (eVar 9) (eVar 0))) (tAnd (tTr (eCP f__law_safe (aCons (eVar 1) (aCons (eVar 9) (aCons (e2 addD (eVar 7) (eVar 3)) (aNil)))))) (tB (e2 notInD (eVar 9) (eVar 10))))) (sPut 6 (e2 addD (eVar 7) (eVar 3)) (eL (lE2 addL (eVar 10) (eL (lDisp (aCons (eVar 9) (aNil))))))) (sNx)))
noncomputable def b__law_hours_c2 : Sv := sSeq (sIf (tTr (eCP f__law_safe (aCons (eVar 1) (aCons (eVar 8) (aCons (e2 addD (eVar 7) (eC (.int 1))) (aNil)))))) (sPut 6 (e2 addD (eVar 7) (eC (.int 1))) (eL (lE2 addL (eGet2 (eVar 6) (e2 addD (eVar 7) (eC (.int 1))) (eL (lDisp (aNil)))) (eIf (tB (e2 notInD (eVar 8) (eGet2 (eVar 6) (e2 addD (eVar 7) (eC (.int 1))) (eL (lDisp (aNil)))))) (eL (lDisp (aCons (eVar 8) (aNil)))) (eL (lDisp (aNil))))))) (sNx)) (b__law_hours_c1)
noncomputable def b__law_hours_c3 : Sv := sSeq (sFor [7, 8, 9, 10] (iR (aCons (e2 addD (eVar 4) (eC (.int 1))) (aNil))) (gN 7) (sFor [8, 9, 10] (iP (eGet2 (eVar 6) (eVar 7) (eL (lDisp (aNil))))) (gN 8) (sSeq (sPut 5 (eVar 8) (eL (lE2 addL (eGet2 (eVar 5) (eVar 8) (eL (lDisp (aNil)))) (eL (lDisp (aCons (eVar 7) (aNil))))))) (b__law_hours_c2)))) (sRetV 5)
noncomputable def b__law_hours : Sv := sSeq (sOwnF 5 (fEmp)) (sSeq (sOwnF 6 (fEmp)) (sSeq (sIf (tAnd (tB (e2 inD (eVar 2) (eVar 0))) (tTr (eCP f__law_safe (aCons (eVar 1) (aCons (eVar 2) (aCons (eC (.int 0)) (aNil))))))) (sPut 6 (eC (.int 0)) (eL (lDisp (aCons (eVar 2) (aNil))))) (sNx)) (b__law_hours_c3)))
noncomputable def f__law_hours := runP 5 11 b__law_hours
/-! sides -/
noncomputable def b_sides : Sv := sSeq (sAsg (eVar 0) (gT (gCons (gN 1) (gCons (gN 2) (gNil))))) (sRet (eTup (aCons (eTup (aCons (e2 subD (eVar 1) (eC (.int 1))) (aCons (eVar 2) (aNil)))) (aCons (eTup (aCons (eVar 1) (aCons (e2 subD (eVar 2) (eC (.int 1))) (aNil)))) (aCons (eTup (aCons (eVar 1) (aCons (e2 addD (eVar 2) (eC (.int 1))) (aNil)))) (aCons (eTup (aCons (e2 addD (eVar 1) (eC (.int 1))) (aCons (eVar 2) (aNil)))) (aNil)))))))
noncomputable def f_sides := runP 1 3 b_sides
/-! spread_from -/
noncomputable def b_spread_from : Sv := sSeq (sOwnF 2 (fEmp)) (sSeq (sOwn 3 (lComp [7] (iPO (eVar 1)) (gN 7) (tB (e2 inD (eVar 7) (eVar 0))) (eTup (aCons (eC (.int 0)) (aCons (eTup (aCons (eVar 7) (aNil))) (aNil)))))) (sSeq (sWh [4, 5, 6] (tB (e2 neD (eVar 3) (eL (lDisp (aNil))))) (sSeq (sAsg (eB minD (aCons (eVar 3) (aNil))) (gT (gCons (gN 4) (gCons (gN 5) (gNil))))) (sSeq (sMut remD 3 (eTup (aCons (eVar 4) (aCons (eVar 5) (aNil))))) (sIf (tB (e2 notInD (e2 ixD (eVar 5) (eNeg (eC (.int 1)))) (eVar 2))) (sSeq (sPut 2 (e2 ixD (eVar 5) (eNeg (eC (.int 1)))) (eTup (aCons (eVar 4) (aCons (eVar 5) (aNil))))) (sFor [6] (iP (eCP f_sides (aCons (e2 ixD (eVar 5) (eNeg (eC (.int 1)))) (aNil)))) (gN 6) (sIf (tAnd (tB (e2 inD (eVar 6) (eVar 0))) (tB (e2 notInD (eVar 6) (eVar 2)))) (sMut appD 3 (eTup (aCons (e2 addD (eVar 4) (e2 ixD (eVar 0) (e2 ixD (eVar 5) (eNeg (eC (.int 1)))))) (aCons (e2 addD (eVar 5) (eTup (aCons (eVar 6) (aNil)))) (aNil))))) (sNx)))) (sNx))))) (sRetV 2)))
noncomputable def f_spread_from := runP 2 8 b_spread_from
/-! alight -/
noncomputable def b_alight : Sv := sSeq (sAsg (eCP f_spread_from (aCons (eVar 0) (aCons (eVar 1) (aNil)))) (gN 2)) (sRet (eF (fB dictP (aCons (eL (lComp [3] (iPO (eL (lB sortDk (aCons (eVar 2) (aNil))))) (gN 3) (tYes) (eTup (aCons (eVar 3) (aCons (e2 ixD (e2 ixD (eVar 2) (eVar 3)) (eC (.int 0))) (aNil)))))) (aNil)))))
noncomputable def f_alight := runP 2 4 b_alight
/-! is_in_time -/
noncomputable def b_is_in_time : Sv := sRet (eOr (e2 notInD (eVar 1) (eVar 0)) (e2 ltD (eVar 2) (e2 ixD (eVar 0) (eVar 1))))
noncomputable def f_is_in_time := runP 3 3 b_is_in_time
/-! reach_hours -/
noncomputable def b_reach_hours : Sv := sSeq (sAsg (eCP f_alight (aCons (eVar 0) (aCons (eVar 1) (aNil)))) (gN 4)) (sSeq (sOwnF 5 (fEmp)) (sSeq (sOwn 6 (lIf (tAnd (tB (e2 inD (eVar 2) (eVar 0))) (tTr (eCP f_is_in_time (aCons (eVar 4) (aCons (eVar 2) (aCons (eC (.int 0)) (aNil))))))) (lDisp (aCons (eTup (aCons (eVar 2) (aCons (eC (.int 0)) (aNil)))) (aNil))) (lDisp (aNil)))) (sSeq (sAsg (eC (.int 0)) (gN 7)) (sSeq (sWh [8, 9, 10] (tB (e2 ltD (eVar 7) (eB lenD (aCons (eVar 6) (aNil))))) (sSeq (sAsg (e2 ixD (eVar 6) (eVar 7)) (gT (gCons (gN 8) (gCons (gN 9) (gNil))))) (sSeq (sIf (tB (e2 notInD (eVar 8) (eVar 5))) (sSeq (sPut 5 (eVar 8) (eVar 9)) (sFor [10] (iP (eCP f_sides (aCons (eVar 8) (aNil)))) (gN 10) (sIf (tAnd (tB (e2 inD (eVar 10) (eVar 0))) (tAnd (tB (e2 notInD (eVar 10) (eVar 5))) (tTr (eCP f_is_in_time (aCons (eVar 4) (aCons (eVar 10) (aCons (e2 addD (eVar 9) (eVar 3)) (aNil)))))))) (sMut appD 6 (eTup (aCons (eVar 10) (aCons (e2 addD (eVar 9) (eVar 3)) (aNil))))) (sNx)))) (sNx)) (sAug addI 7 (eC (.int 1)))))) (sRetV 5)))))
noncomputable def f_reach_hours := runP 4 11 b_reach_hours
/-! meeting -/
noncomputable def b_meeting_c1 : Sv := sSeq (sOwn 7 (lDisp (aNil))) (sSeq (sForK [8, 9] 5 (gN 8) (sIf (tB (e2 inD (eVar 8) (eVar 6))) (sSeq (sAsg (eB maxD (aCons (e2 ixD (eVar 5) (eVar 8)) (aCons (e2 ixD (eVar 6) (eVar 8)) (aNil)))) (gN 9)) (sIf (tTr (eCP f_is_in_time (aCons (eVar 4) (aCons (eVar 8) (aCons (eVar 9) (aNil)))))) (sMut appD 7 (eTup (aCons (eVar 9) (aCons (eVar 8) (aNil))))) (sNx))) (sNx))) (sSeq (sIf (tB (e2 eqD (eVar 7) (eL (lDisp (aNil))))) (sRet (eTup (aCons (eC (.str "no")) (aCons (eB tupleD (aCons (eL (lB sortDk (aCons (eVar 5) (aNil)))) (aNil))) (aCons (eB tupleD (aCons (eL (lB sortDk (aCons (eVar 6) (aNil)))) (aNil))) (aNil)))))) (sNx)) (sRet (e2 addD (eTup (aCons (eC (.str "yes")) (aNil))) (eB minD (aCons (eVar 7) (aNil)))))))
noncomputable def b_meeting : Sv := sSeq (sAsg (eCP f_alight (aCons (eVar 0) (aCons (eVar 1) (aNil)))) (gN 4)) (sSeq (sAsg (eL (lComp [10] (iPO (eVar 2)) (gN 10) (tYes) (eCP f_reach_hours (aCons (eVar 0) (aCons (eVar 1) (aCons (eVar 10) (aCons (eVar 3) (aNil)))))))) (gTL (gCons (gN 5) (gCons (gN 6) (gNil))))) (b_meeting_c1))
noncomputable def f_meeting := runP 4 11 b_meeting
/-! law -/
noncomputable def b_law_c1 : Sv := sSeq (sAsg (eL (lDisp (aNil))) (gN 11)) (sSeq (sFor [12] (iP (eVar 4)) (gN 12) (sAsg (eL (lE2 addL (eVar 11) (eL (lComp [16] (iPO (eGet2 (eVar 9) (eVar 12) (eL (lDisp (aNil))))) (gN 16) (tB (e2 inD (eVar 16) (eGet2 (eVar 10) (eVar 12) (eL (lDisp (aNil)))))) (eTup (aCons (eVar 16) (aCons (eVar 12) (aNil)))))))) (gN 11))) (sSeq (sAsg (eIf (tB (e2 eqD (eVar 11) (eL (lDisp (aNil))))) (eTup (aCons (eC (.str "no")) (aCons (eB tupleD (aCons (eL (lB sortDk (aCons (eVar 9) (aNil)))) (aNil))) (aCons (eB tupleD (aCons (eL (lB sortDk (aCons (eVar 10) (aNil)))) (aNil))) (aNil))))) (e2 addD (eTup (aCons (eC (.str "yes")) (aNil))) (eB minD (aCons (eVar 11) (aNil))))) (gN 13)) (sIf (tNot (tTr (eCP (f__law_same 6) (aCons (eCP f_meeting (aCons (eF (fB dictC (aCons (eVar 3) (aNil)))) (aCons (eVar 5) (aCons (eVar 6) (aCons (eVar 7) (aNil)))))) (aCons (eVar 13) (aNil)))))) (sRet (eC (.bool false))) (sNx))))
noncomputable def b_law : Sv := sSeq (sCell 1 (fDisp (pCons (eC (.str "draws")) (eCG f__law_draws (aCons (eVar 0) (aCons (eC (.int 500)) (aNil)))) (pCons (eC (.str "at")) (eC (.int 0)) (pNil))))) (sSeq (sFor [2, 3, 4, 5, 6, 7, 8, 9, 10, 11, 12, 13] (iR (aCons (eC (.int 4)) (aNil))) (gN 2) (sSeq (sAsg (eCG f__law_field (aCons (eVar 1) (aNil))) (gN 3)) (sSeq (sAsg (eL (lB sortDk (aCons (eVar 3) (aNil)))) (gN 4)) (sSeq (sAsg (eB tupleD (aCons (eL (lSet (eL (lComp [14] (iR (aCons (eCG f__law_pick (aCons (eVar 1) (aCons (eL (lDisp (aCons (eC (.int 0)) (aCons (eC (.int 1)) (aCons (eC (.int 2)) (aCons (eC (.int 2)) (aCons (eC (.int 3)) (aNil)))))))) (aNil)))) (aNil))) (gN 14) (tYes) (eCG f__law_pick (aCons (eVar 1) (aCons (eVar 4) (aNil)))))))) (aNil))) (gN 5)) (sSeq (sAsg (eTup (aCons (eTup (aCons (eCG f__law_pick (aCons (eVar 1) (aCons (eVar 4) (aNil)))) (aCons (eCG f__law_pick (aCons (eVar 1) (aCons (eVar 4) (aNil)))) (aNil)))) (aCons (e2 addD (eC (.int 1)) (eCG f__law_next (aCons (eVar 1) (aCons (eC (.int 3)) (aNil))))) (aCons (eCP f__law_alight (aCons (eVar 3) (aCons (eVar 5) (aNil)))) (aNil))))) (gT (gCons (gN 6) (gCons (gN 7) (gCons (gN 8) (gNil)))))) (sSeq (sAsg (eL (lComp [15] (iPO (eVar 6)) (gN 15) (tYes) (eCP f__law_hours (aCons (eVar 3) (aCons (eVar 8) (aCons (eVar 15) (aCons (eVar 7) (aCons (eC (.int 60)) (aNil))))))))) (gTL (gCons (gN 9) (gCons (gN 10) (gNil))))) (b_law_c1))))))) (sRet (eC (.bool true))))
noncomputable def f_law := runG 1 17 b_law
def topS (i : Nat) : Stmt := PySem.Challenge.pw_forewarned_k94_meeting_ahead_of_the_fire.main.body.getD i (.Pass ⟨0, 0, 0, 0⟩)
abbrev s__law_draws : Stmt := topS 10
abbrev N__law_draws : List Str := ["script", "many", "draws", "mixed", "k", "cell", "rest", "turn"]
theorem sc__law_draws : FnScope N__law_draws ["script", "many"] (defScope s__law_draws) := ⟨rfl, rfl, rfl, by decide +kernel, rfl, by decide +kernel, by decide +kernel⟩
abbrev s__law_next : Stmt := topS 11
abbrev N__law_next : List Str := ["w", "many"]
theorem sc__law_next : FnScope N__law_next ["w", "many"] (defScope s__law_next) := ⟨rfl, rfl, rfl, by decide +kernel, rfl, by decide +kernel, by decide +kernel⟩
abbrev s__law_field : Stmt := topS 15
abbrev N__law_field : List Str := ["w", "found", "x", "y"]
theorem sc__law_field : FnScope N__law_field ["w"] (defScope s__law_field) := ⟨rfl, rfl, rfl, by decide +kernel, rfl, by decide +kernel, by decide +kernel⟩
abbrev s__law_sides : Stmt := topS 16
abbrev N__law_sides : List Str := ["cell", "x", "y"]
theorem sc__law_sides : FnScope N__law_sides ["cell"] (defScope s__law_sides) := ⟨rfl, rfl, rfl, by decide +kernel, rfl, by decide +kernel, by decide +kernel⟩
abbrev s__law_alight : Stmt := topS 17
abbrev N__law_alight : List Str := ["field", "begins", "hours", "turn", "cell", "other"]
theorem sc__law_alight : FnScope N__law_alight ["field", "begins"] (defScope s__law_alight) := ⟨rfl, rfl, rfl, by decide +kernel, rfl, by decide +kernel, by decide +kernel⟩
abbrev s__law_safe : Stmt := topS 18
abbrev N__law_safe : List Str := ["hours", "cell", "hour"]
theorem sc__law_safe : FnScope N__law_safe ["hours", "cell", "hour"] (defScope s__law_safe) := ⟨rfl, rfl, rfl, by decide +kernel, rfl, by decide +kernel, by decide +kernel⟩
abbrev s__law_hours : Stmt := topS 19
abbrev N__law_hours : List Str := ["field", "hours", "start", "step", "most", "found", "places", "hour", "cell", "other", "later"]
theorem sc__law_hours : FnScope N__law_hours ["field", "hours", "start", "step", "most"] (defScope s__law_hours) := ⟨rfl, rfl, rfl, by decide +kernel, rfl, by decide +kernel, by decide +kernel⟩
abbrev s__law_same : Stmt := topS 14
abbrev N__law_same : List Str := ["told", "due", "k"]
theorem sc__law_same : FnScope N__law_same ["told", "due"] (defScope s__law_same) := ⟨rfl, rfl, rfl, by decide +kernel, rfl, by decide +kernel, by decide +kernel⟩
abbrev s__law_pick : Stmt := topS 12
abbrev N__law_pick : List Str := ["w", "rows"]
theorem sc__law_pick : FnScope N__law_pick ["w", "rows"] (defScope s__law_pick) := ⟨rfl, rfl, rfl, by decide +kernel, rfl, by decide +kernel, by decide +kernel⟩
abbrev s_sides : Stmt := topS 1
abbrev N_sides : List Str := ["cell", "x", "y"]
theorem sc_sides : FnScope N_sides ["cell"] (defScope s_sides) := ⟨rfl, rfl, rfl, by decide +kernel, rfl, by decide +kernel, by decide +kernel⟩
abbrev s_spread_from : Stmt := topS 3
abbrev N_spread_from : List Str := ["field", "begins", "found", "waiting", "hour", "way", "other", "cell"]
theorem sc_spread_from : FnScope N_spread_from ["field", "begins"] (defScope s_spread_from) := ⟨rfl, rfl, rfl, by decide +kernel, rfl, by decide +kernel, by decide +kernel⟩
abbrev s_alight : Stmt := topS 4
abbrev N_alight : List Str := ["field", "begins", "found", "cell"]
theorem sc_alight : FnScope N_alight ["field", "begins"] (defScope s_alight) := ⟨rfl, rfl, rfl, by decide +kernel, rfl, by decide +kernel, by decide +kernel⟩
abbrev s_is_in_time : Stmt := topS 5
abbrev N_is_in_time : List Str := ["hours", "cell", "hour"]
theorem sc_is_in_time : FnScope N_is_in_time ["hours", "cell", "hour"] (defScope s_is_in_time) := ⟨rfl, rfl, rfl, by decide +kernel, rfl, by decide +kernel, by decide +kernel⟩
abbrev s_reach_hours : Stmt := topS 7
abbrev N_reach_hours : List Str := ["field", "begins", "start", "step", "hours", "found", "rows", "at", "cell", "hour", "other"]
theorem sc_reach_hours : FnScope N_reach_hours ["field", "begins", "start", "step"] (defScope s_reach_hours) := ⟨rfl, rfl, rfl, by decide +kernel, rfl, by decide +kernel, by decide +kernel⟩
abbrev s_meeting : Stmt := topS 8
abbrev N_meeting : List Str := ["field", "begins", "ones", "step", "hours", "first", "second", "able", "cell", "hour", "start"]
theorem sc_meeting : FnScope N_meeting ["field", "begins", "ones", "step"] (defScope s_meeting) := ⟨rfl, rfl, rfl, by decide +kernel, rfl, by decide +kernel, by decide +kernel⟩
abbrev s_law : Stmt := topS 20
abbrev N_law : List Str := ["script", "w", "turn", "field", "cells", "begins", "ones", "step", "hours", "first", "second", "able", "cell", "due", "k", "start", "hour"]
theorem sc_law : FnScope N_law ["script"] (defScope s_law) := ⟨rfl, rfl, rfl, by decide +kernel, rfl, by decide +kernel, by decide +kernel⟩
section
variable {P : Program} {w : World} {K : PySem.W.Frag} {mg : Str → Option Value} {base : Heap}
theorem d__law_draws (m_abs : mg "abs" = none) (m_int : mg "int" = none) (m_len : mg "len" = none) (m_range : mg "range" = none) : DSs (cxD P w K mg base N__law_draws s__law_draws 0) (defBody s__law_draws) b__law_draws := by
  have nd := sc__law_draws.nd
  unfold b__law_draws
  exact dss_cons (own 2 nd (dl_disp (da_nil))) (dss_cons (set 3 nd (de_int)) (dss_cons (ds_for (is := [4, 5, 6, 7]) (di_r1 (by rfl) m_range (da_cons (cb (fun _ _ => hc_len) m_len (da_cons (vr 0) (da_nil) rfl)) (da_nil) rfl) rfl) (gnm 4 nd) ((nf_name 4).gnf) (dss_cons (set 5 nd (cb (fun _ _ => hc_abs) m_abs (da_cons (ct (fun _ _ => hc_int) m_int (da_cons (de_ix (vr 0) (vr 4) (fun _ _ => rfl)) (da_nil) rfl)) (da_nil) rfl))) (dss_cons (set 3 nd (de_op (fun _ _ => ho_mod) (ct (fun _ _ => hc_int) m_int (da_cons (de_op (fun _ _ => ho_add) (de_op (fun _ _ => ho_add) (de_op (fun _ _ => ho_mulI) (vr 3) (de_int)) (de_op (fun _ _ => ho_mod) (vr 5) (de_int))) (vr 4)) (da_nil) rfl)) (de_int))) (dss_cons (set 6 nd (de_int)) (dss_cons (ds_if (dt_cmp (fun _ hX => ho_ge hX.un) (vr 5) (de_op (fun _ _ => ho_pow) (de_int) (de_int)) rfl) (dss_one (set 6 nd (vr 5))) (dss_cons (mutm 2 PySem.F.slot_list_append PySem.F.type_list_append (fun _ => hm_app) app_list (de_op (fun _ _ => ho_mod) (ct (fun _ _ => hc_int) m_int (da_cons (vr 5) (da_nil) rfl)) (de_int))) (dss_one (mutm 2 PySem.F.slot_list_append PySem.F.type_list_append (fun _ => hm_app) app_list (de_op (fun _ _ => ho_mod) (de_op (fun _ _ => ho_mod) (ct (fun _ _ => hc_int) m_int (da_cons (de_op (fun _ _ => ho_add) (de_op (fun _ _ => ho_mulI) (vr 3) (de_int)) (de_int)) (da_nil) rfl)) (de_int)) (de_int)))))) (dss_one (ds_for (is := [7]) (di_r1 (by rfl) m_range (da_cons (de_int) (da_nil) rfl) rfl) (gnm 7 nd) ((nf_name 7).gnf) (dss_one (ds_if (dt_cmp (fun _ hX => ho_gt hX.un) (vr 6) (de_int) rfl) (dss_cons (mutm 2 PySem.F.slot_list_append PySem.F.type_list_append (fun _ => hm_app) app_list (de_op (fun _ _ => ho_mod) (ct (fun _ _ => hc_int) m_int (da_cons (vr 6) (da_nil) rfl)) (de_int))) (dss_one (set 6 nd (de_op (fun _ _ => ho_fdiv) (vr 6) (de_int))))) (dss_nil))) (fun _ _ _ => rfl))))))) (fun _ _ _ => rfl)) (dss_cons (ds_for (is := [4]) (di_r1 (by rfl) m_range (da_cons (vr 1) (da_nil) rfl) rfl) (gnm 4 nd) ((nf_name 4).gnf) (dss_cons (set 3 nd (de_op (fun _ _ => ho_mod) (ct (fun _ _ => hc_int) m_int (da_cons (de_op (fun _ _ => ho_add) (de_op (fun _ _ => ho_add) (de_op (fun _ _ => ho_mulI) (vr 3) (de_int)) (vr 4)) (de_int)) (da_nil) rfl)) (de_int))) (dss_one (mutm 2 PySem.F.slot_list_append PySem.F.type_list_append (fun _ => hm_app) app_list (de_op (fun _ _ => ho_mod) (ct (fun _ _ => hc_int) m_int (da_cons (vr 3) (da_nil) rfl)) (de_int))))) (fun _ _ _ => rfl)) (dss_one (ds_ret (de_sx (vr 2) (do_none) (do_some (vr 1))))))))
theorem d__law_next (m_int : mg "int" = none) (m_len : mg "len" = none) : DSs (cxD P w K mg base N__law_next s__law_next 0) (defBody s__law_next) b__law_next := by
  have nd := sc__law_next.nd
  unfold b__law_next
  exact dss_cons (paug 0 (fun _ _ => iop_addI) (de_str) (de_int)) (dss_cons (ds_if (dt_cmp (fun _ hX => ho_gt hX.un) (de_ix (vr 0) (de_str) (fun _ _ => rfl)) (cb (fun _ _ => hc_len) m_len (da_cons (de_ix (vr 0) (de_str) (fun _ _ => rfl)) (da_nil) rfl)) rfl) (dss_one (ds_ret (de_int))) (dss_nil)) (dss_one (ds_ret (de_op (fun _ _ => ho_mod) (ct (fun _ _ => hc_int) m_int (da_cons (de_ix (de_ix (vr 0) (de_str) (fun _ _ => rfl)) (de_op (fun _ _ => ho_sub) (de_ix (vr 0) (de_str) (fun _ _ => rfl)) (de_int)) (fun _ _ => rfl)) (da_nil) rfl)) (vr 1)))))
theorem d__law_field (m_range : mg "range" = none) (h__law_next : Kn (cM P w K mg base) "_law_next" 1 (SpG (cM P w K mg base).c0 f__law_next)) : DSs (cxD P w K mg base N__law_field s__law_field 1) (defBody s__law_field) b__law_field := by
  have nd := sc__law_field.nd
  unfold b__law_field
  exact dss_cons (ownF 1 nd (df_emp)) (dss_cons (ds_for (is := [2, 3]) (di_r1 (by rfl) m_range (da_cons (de_op (fun _ _ => ho_add) (de_int) (cgk (show 1 ≤ 1 by decide) h__law_next (da_cons (vr 0) (da_cons (de_int) (da_nil) rfl) rfl))) (da_nil) rfl) rfl) (gnm 2 nd) ((nf_name 2).gnf) (dss_one (ds_for (is := [3]) (di_r1 (by rfl) m_range (da_cons (de_op (fun _ _ => ho_add) (de_int) (cgk (show 1 ≤ 1 by decide) h__law_next (da_cons (vr 0) (da_cons (de_int) (da_nil) rfl) rfl))) (da_nil) rfl) rfl) (gnm 3 nd) ((nf_name 3).gnf) (dss_one (ds_if (dt_cmp (fun _ hX => ho_gt hX.un) (cgk (show 1 ≤ 1 by decide) h__law_next (da_cons (vr 0) (da_cons (de_int) (da_nil) rfl) rfl)) (de_int) rfl) (dss_one (put 1 (de_tup (da_cons (vr 2) (da_cons (vr 3) (da_nil) rfl) rfl)) (de_op (fun _ _ => ho_add) (de_int) (cgk (show 1 ≤ 1 by decide) h__law_next (da_cons (vr 0) (da_cons (de_int) (da_nil) rfl) rfl))))) (dss_nil))) (fun _ _ _ => rfl))) (fun _ _ _ => rfl)) (dss_one (ds_fz 1 (ds_ret (de_if (dt_cmp (fun _ hX => ho_neY hX.un) (vr 1) (de_f (df_emp)) rfl) (vr 1) (de_f (df_dispT (dps_cons (de_tup (da_cons (de_int) (da_cons (de_int) (da_nil) rfl) rfl)) (de_int) (dps_nil)) rfl rfl (by simp) (by decide))))))))
theorem d__law_sides : DSs (cxD P w K mg base N__law_sides s__law_sides 0) (defBody s__law_sides) b__law_sides := by
  have nd := sc__law_sides.nd
  unfold b__law_sides
  exact dss_cons (asg (vr 0) (dg_tup (dgs_cons (gnm 1 nd) (dgs_cons (gnm 2 nd) (dgs_nil) (fun _ _ => rfl)) (fun _ _ => rfl)) (fun _ _ => rfl) (fun _ _ => rfl) (gs_lenS (gs_lenS (fun _ _ _ h => gs_len0 h)))) ((nf_tup (nfs_cons (nf_name 1) (nfs_cons (nf_name 2) (nfs_nil)))).gnf)) (dss_one (ds_ret (de_l (dl_disp (da_cons (de_tup (da_cons (de_op (fun _ _ => ho_sub) (vr 1) (de_int)) (da_cons (vr 2) (da_nil) rfl) rfl)) (da_cons (de_tup (da_cons (vr 1) (da_cons (de_op (fun _ _ => ho_sub) (vr 2) (de_int)) (da_nil) rfl) rfl)) (da_cons (de_tup (da_cons (vr 1) (da_cons (de_op (fun _ _ => ho_add) (vr 2) (de_int)) (da_nil) rfl) rfl)) (da_cons (de_tup (da_cons (de_op (fun _ _ => ho_add) (vr 1) (de_int)) (da_cons (vr 2) (da_nil) rfl) rfl)) (da_nil) rfl) rfl) rfl) rfl)))))
theorem d__law_alight (m_dict : mg "dict" = none) (m_min : mg "min" = none) (m_sorted : mg "sorted" = none) (h__law_sides : Kn (cM P w K mg base) "_law_sides" 1 (SpP f__law_sides)) : DSs (cxD P w K mg base N__law_alight s__law_alight 1) (defBody s__law_alight) b__law_alight := by
  have nd := sc__law_alight.nd
  unfold b__law_alight
  exact dss_cons (ownF 2 nd (diK m_dict (da_cons (de_l (lcomp nd (own := [("cell", 4)]) (di_po (vr 1)) (blkOk_by (by kernel_rfl)) (gnm 4 nd) (dts_one (dt_cmp (fun _ hX => ho_in hX.un) (vr 4) (vr 0) rfl)) (de_tup (da_cons (vr 4) (da_cons (de_int) (da_nil) rfl) rfl)) (by decide))) (da_nil) rfl))) (dss_cons (forK (is := [3, 4, 5]) 0 (gnm 3 nd) ((nf_name 3).gnf) (dss_one (ds_for (is := [4, 5]) (di_p (de_l (soK m_sorted (da_cons (vr 2) (da_nil) rfl)))) (gnm 4 nd) ((nf_name 4).gnf) (dss_one (ds_for (is := [5]) (di_p (cpk (show 1 ≤ 1 by decide) h__law_sides (da_cons (vr 4) (da_nil) rfl))) (gnm 5 nd) ((nf_name 5).gnf) (dss_one (ds_if (dt_cmp (fun _ hX => ho_in hX.un) (vr 5) (vr 0) rfl) (dss_one (put 2 (vr 5) (cb (fun _ hX => hc_min hX.calm hX.un) m_min (da_cons (getm2 (vr 2) (vr 5) (de_op (fun _ _ => ho_add) (de_ix (vr 2) (vr 4) (fun _ _ => rfl)) (de_ix (vr 0) (vr 4) (fun _ _ => rfl)))) (da_cons (de_op (fun _ _ => ho_add) (de_ix (vr 2) (vr 4) (fun _ _ => rfl)) (de_ix (vr 0) (vr 4) (fun _ _ => rfl))) (da_nil) rfl) rfl)))) (dss_nil))) (fun _ _ _ => rfl))) (fun _ _ _ => rfl)))) (dss_one (rv 2)))
theorem d__law_safe : DSs (cxD P w K mg base N__law_safe s__law_safe 0) (defBody s__law_safe) b__law_safe := by
  have nd := sc__law_safe.nd
  unfold b__law_safe
  exact dss_one (ds_ret (de_or (de_cmp (fun _ hX => ho_notIn hX.un) (vr 1) (vr 0) rfl) (de_one (de_cmp (fun _ hX => ho_lt hX.un) (vr 2) (de_ix (vr 0) (vr 1) (fun _ _ => rfl)) rfl))))
theorem d__law_hours (m_range : mg "range" = none) (h__law_sides : Kn (cM P w K mg base) "_law_sides" 1 (SpP f__law_sides)) (h__law_safe : Kn (cM P w K mg base) "_law_safe" 1 (SpP f__law_safe)) : DSs (cxD P w K mg base N__law_hours s__law_hours 1) (defBody s__law_hours) b__law_hours := by
  have nd := sc__law_hours.nd
  unfold b__law_hours b__law_hours_c3 b__law_hours_c2 b__law_hours_c1
  exact dss_cons (ownF 5 nd (df_emp)) (dss_cons (ownF 6 nd (df_emp)) (dss_cons (ds_if (dt_w (dw_and (dt_cmp (fun _ hX => ho_in hX.un) (vr 2) (vr 0) rfl) (dw_and1 (dt_truth (cpk (show 1 ≤ 1 by decide) h__law_safe (da_cons (vr 1) (da_cons (vr 2) (da_cons (de_int) (da_nil) rfl) rfl) rfl)) (fun _ _ _ => rfl))))) (dss_one (put 6 (de_int) (de_l (dl_disp (da_cons (vr 2) (da_nil) rfl))))) (dss_nil)) (dss_cons (ds_for (is := [7, 8, 9, 10]) (di_r1 (by rfl) m_range (da_cons (de_op (fun _ _ => ho_add) (vr 4) (de_int)) (da_nil) rfl) rfl) (gnm 7 nd) ((nf_name 7).gnf) (dss_one (ds_for (is := [8, 9, 10]) (di_p (getm2 (vr 6) (vr 7) (de_l (dl_disp (da_nil))))) (gnm 8 nd) ((nf_name 8).gnf) (dss_cons (put 5 (vr 8) (de_l (dl_op (fun _ _ => ho_addL) (getm2 (vr 5) (vr 8) (de_l (dl_disp (da_nil)))) (de_l (dl_disp (da_cons (vr 7) (da_nil) rfl)))))) (dss_cons (ds_if (dt_truth (cpk (show 1 ≤ 1 by decide) h__law_safe (da_cons (vr 1) (da_cons (vr 8) (da_cons (de_op (fun _ _ => ho_add) (vr 7) (de_int)) (da_nil) rfl) rfl) rfl)) (fun _ _ _ => rfl)) (dss_one (put 6 (de_op (fun _ _ => ho_add) (vr 7) (de_int)) (de_l (dl_op (fun _ _ => ho_addL) (getm2 (vr 6) (de_op (fun _ _ => ho_add) (vr 7) (de_int)) (de_l (dl_disp (da_nil)))) (de_if (dt_cmp (fun _ hX => ho_notIn hX.un) (vr 8) (getm2 (vr 6) (de_op (fun _ _ => ho_add) (vr 7) (de_int)) (de_l (dl_disp (da_nil)))) rfl) (de_l (dl_disp (da_cons (vr 8) (da_nil) rfl))) (de_l (dl_disp (da_nil)))))))) (dss_nil)) (dss_one (ds_for (is := [9, 10]) (di_p (cpk (show 1 ≤ 1 by decide) h__law_sides (da_cons (vr 8) (da_nil) rfl))) (gnm 9 nd) ((nf_name 9).gnf) (dss_cons (set 10 nd (getm2 (vr 6) (de_op (fun _ _ => ho_add) (vr 7) (vr 3)) (de_l (dl_disp (da_nil))))) (dss_one (ds_if (dt_w (dw_and (dt_cmp (fun _ hX => ho_in hX.un) (vr 9) (vr 0) rfl) (dw_and (dt_truth (cpk (show 1 ≤ 1 by decide) h__law_safe (da_cons (vr 1) (da_cons (vr 9) (da_cons (de_op (fun _ _ => ho_add) (vr 7) (vr 3)) (da_nil) rfl) rfl) rfl)) (fun _ _ _ => rfl)) (dw_and1 (dt_cmp (fun _ hX => ho_notIn hX.un) (vr 9) (vr 10) rfl))))) (dss_one (put 6 (de_op (fun _ _ => ho_add) (vr 7) (vr 3)) (de_l (dl_op (fun _ _ => ho_addL) (vr 10) (de_l (dl_disp (da_cons (vr 9) (da_nil) rfl))))))) (dss_nil)))) (fun _ _ _ => rfl))))) (fun _ _ _ => rfl))) (fun _ _ _ => rfl)) (dss_one (rv 5)))))
theorem d__law_same (self : List PyData → Option PyData) (k : Nat) (hk : 0 ≤ k) (m_bool : mg "bool" = none) (m_int : mg "int" = none) (m_isinstance : mg "isinstance" = none) (m_len : mg "len" = none) (m_range : mg "range" = none) (m_str : mg "str" = none) (m_tuple : mg "tuple" = none) (h__law_same : Kn (cM P w K mg base) "_law_same" k (SpP self)) : DSs (cxD P w K mg base N__law_same s__law_same k) (defBody s__law_same) (b__law_same self) := by
  have nd := sc__law_same.nd
  unfold b__law_same
  exact dss_cons (ds_if (dt_truth (isa "tuple" m_isinstance m_tuple (vr 1)) (fun _ _ _ => rfl)) (dss_cons (ds_if (dt_w (dw_or (dt_not (dt_truth (isa "tuple" m_isinstance m_tuple (vr 0)) (fun _ _ _ => rfl))) (dw_or1 (dt_cmp (fun _ hX => ho_ne hX.un) (cb (fun _ _ => hc_len) m_len (da_cons (vr 0) (da_nil) rfl)) (cb (fun _ _ => hc_len) m_len (da_cons (vr 1) (da_nil) rfl)) rfl)))) (dss_one (ds_ret (de_bl))) (dss_nil)) (dss_one (ds_ret (de_cmp (fun _ hX => ho_eq hX.un) (de_l (lcomp nd (own := [("k", 2)]) ((di_r1 (by rfl) m_range (da_cons (cb (fun _ _ => hc_len) m_len (da_cons (vr 1) (da_nil) rfl)) (da_nil) rfl) rfl).any) (blkOk_by (by kernel_rfl)) (gnm 2 nd) (dts_one (dt_not (dt_truth (cpk (Nat.le_refl _) h__law_same (da_cons (de_ix (vr 0) (vr 2) (fun _ _ => rfl)) (da_cons (de_ix (vr 1) (vr 2) (fun _ _ => rfl)) (da_nil) rfl) rfl)) (fun _ _ _ => rfl)))) (vr 2) (by decide))) (de_l (dl_disp (da_nil))) rfl)))) (dss_nil)) (dss_cons (ds_if (dt_cmp (fun _ _ => ho_is) (vr 1) (de_non) rfl) (dss_one (ds_ret (de_cmp (fun _ _ => ho_is) (vr 0) (de_non) rfl))) (dss_nil)) (dss_cons (ds_if (dt_truth (isa "str" m_isinstance m_str (vr 1)) (fun _ _ _ => rfl)) (dss_one (ds_ret (de_and (isa "str" m_isinstance m_str (vr 0)) (de_one (de_cmp (fun _ hX => ho_eq hX.un) (vr 0) (vr 1) rfl))))) (dss_nil)) (dss_one (ds_ret (de_and (isa "int" m_isinstance m_int (vr 0)) (de_and (de_cmp (fun _ hX => ho_eq hX.un) (isa "bool" m_isinstance m_bool (vr 0)) (isa "bool" m_isinstance m_bool (vr 1)) rfl) (de_one (de_cmp (fun _ hX => ho_eq hX.un) (vr 0) (vr 1) rfl))))))))
theorem d__law_pick (m_len : mg "len" = none) (h__law_next : Kn (cM P w K mg base) "_law_next" 1 (SpG (cM P w K mg base).c0 f__law_next)) : DSs (cxD P w K mg base N__law_pick s__law_pick 1) (defBody s__law_pick) b__law_pick := by
  have nd := sc__law_pick.nd
  unfold b__law_pick
  exact dss_one (ds_ret (de_ix (vr 1) (cgk (show 1 ≤ 1 by decide) h__law_next (da_cons (vr 0) (da_cons (cb (fun _ _ => hc_len) m_len (da_cons (vr 1) (da_nil) rfl)) (da_nil) rfl) rfl)) (fun _ _ => rfl)))
theorem d_sides : DSs (cxD P w K mg base N_sides s_sides 0) (defBody s_sides) b_sides := by
  have nd := sc_sides.nd
  unfold b_sides
  exact dss_cons (asg (vr 0) (dg_tup (dgs_cons (gnm 1 nd) (dgs_cons (gnm 2 nd) (dgs_nil) (fun _ _ => rfl)) (fun _ _ => rfl)) (fun _ _ => rfl) (fun _ _ => rfl) (gs_lenS (gs_lenS (fun _ _ _ h => gs_len0 h)))) ((nf_tup (nfs_cons (nf_name 1) (nfs_cons (nf_name 2) (nfs_nil)))).gnf)) (dss_one (ds_ret (de_tup (da_cons (de_tup (da_cons (de_op (fun _ _ => ho_sub) (vr 1) (de_int)) (da_cons (vr 2) (da_nil) rfl) rfl)) (da_cons (de_tup (da_cons (vr 1) (da_cons (de_op (fun _ _ => ho_sub) (vr 2) (de_int)) (da_nil) rfl) rfl)) (da_cons (de_tup (da_cons (vr 1) (da_cons (de_op (fun _ _ => ho_add) (vr 2) (de_int)) (da_nil) rfl) rfl)) (da_cons (de_tup (da_cons (de_op (fun _ _ => ho_add) (vr 1) (de_int)) (da_cons (vr 2) (da_nil) rfl) rfl)) (da_nil) rfl) rfl) rfl) rfl))))
theorem d_spread_from (m_min : mg "min" = none) (h_sides : Kn (cM P w K mg base) "sides" 1 (SpP f_sides)) : DSs (cxD P w K mg base N_spread_from s_spread_from 1) (defBody s_spread_from) b_spread_from := by
  have nd := sc_spread_from.nd
  unfold b_spread_from
  exact dss_cons (ownF 2 nd (df_emp)) (dss_cons (ds_ownC (lc 3 nd (own := [("cell", 7)]) (di_po (vr 1)) (blkOk_by (by kernel_rfl)) (gnm 7 nd) (dts_one (dt_cmp (fun _ hX => ho_in hX.un) (vr 7) (vr 0) rfl)) (de_tup (da_cons (de_int) (da_cons (de_tup (da_cons (vr 7) (da_nil) rfl)) (da_nil) rfl) rfl)) (by decide))) (dss_cons (ds_wh (is := [4, 5, 6]) (dt_cmp (fun _ hX => ho_ne hX.un) (vr 3) (de_l (dl_disp (da_nil))) rfl) (dss_cons (asg (cb (fun _ hX => hc_min hX.calm hX.un) m_min (da_cons (vr 3) (da_nil) rfl)) (dg_tup (dgs_cons (gnm 4 nd) (dgs_cons (gnm 5 nd) (dgs_nil) (fun _ _ => rfl)) (fun _ _ => rfl)) (fun _ _ => rfl) (fun _ _ => rfl) (gs_lenS (gs_lenS (fun _ _ _ h => gs_len0 h)))) ((nf_tup (nfs_cons (nf_name 4) (nfs_cons (nf_name 5) (nfs_nil)))).gnf)) (dss_cons (remm 3 (de_tup (da_cons (vr 4) (da_cons (vr 5) (da_nil) rfl) rfl))) (dss_one (ds_if (dt_cmp (fun _ hX => ho_notIn hX.un) (de_ix (vr 5) (de_neg (de_int)) (fun _ _ => rfl)) (vr 2) rfl) (dss_cons (put 2 (de_ix (vr 5) (de_neg (de_int)) (fun _ _ => rfl)) (de_tup (da_cons (vr 4) (da_cons (vr 5) (da_nil) rfl) rfl))) (dss_one (ds_for (is := [6]) (di_p (cpk (show 1 ≤ 1 by decide) h_sides (da_cons (de_ix (vr 5) (de_neg (de_int)) (fun _ _ => rfl)) (da_nil) rfl))) (gnm 6 nd) ((nf_name 6).gnf) (dss_one (ds_if (dt_w (dw_and (dt_cmp (fun _ hX => ho_in hX.un) (vr 6) (vr 0) rfl) (dw_and1 (dt_cmp (fun _ hX => ho_notIn hX.un) (vr 6) (vr 2) rfl)))) (dss_one (mutm 3 PySem.F.slot_list_append PySem.F.type_list_append (fun _ => hm_app) app_list (de_tup (da_cons (de_op (fun _ _ => ho_add) (vr 4) (de_ix (vr 0) (de_ix (vr 5) (de_neg (de_int)) (fun _ _ => rfl)) (fun _ _ => rfl))) (da_cons (de_op (fun _ _ => ho_add) (vr 5) (de_tup (da_cons (vr 6) (da_nil) rfl))) (da_nil) rfl) rfl)))) (dss_nil))) (fun _ _ _ => rfl)))) (dss_nil)))))) (dss_one (rv 2))))
theorem d_alight (m_dict : mg "dict" = none) (m_sorted : mg "sorted" = none) (h_spread_from : Kn (cM P w K mg base) "spread_from" 2 (SpP f_spread_from)) : DSs (cxD P w K mg base N_alight s_alight 2) (defBody s_alight) b_alight := by
  have nd := sc_alight.nd
  unfold b_alight
  exact dss_cons (set 2 nd (cpk (show 2 ≤ 2 by decide) h_spread_from (da_cons (vr 0) (da_cons (vr 1) (da_nil) rfl) rfl))) (dss_one (ds_ret (de_f (diK m_dict (da_cons (de_l (lcomp nd (own := [("cell", 3)]) (di_po (de_l (soK m_sorted (da_cons (vr 2) (da_nil) rfl)))) (blkOk_by (by kernel_rfl)) (gnm 3 nd) (dts_nil) (de_tup (da_cons (vr 3) (da_cons (de_ix (de_ix (vr 2) (vr 3) (fun _ _ => rfl)) (de_int) (fun _ _ => rfl)) (da_nil) rfl) rfl)) (by decide))) (da_nil) rfl)))))
theorem d_is_in_time : DSs (cxD P w K mg base N_is_in_time s_is_in_time 0) (defBody s_is_in_time) b_is_in_time := by
  have nd := sc_is_in_time.nd
  unfold b_is_in_time
  exact dss_one (ds_ret (de_or (de_cmp (fun _ hX => ho_notIn hX.un) (vr 1) (vr 0) rfl) (de_one (de_cmp (fun _ hX => ho_lt hX.un) (vr 2) (de_ix (vr 0) (vr 1) (fun _ _ => rfl)) rfl))))
theorem d_reach_hours (m_len : mg "len" = none) (h_sides : Kn (cM P w K mg base) "sides" 1 (SpP f_sides)) (h_alight : Kn (cM P w K mg base) "alight" 3 (SpP f_alight)) (h_is_in_time : Kn (cM P w K mg base) "is_in_time" 1 (SpP f_is_in_time)) : DSs (cxD P w K mg base N_reach_hours s_reach_hours 3) (defBody s_reach_hours) b_reach_hours := by
  have nd := sc_reach_hours.nd
  unfold b_reach_hours
  exact dss_cons (set 4 nd (cpk (show 3 ≤ 3 by decide) h_alight (da_cons (vr 0) (da_cons (vr 1) (da_nil) rfl) rfl))) (dss_cons (ownF 5 nd (df_emp)) (dss_cons (own 6 nd (ls_if (dt_w (dw_and (dt_cmp (fun _ hX => ho_in hX.un) (vr 2) (vr 0) rfl) (dw_and1 (dt_truth (cpk (show 1 ≤ 3 by decide) h_is_in_time (da_cons (vr 4) (da_cons (vr 2) (da_cons (de_int) (da_nil) rfl) rfl) rfl)) (fun _ _ _ => rfl))))) (dl_disp (da_cons (de_tup (da_cons (vr 2) (da_cons (de_int) (da_nil) rfl) rfl)) (da_nil) rfl)) (dl_disp (da_nil)))) (dss_cons (set 7 nd (de_int)) (dss_cons (ds_wh (is := [8, 9, 10]) (dt_cmp (fun _ hX => ho_lt hX.un) (vr 7) (cb (fun _ _ => hc_len) m_len (da_cons (vr 6) (da_nil) rfl)) rfl) (dss_cons (asg (de_ix (vr 6) (vr 7) (fun _ _ => rfl)) (dg_tup (dgs_cons (gnm 8 nd) (dgs_cons (gnm 9 nd) (dgs_nil) (fun _ _ => rfl)) (fun _ _ => rfl)) (fun _ _ => rfl) (fun _ _ => rfl) (gs_lenS (gs_lenS (fun _ _ _ h => gs_len0 h)))) ((nf_tup (nfs_cons (nf_name 8) (nfs_cons (nf_name 9) (nfs_nil)))).gnf)) (dss_cons (ds_if (dt_cmp (fun _ hX => ho_notIn hX.un) (vr 8) (vr 5) rfl) (dss_cons (put 5 (vr 8) (vr 9)) (dss_one (ds_for (is := [10]) (di_p (cpk (show 1 ≤ 3 by decide) h_sides (da_cons (vr 8) (da_nil) rfl))) (gnm 10 nd) ((nf_name 10).gnf) (dss_one (ds_if (dt_w (dw_and (dt_cmp (fun _ hX => ho_in hX.un) (vr 10) (vr 0) rfl) (dw_and (dt_cmp (fun _ hX => ho_notIn hX.un) (vr 10) (vr 5) rfl) (dw_and1 (dt_truth (cpk (show 1 ≤ 3 by decide) h_is_in_time (da_cons (vr 4) (da_cons (vr 10) (da_cons (de_op (fun _ _ => ho_add) (vr 9) (vr 3)) (da_nil) rfl) rfl) rfl)) (fun _ _ _ => rfl)))))) (dss_one (mutm 6 PySem.F.slot_list_append PySem.F.type_list_append (fun _ => hm_app) app_list (de_tup (da_cons (vr 10) (da_cons (de_op (fun _ _ => ho_add) (vr 9) (vr 3)) (da_nil) rfl) rfl)))) (dss_nil))) (fun _ _ _ => rfl)))) (dss_nil)) (dss_one (aug 7 nd (fun _ _ => iop_addI) (de_int)))))) (dss_one (rv 5))))))
theorem d_meeting (m_max : mg "max" = none) (m_min : mg "min" = none) (m_sorted : mg "sorted" = none) (m_tuple : mg "tuple" = none) (h_alight : Kn (cM P w K mg base) "alight" 3 (SpP f_alight)) (h_is_in_time : Kn (cM P w K mg base) "is_in_time" 1 (SpP f_is_in_time)) (h_reach_hours : Kn (cM P w K mg base) "reach_hours" 4 (SpP f_reach_hours)) : DSs (cxD P w K mg base N_meeting s_meeting 4) (defBody s_meeting) b_meeting := by
  have nd := sc_meeting.nd
  unfold b_meeting b_meeting_c1
  exact dss_cons (set 4 nd (cpk (show 3 ≤ 4 by decide) h_alight (da_cons (vr 0) (da_cons (vr 1) (da_nil) rfl) rfl))) (dss_cons (asg (de_l (lcomp nd (own := [("start", 10)]) (di_po (vr 2)) (blkOk_by (by kernel_rfl)) (gnm 10 nd) (dts_nil) (cpk (show 4 ≤ 4 by decide) h_reach_hours (da_cons (vr 0) (da_cons (vr 1) (da_cons (vr 10) (da_cons (vr 3) (da_nil) rfl) rfl) rfl) rfl)) (by decide))) (dg_lst (dgs_cons (gnm 5 nd) (dgs_cons (gnm 6 nd) (dgs_nil) (fun _ _ => rfl)) (fun _ _ => rfl)) (fun _ _ => rfl) (fun _ _ => rfl) (gs_lenS (gs_lenS (fun _ _ _ h => gs_len0 h)))) ((nf_lst (nfs_cons (nf_name 5) (nfs_cons (nf_name 6) (nfs_nil)))).gnf)) (dss_cons (own 7 nd (dl_disp (da_nil))) (dss_cons (forK (is := [8, 9]) 5 (gnm 8 nd) ((nf_name 8).gnf) (dss_one (ds_if (dt_cmp (fun _ hX => ho_in hX.un) (vr 8) (vr 6) rfl) (dss_cons (set 9 nd (cb (fun _ hX => hc_max hX.calm hX.un) m_max (da_cons (de_ix (vr 5) (vr 8) (fun _ _ => rfl)) (da_cons (de_ix (vr 6) (vr 8) (fun _ _ => rfl)) (da_nil) rfl) rfl))) (dss_one (ds_if (dt_truth (cpk (show 1 ≤ 4 by decide) h_is_in_time (da_cons (vr 4) (da_cons (vr 8) (da_cons (vr 9) (da_nil) rfl) rfl) rfl)) (fun _ _ _ => rfl)) (dss_one (mutm 7 PySem.F.slot_list_append PySem.F.type_list_append (fun _ => hm_app) app_list (de_tup (da_cons (vr 9) (da_cons (vr 8) (da_nil) rfl) rfl)))) (dss_nil)))) (dss_nil)))) (dss_cons (ds_if (dt_cmp (fun _ hX => ho_eq hX.un) (vr 7) (de_l (dl_disp (da_nil))) rfl) (dss_one (ds_ret (de_tup (da_cons (de_str) (da_cons (ct (fun _ _ => hc_tuple) m_tuple (da_cons (de_l (soK m_sorted (da_cons (vr 5) (da_nil) rfl))) (da_nil) rfl)) (da_cons (ct (fun _ _ => hc_tuple) m_tuple (da_cons (de_l (soK m_sorted (da_cons (vr 6) (da_nil) rfl))) (da_nil) rfl)) (da_nil) rfl) rfl) rfl)))) (dss_nil)) (dss_one (ds_ret (de_op (fun _ _ => ho_add) (de_tup (da_cons (de_str) (da_nil) rfl)) (cb (fun _ hX => hc_min hX.calm hX.un) m_min (da_cons (vr 7) (da_nil) rfl)))))))))
theorem d_law (m_dict : mg "dict" = none) (m_min : mg "min" = none) (m_range : mg "range" = none) (m_set : mg "set" = none) (m_sorted : mg "sorted" = none) (m_tuple : mg "tuple" = none) (h__law_draws : Kn (cM P w K mg base) "_law_draws" 1 (SpG (cM P w K mg base).c0 f__law_draws)) (h__law_next : Kn (cM P w K mg base) "_law_next" 1 (SpG (cM P w K mg base).c0 f__law_next)) (h__law_field : Kn (cM P w K mg base) "_law_field" 2 (SpG (cM P w K mg base).c0 f__law_field)) (h__law_alight : Kn (cM P w K mg base) "_law_alight" 2 (SpP f__law_alight)) (h__law_hours : Kn (cM P w K mg base) "_law_hours" 2 (SpP f__law_hours)) (h__law_same : Kn (cM P w K mg base) "_law_same" 6 (SpP (f__law_same 6))) (h__law_pick : Kn (cM P w K mg base) "_law_pick" 2 (SpG (cM P w K mg base).c0 f__law_pick)) (h_meeting : Kn (cM P w K mg base) "meeting" 5 (SpP f_meeting)) : DSs (cxD P w K mg base N_law s_law 6) (defBody s_law) b_law := by
  have nd := sc_law.nd
  unfold b_law b_law_c1
  exact dss_cons (cell 1 nd (df_disp (dps_cons (de_str) (cgk (show 1 ≤ 6 by decide) h__law_draws (da_cons (vr 0) (da_cons (de_int) (da_nil) rfl) rfl)) (dps_cons (de_str) (de_int) (dps_nil))) rfl rfl (by simp) (by decide))) (dss_cons (ds_for (is := [2, 3, 4, 5, 6, 7, 8, 9, 10, 11, 12, 13]) (di_r1 (by rfl) m_range (da_cons (de_int) (da_nil) rfl) rfl) (gnm 2 nd) ((nf_name 2).gnf) (dss_cons (set 3 nd (cgk (show 2 ≤ 6 by decide) h__law_field (da_cons (vr 1) (da_nil) rfl))) (dss_cons (set 4 nd (de_l (soK m_sorted (da_cons (vr 3) (da_nil) rfl)))) (dss_cons (set 5 nd (ct (fun _ _ => hc_tuple) m_tuple (da_cons (de_l (so_set m_sorted m_set (de_l (lcomp nd (own := [("k", 14)]) ((di_r1 (by rfl) m_range (da_cons (cgk (show 2 ≤ 6 by decide) h__law_pick (da_cons (vr 1) (da_cons (de_l (dl_disp (da_cons (de_int) (da_cons (de_int) (da_cons (de_int) (da_cons (de_int) (da_cons (de_int) (da_nil) rfl) rfl) rfl) rfl) rfl))) (da_nil) rfl) rfl)) (da_nil) rfl) rfl).any) (blkOk_by (by kernel_rfl)) (gnm 14 nd) (dts_nil) (cgk (show 2 ≤ 6 by decide) h__law_pick (da_cons (vr 1) (da_cons (vr 4) (da_nil) rfl) rfl)) (by decide))))) (da_nil) rfl))) (dss_cons (asg (de_tup (da_cons (de_tup (da_cons (cgk (show 2 ≤ 6 by decide) h__law_pick (da_cons (vr 1) (da_cons (vr 4) (da_nil) rfl) rfl)) (da_cons (cgk (show 2 ≤ 6 by decide) h__law_pick (da_cons (vr 1) (da_cons (vr 4) (da_nil) rfl) rfl)) (da_nil) rfl) rfl)) (da_cons (de_op (fun _ _ => ho_add) (de_int) (cgk (show 1 ≤ 6 by decide) h__law_next (da_cons (vr 1) (da_cons (de_int) (da_nil) rfl) rfl))) (da_cons (cpk (show 2 ≤ 6 by decide) h__law_alight (da_cons (vr 3) (da_cons (vr 5) (da_nil) rfl) rfl)) (da_nil) rfl) rfl) rfl)) (dg_tup (dgs_cons (gnm 6 nd) (dgs_cons (gnm 7 nd) (dgs_cons (gnm 8 nd) (dgs_nil) (fun _ _ => rfl)) (fun _ _ => rfl)) (fun _ _ => rfl)) (fun _ _ => rfl) (fun _ _ => rfl) (gs_lenS (gs_lenS (gs_lenS (fun _ _ _ h => gs_len0 h))))) ((nf_tup (nfs_cons (nf_name 6) (nfs_cons (nf_name 7) (nfs_cons (nf_name 8) (nfs_nil))))).gnf)) (dss_cons (asg (de_l (lcomp nd (own := [("start", 15)]) (di_po (vr 6)) (blkOk_by (by kernel_rfl)) (gnm 15 nd) (dts_nil) (cpk (show 2 ≤ 6 by decide) h__law_hours (da_cons (vr 3) (da_cons (vr 8) (da_cons (vr 15) (da_cons (vr 7) (da_cons (de_int) (da_nil) rfl) rfl) rfl) rfl) rfl)) (by decide))) (dg_lst (dgs_cons (gnm 9 nd) (dgs_cons (gnm 10 nd) (dgs_nil) (fun _ _ => rfl)) (fun _ _ => rfl)) (fun _ _ => rfl) (fun _ _ => rfl) (gs_lenS (gs_lenS (fun _ _ _ h => gs_len0 h)))) ((nf_lst (nfs_cons (nf_name 9) (nfs_cons (nf_name 10) (nfs_nil)))).gnf)) (dss_cons (set 11 nd (de_l (dl_disp (da_nil)))) (dss_cons (ds_for (is := [12]) (di_p (vr 4)) (gnm 12 nd) ((nf_name 12).gnf) (dss_one (set 11 nd (de_l (dl_op (fun _ _ => ho_addL) (vr 11) (de_l (lcomp nd (own := [("hour", 16)]) (di_po (getm2 (vr 9) (vr 12) (de_l (dl_disp (da_nil))))) (blkOk_by (by kernel_rfl)) (gnm 16 nd) (dts_one (dt_cmp (fun _ hX => ho_in hX.un) (vr 16) (getm2 (vr 10) (vr 12) (de_l (dl_disp (da_nil)))) rfl)) (de_tup (da_cons (vr 16) (da_cons (vr 12) (da_nil) rfl) rfl)) (by decide))))))) (fun _ _ _ => rfl)) (dss_cons (set 13 nd (de_if (dt_cmp (fun _ hX => ho_eq hX.un) (vr 11) (de_l (dl_disp (da_nil))) rfl) (de_tup (da_cons (de_str) (da_cons (ct (fun _ _ => hc_tuple) m_tuple (da_cons (de_l (soK m_sorted (da_cons (vr 9) (da_nil) rfl))) (da_nil) rfl)) (da_cons (ct (fun _ _ => hc_tuple) m_tuple (da_cons (de_l (soK m_sorted (da_cons (vr 10) (da_nil) rfl))) (da_nil) rfl)) (da_nil) rfl) rfl) rfl)) (de_op (fun _ _ => ho_add) (de_tup (da_cons (de_str) (da_nil) rfl)) (cb (fun _ hX => hc_min hX.calm hX.un) m_min (da_cons (vr 11) (da_nil) rfl))))) (dss_one (ds_if (dt_not (dt_truth (cpk (show 6 ≤ 6 by decide) h__law_same (da_cons (cpk (show 5 ≤ 6 by decide) h_meeting (da_cons (de_f (diC m_dict (da_cons (vr 3) (da_nil) rfl))) (da_cons (vr 5) (da_cons (vr 6) (da_cons (vr 7) (da_nil) rfl) rfl) rfl) rfl)) (da_cons (vr 13) (da_nil) rfl) rfl)) (fun _ _ _ => rfl))) (dss_one (ds_ret (de_bl))) (dss_nil))))))))))) (fun _ _ _ => rfl)) (dss_one (ds_ret (de_bl))))
set_option maxHeartbeats 0 in
theorem law_all {P : Program} {w : World} {K : PySem.W.Frag} {mg : Str → Option Value} {h : Heap} {fa : Addr} (X : K.In h) (G : h.Ns mainGlobals mg) (hmg : mg "law" = some (.ref fa)) (hF : lawOk f_law) (F__law_draws : FnIn K mg "_law_draws" s__law_draws ["script", "many"]) (F__law_next : FnIn K mg "_law_next" s__law_next ["w", "many"]) (F__law_field : FnIn K mg "_law_field" s__law_field ["w"]) (F__law_sides : FnIn K mg "_law_sides" s__law_sides ["cell"]) (F__law_alight : FnIn K mg "_law_alight" s__law_alight ["field", "begins"]) (F__law_safe : FnIn K mg "_law_safe" s__law_safe ["hours", "cell", "hour"]) (F__law_hours : FnIn K mg "_law_hours" s__law_hours ["field", "hours", "start", "step", "most"]) (F__law_same : FnIn K mg "_law_same" s__law_same ["told", "due"]) (F__law_pick : FnIn K mg "_law_pick" s__law_pick ["w", "rows"]) (F_sides : FnIn K mg "sides" s_sides ["cell"]) (F_spread_from : FnIn K mg "spread_from" s_spread_from ["field", "begins"]) (F_alight : FnIn K mg "alight" s_alight ["field", "begins"]) (F_is_in_time : FnIn K mg "is_in_time" s_is_in_time ["hours", "cell", "hour"]) (F_reach_hours : FnIn K mg "reach_hours" s_reach_hours ["field", "begins", "start", "step"]) (F_meeting : FnIn K mg "meeting" s_meeting ["field", "begins", "ones", "step"]) (F_law : FnIn K mg "law" s_law ["script"]) (m_abs : mg "abs" = none) (m_bool : mg "bool" = none) (m_dict : mg "dict" = none) (m_int : mg "int" = none) (m_isinstance : mg "isinstance" = none) (m_len : mg "len" = none) (m_max : mg "max" = none) (m_min : mg "min" = none) (m_range : mg "range" = none) (m_set : mg "set" = none) (m_sorted : mg "sorted" = none) (m_str : mg "str" = none) (m_tuple : mg "tuple" = none) : ∃ fd : FuncData, (∀ (s : Shared) (v : Value), BindsTo s fd ⟨[v], []⟩ [("script", v)]) ∧ ∀ base : Heap, K.In base → base.Ns mainGlobals mg → FnOk P w K mg base CX0 7 fa fd ["script"] (spLaw K) := by
  refine law_mk (N := N_law) hmg F_law sc_law (fun base _ _ => ?_) hF
  have h__law_draws : Kn (cM P w K mg base) "_law_draws" 1 (SpG (cM P w K mg base).c0 f__law_draws) := kn_G F__law_draws sc__law_draws (d__law_draws m_abs m_int m_len m_range)
  have h__law_next : Kn (cM P w K mg base) "_law_next" 1 (SpG (cM P w K mg base).c0 f__law_next) := kn_G F__law_next sc__law_next (d__law_next m_int m_len)
  have h__law_field : Kn (cM P w K mg base) "_law_field" 2 (SpG (cM P w K mg base).c0 f__law_field) := kn_G F__law_field sc__law_field (d__law_field m_range h__law_next)
  have h__law_sides : Kn (cM P w K mg base) "_law_sides" 1 (SpP f__law_sides) := kn_P F__law_sides sc__law_sides (d__law_sides)
  have h__law_alight : Kn (cM P w K mg base) "_law_alight" 2 (SpP f__law_alight) := kn_P F__law_alight sc__law_alight (d__law_alight m_dict m_min m_sorted h__law_sides)
  have h__law_safe : Kn (cM P w K mg base) "_law_safe" 1 (SpP f__law_safe) := kn_P F__law_safe sc__law_safe (d__law_safe)
  have h__law_hours : Kn (cM P w K mg base) "_law_hours" 2 (SpP f__law_hours) := kn_P F__law_hours sc__law_hours (d__law_hours m_range h__law_sides h__law_safe)
  have h__law_same : Kn (cM P w K mg base) "_law_same" 6 (SpP (f__law_same 6)) := by
    have H : ∀ n, Kn (cM P w K mg base) "_law_same" (0 + n) (SpP (f__law_same n)) := by
      intro n
      induction n with
      | zero => exact kn_0m F__law_same _
      | succ n ih => exact kn_P F__law_same sc__law_same (d__law_same _ _ (Nat.le_add_right _ _) m_bool m_int m_isinstance m_len m_range m_str m_tuple ih)
    exact H 6
  have h__law_pick : Kn (cM P w K mg base) "_law_pick" 2 (SpG (cM P w K mg base).c0 f__law_pick) := kn_G F__law_pick sc__law_pick (d__law_pick m_len h__law_next)
  have h_sides : Kn (cM P w K mg base) "sides" 1 (SpP f_sides) := kn_P F_sides sc_sides (d_sides)
  have h_spread_from : Kn (cM P w K mg base) "spread_from" 2 (SpP f_spread_from) := kn_P F_spread_from sc_spread_from (d_spread_from m_min h_sides)
  have h_alight : Kn (cM P w K mg base) "alight" 3 (SpP f_alight) := kn_P F_alight sc_alight (d_alight m_dict m_sorted h_spread_from)
  have h_is_in_time : Kn (cM P w K mg base) "is_in_time" 1 (SpP f_is_in_time) := kn_P F_is_in_time sc_is_in_time (d_is_in_time)
  have h_reach_hours : Kn (cM P w K mg base) "reach_hours" 4 (SpP f_reach_hours) := kn_P F_reach_hours sc_reach_hours (d_reach_hours m_len h_sides h_alight h_is_in_time)
  have h_meeting : Kn (cM P w K mg base) "meeting" 5 (SpP f_meeting) := kn_P F_meeting sc_meeting (d_meeting m_max m_min m_sorted m_tuple h_alight h_is_in_time h_reach_hours)
  exact d_law m_dict m_min m_range m_set m_sorted m_tuple h__law_draws h__law_next h__law_field h__law_alight h__law_hours h__law_same h__law_pick h_meeting
end
set_option maxHeartbeats 0 in
theorem all_mk {l : PySem.W.OpenLaw} {w : World} {K : PySem.W.Frag} {h : Heap} {mg : Str → Option Value} {fa : Addr} (X : K.In h) (G : h.Ns mainGlobals mg) (hmg : mg "law" = some (.ref fa)) (hF : lawOk f_law) {f0 : Addr} {od0 an0 : Option Addr} {sl0 : Array (Option Value)} {oc0 kV0 dc0 pm0 cd0 ct0 : Value} (a0 : PySem.W.nsIn K mainGlobals "_law_draws" = some (some (.ref f0))) (l0 : K.lookup f0 = some ⟨oc0, od0, .func (PySem.W.fnOf "_law_draws" "_law_draws" (defArgs s__law_draws) (defBody s__law_draws) (defScope s__law_draws) .none kV0 dc0 pm0 an0 cd0 ct0), sl0⟩) (c0 : PySem.W.codeIn K cd0 "_law_draws" = true) (k0 : PySem.W.keepIn K (.ref f0) = true) {f1 : Addr} {od1 an1 : Option Addr} {sl1 : Array (Option Value)} {oc1 kV1 dc1 pm1 cd1 ct1 : Value} (a1 : PySem.W.nsIn K mainGlobals "_law_next" = some (some (.ref f1))) (l1 : K.lookup f1 = some ⟨oc1, od1, .func (PySem.W.fnOf "_law_next" "_law_next" (defArgs s__law_next) (defBody s__law_next) (defScope s__law_next) .none kV1 dc1 pm1 an1 cd1 ct1), sl1⟩) (c1 : PySem.W.codeIn K cd1 "_law_next" = true) (k1 : PySem.W.keepIn K (.ref f1) = true) {f2 : Addr} {od2 an2 : Option Addr} {sl2 : Array (Option Value)} {oc2 kV2 dc2 pm2 cd2 ct2 : Value} (a2 : PySem.W.nsIn K mainGlobals "_law_field" = some (some (.ref f2))) (l2 : K.lookup f2 = some ⟨oc2, od2, .func (PySem.W.fnOf "_law_field" "_law_field" (defArgs s__law_field) (defBody s__law_field) (defScope s__law_field) .none kV2 dc2 pm2 an2 cd2 ct2), sl2⟩) (c2 : PySem.W.codeIn K cd2 "_law_field" = true) (k2 : PySem.W.keepIn K (.ref f2) = true) {f3 : Addr} {od3 an3 : Option Addr} {sl3 : Array (Option Value)} {oc3 kV3 dc3 pm3 cd3 ct3 : Value} (a3 : PySem.W.nsIn K mainGlobals "_law_sides" = some (some (.ref f3))) (l3 : K.lookup f3 = some ⟨oc3, od3, .func (PySem.W.fnOf "_law_sides" "_law_sides" (defArgs s__law_sides) (defBody s__law_sides) (defScope s__law_sides) .none kV3 dc3 pm3 an3 cd3 ct3), sl3⟩) (c3 : PySem.W.codeIn K cd3 "_law_sides" = true) (k3 : PySem.W.keepIn K (.ref f3) = true) {f4 : Addr} {od4 an4 : Option Addr} {sl4 : Array (Option Value)} {oc4 kV4 dc4 pm4 cd4 ct4 : Value} (a4 : PySem.W.nsIn K mainGlobals "_law_alight" = some (some (.ref f4))) (l4 : K.lookup f4 = some ⟨oc4, od4, .func (PySem.W.fnOf "_law_alight" "_law_alight" (defArgs s__law_alight) (defBody s__law_alight) (defScope s__law_alight) .none kV4 dc4 pm4 an4 cd4 ct4), sl4⟩) (c4 : PySem.W.codeIn K cd4 "_law_alight" = true) (k4 : PySem.W.keepIn K (.ref f4) = true) {f5 : Addr} {od5 an5 : Option Addr} {sl5 : Array (Option Value)} {oc5 kV5 dc5 pm5 cd5 ct5 : Value} (a5 : PySem.W.nsIn K mainGlobals "_law_safe" = some (some (.ref f5))) (l5 : K.lookup f5 = some ⟨oc5, od5, .func (PySem.W.fnOf "_law_safe" "_law_safe" (defArgs s__law_safe) (defBody s__law_safe) (defScope s__law_safe) .none kV5 dc5 pm5 an5 cd5 ct5), sl5⟩) (c5 : PySem.W.codeIn K cd5 "_law_safe" = true) (k5 : PySem.W.keepIn K (.ref f5) = true) {f6 : Addr} {od6 an6 : Option Addr} {sl6 : Array (Option Value)} {oc6 kV6 dc6 pm6 cd6 ct6 : Value} (a6 : PySem.W.nsIn K mainGlobals "_law_hours" = some (some (.ref f6))) (l6 : K.lookup f6 = some ⟨oc6, od6, .func (PySem.W.fnOf "_law_hours" "_law_hours" (defArgs s__law_hours) (defBody s__law_hours) (defScope s__law_hours) .none kV6 dc6 pm6 an6 cd6 ct6), sl6⟩) (c6 : PySem.W.codeIn K cd6 "_law_hours" = true) (k6 : PySem.W.keepIn K (.ref f6) = true) {f7 : Addr} {od7 an7 : Option Addr} {sl7 : Array (Option Value)} {oc7 kV7 dc7 pm7 cd7 ct7 : Value} (a7 : PySem.W.nsIn K mainGlobals "_law_same" = some (some (.ref f7))) (l7 : K.lookup f7 = some ⟨oc7, od7, .func (PySem.W.fnOf "_law_same" "_law_same" (defArgs s__law_same) (defBody s__law_same) (defScope s__law_same) .none kV7 dc7 pm7 an7 cd7 ct7), sl7⟩) (c7 : PySem.W.codeIn K cd7 "_law_same" = true) (k7 : PySem.W.keepIn K (.ref f7) = true) {f8 : Addr} {od8 an8 : Option Addr} {sl8 : Array (Option Value)} {oc8 kV8 dc8 pm8 cd8 ct8 : Value} (a8 : PySem.W.nsIn K mainGlobals "_law_pick" = some (some (.ref f8))) (l8 : K.lookup f8 = some ⟨oc8, od8, .func (PySem.W.fnOf "_law_pick" "_law_pick" (defArgs s__law_pick) (defBody s__law_pick) (defScope s__law_pick) .none kV8 dc8 pm8 an8 cd8 ct8), sl8⟩) (c8 : PySem.W.codeIn K cd8 "_law_pick" = true) (k8 : PySem.W.keepIn K (.ref f8) = true) {f9 : Addr} {od9 an9 : Option Addr} {sl9 : Array (Option Value)} {oc9 kV9 dc9 pm9 cd9 ct9 : Value} (a9 : PySem.W.nsIn K mainGlobals "sides" = some (some (.ref f9))) (l9 : K.lookup f9 = some ⟨oc9, od9, .func (PySem.W.fnOf "sides" "sides" (defArgs s_sides) (defBody s_sides) (defScope s_sides) .none kV9 dc9 pm9 an9 cd9 ct9), sl9⟩) (c9 : PySem.W.codeIn K cd9 "sides" = true) (k9 : PySem.W.keepIn K (.ref f9) = true) {f10 : Addr} {od10 an10 : Option Addr} {sl10 : Array (Option Value)} {oc10 kV10 dc10 pm10 cd10 ct10 : Value} (a10 : PySem.W.nsIn K mainGlobals "spread_from" = some (some (.ref f10))) (l10 : K.lookup f10 = some ⟨oc10, od10, .func (PySem.W.fnOf "spread_from" "spread_from" (defArgs s_spread_from) (defBody s_spread_from) (defScope s_spread_from) .none kV10 dc10 pm10 an10 cd10 ct10), sl10⟩) (c10 : PySem.W.codeIn K cd10 "spread_from" = true) (k10 : PySem.W.keepIn K (.ref f10) = true) {f11 : Addr} {od11 an11 : Option Addr} {sl11 : Array (Option Value)} {oc11 kV11 dc11 pm11 cd11 ct11 : Value} (a11 : PySem.W.nsIn K mainGlobals "alight" = some (some (.ref f11))) (l11 : K.lookup f11 = some ⟨oc11, od11, .func (PySem.W.fnOf "alight" "alight" (defArgs s_alight) (defBody s_alight) (defScope s_alight) .none kV11 dc11 pm11 an11 cd11 ct11), sl11⟩) (c11 : PySem.W.codeIn K cd11 "alight" = true) (k11 : PySem.W.keepIn K (.ref f11) = true) {f12 : Addr} {od12 an12 : Option Addr} {sl12 : Array (Option Value)} {oc12 kV12 dc12 pm12 cd12 ct12 : Value} (a12 : PySem.W.nsIn K mainGlobals "is_in_time" = some (some (.ref f12))) (l12 : K.lookup f12 = some ⟨oc12, od12, .func (PySem.W.fnOf "is_in_time" "is_in_time" (defArgs s_is_in_time) (defBody s_is_in_time) (defScope s_is_in_time) .none kV12 dc12 pm12 an12 cd12 ct12), sl12⟩) (c12 : PySem.W.codeIn K cd12 "is_in_time" = true) (k12 : PySem.W.keepIn K (.ref f12) = true) {f13 : Addr} {od13 an13 : Option Addr} {sl13 : Array (Option Value)} {oc13 kV13 dc13 pm13 cd13 ct13 : Value} (a13 : PySem.W.nsIn K mainGlobals "reach_hours" = some (some (.ref f13))) (l13 : K.lookup f13 = some ⟨oc13, od13, .func (PySem.W.fnOf "reach_hours" "reach_hours" (defArgs s_reach_hours) (defBody s_reach_hours) (defScope s_reach_hours) .none kV13 dc13 pm13 an13 cd13 ct13), sl13⟩) (c13 : PySem.W.codeIn K cd13 "reach_hours" = true) (k13 : PySem.W.keepIn K (.ref f13) = true) {f14 : Addr} {od14 an14 : Option Addr} {sl14 : Array (Option Value)} {oc14 kV14 dc14 pm14 cd14 ct14 : Value} (a14 : PySem.W.nsIn K mainGlobals "meeting" = some (some (.ref f14))) (l14 : K.lookup f14 = some ⟨oc14, od14, .func (PySem.W.fnOf "meeting" "meeting" (defArgs s_meeting) (defBody s_meeting) (defScope s_meeting) .none kV14 dc14 pm14 an14 cd14 ct14), sl14⟩) (c14 : PySem.W.codeIn K cd14 "meeting" = true) (k14 : PySem.W.keepIn K (.ref f14) = true) {f15 : Addr} {od15 an15 : Option Addr} {sl15 : Array (Option Value)} {oc15 kV15 dc15 pm15 cd15 ct15 : Value} (a15 : PySem.W.nsIn K mainGlobals "law" = some (some (.ref f15))) (l15 : K.lookup f15 = some ⟨oc15, od15, .func (PySem.W.fnOf "law" "law" (defArgs s_law) (defBody s_law) (defScope s_law) .none kV15 dc15 pm15 an15 cd15 ct15), sl15⟩) (c15 : PySem.W.codeIn K cd15 "law" = true) (k15 : PySem.W.keepIn K (.ref f15) = true) (z_abs : PySem.W.nsIn K mainGlobals "abs" = some none) (z_bool : PySem.W.nsIn K mainGlobals "bool" = some none) (z_dict : PySem.W.nsIn K mainGlobals "dict" = some none) (z_int : PySem.W.nsIn K mainGlobals "int" = some none) (z_isinstance : PySem.W.nsIn K mainGlobals "isinstance" = some none) (z_len : PySem.W.nsIn K mainGlobals "len" = some none) (z_max : PySem.W.nsIn K mainGlobals "max" = some none) (z_min : PySem.W.nsIn K mainGlobals "min" = some none) (z_range : PySem.W.nsIn K mainGlobals "range" = some none) (z_set : PySem.W.nsIn K mainGlobals "set" = some none) (z_sorted : PySem.W.nsIn K mainGlobals "sorted" = some none) (z_str : PySem.W.nsIn K mainGlobals "str" = some none) (z_tuple : PySem.W.nsIn K mainGlobals "tuple" = some none) :
    ∃ fd : FuncData, (∀ (s : Shared) (v : Value), BindsTo s fd ⟨[v], []⟩ [("script", v)]) ∧ ∀ base : Heap, K.In base → base.Ns mainGlobals mg → FnOk l.prog w K mg base CX0 7 fa fd ["script"] (spLaw K) :=
  law_all X G hmg hF (FnIn.mk' (st := s__law_draws) (ps := ["script", "many"]) X G a0 l0 c0 k0 (fun _ _ _ _ _ _ us hl => match us, hl with | [_, _], _ => rfl)) (FnIn.mk' (st := s__law_next) (ps := ["w", "many"]) X G a1 l1 c1 k1 (fun _ _ _ _ _ _ us hl => match us, hl with | [_, _], _ => rfl)) (FnIn.mk' (st := s__law_field) (ps := ["w"]) X G a2 l2 c2 k2 (fun _ _ _ _ _ _ us hl => match us, hl with | [_], _ => rfl)) (FnIn.mk' (st := s__law_sides) (ps := ["cell"]) X G a3 l3 c3 k3 (fun _ _ _ _ _ _ us hl => match us, hl with | [_], _ => rfl)) (FnIn.mk' (st := s__law_alight) (ps := ["field", "begins"]) X G a4 l4 c4 k4 (fun _ _ _ _ _ _ us hl => match us, hl with | [_, _], _ => rfl)) (FnIn.mk' (st := s__law_safe) (ps := ["hours", "cell", "hour"]) X G a5 l5 c5 k5 (fun _ _ _ _ _ _ us hl => match us, hl with | [_, _, _], _ => rfl)) (FnIn.mk' (st := s__law_hours) (ps := ["field", "hours", "start", "step", "most"]) X G a6 l6 c6 k6 (fun _ _ _ _ _ _ us hl => match us, hl with | [_, _, _, _, _], _ => rfl)) (FnIn.mk' (st := s__law_same) (ps := ["told", "due"]) X G a7 l7 c7 k7 (fun _ _ _ _ _ _ us hl => match us, hl with | [_, _], _ => rfl)) (FnIn.mk' (st := s__law_pick) (ps := ["w", "rows"]) X G a8 l8 c8 k8 (fun _ _ _ _ _ _ us hl => match us, hl with | [_, _], _ => rfl)) (FnIn.mk' (st := s_sides) (ps := ["cell"]) X G a9 l9 c9 k9 (fun _ _ _ _ _ _ us hl => match us, hl with | [_], _ => rfl)) (FnIn.mk' (st := s_spread_from) (ps := ["field", "begins"]) X G a10 l10 c10 k10 (fun _ _ _ _ _ _ us hl => match us, hl with | [_, _], _ => rfl)) (FnIn.mk' (st := s_alight) (ps := ["field", "begins"]) X G a11 l11 c11 k11 (fun _ _ _ _ _ _ us hl => match us, hl with | [_, _], _ => rfl)) (FnIn.mk' (st := s_is_in_time) (ps := ["hours", "cell", "hour"]) X G a12 l12 c12 k12 (fun _ _ _ _ _ _ us hl => match us, hl with | [_, _, _], _ => rfl)) (FnIn.mk' (st := s_reach_hours) (ps := ["field", "begins", "start", "step"]) X G a13 l13 c13 k13 (fun _ _ _ _ _ _ us hl => match us, hl with | [_, _, _, _], _ => rfl)) (FnIn.mk' (st := s_meeting) (ps := ["field", "begins", "ones", "step"]) X G a14 l14 c14 k14 (fun _ _ _ _ _ _ us hl => match us, hl with | [_, _, _, _], _ => rfl)) (FnIn.mk' (st := s_law) (ps := ["script"]) X G a15 l15 c15 k15 (fun _ _ _ _ _ _ us hl => match us, hl with | [_], _ => rfl)) (PySem.W.mg_none_of X G z_abs) (PySem.W.mg_none_of X G z_bool) (PySem.W.mg_none_of X G z_dict) (PySem.W.mg_none_of X G z_int) (PySem.W.mg_none_of X G z_isinstance) (PySem.W.mg_none_of X G z_len) (PySem.W.mg_none_of X G z_max) (PySem.W.mg_none_of X G z_min) (PySem.W.mg_none_of X G z_range) (PySem.W.mg_none_of X G z_set) (PySem.W.mg_none_of X G z_sorted) (PySem.W.mg_none_of X G z_str) (PySem.W.mg_none_of X G z_tuple)
end DL
namespace DL
open PySem PySem.Spec L2
open PyProof.Rows hiding St
/-! dicts with keys of one kind, as rows of pairs -/
section
variable {α β : Type} [DecidableEq α] {n : Nat} {e : α → PyData} {f : β → PyData}
def putA (l : List (α × β)) (k : α) (v : β) : List (α × β) := if (l.any fun p => decide (p.1 = k)) = true then l.map (fun p => if p.1 = k then (p.1, v) else p) else l ++ [(k, v)]
def mergeA (ps : List (α × β)) : List (α × β) := ps.foldl (fun acc p => putA acc p.1 p.2) []
def asD (e : α → PyData) (f : β → PyData) (l : List (α × β)) : List (PyData × PyData) := l.map fun p => (e p.1, f p.2)
theorem putA_D (h : Enc n e) {l : List (α × β)} {k : α} {v : β} : putD (asD e f l) (e k) (f v) = asD e f (putA l k v) := by
  unfold putD putA asD
  have e1 : ((l.map fun p => (e p.1, f p.2)).any fun p => PyData.eqv p.1 (e k)) = l.any fun p => decide (p.1 = k) := by
    rw [List.any_map]
    congr 1
    funext p
    exact h.eqv _ _
  rw [e1]
  split
  · rw [List.map_map, List.map_map]
    refine List.map_congr_left fun p _ => ?_
    show (if PyData.eqv (e p.1) (e k) = true then (e p.1, f v) else (e p.1, f p.2)) = (e (if p.1 = k then (p.1, v) else p).1, f (if p.1 = k then (p.1, v) else p).2)
    rw [h.eqv]
    by_cases hk : p.1 = k <;> simp [hk]
  · simp
theorem mergeA_D (h : Enc n e) (ps : List (α × β)) : mergeD (asD e f ps) = asD e f (mergeA ps) := by
  have key : ∀ (ps acc : List (α × β)), (asD e f ps).foldl (fun acc p => putD acc p.1 p.2) (asD e f acc) = asD e f (ps.foldl (fun acc p => putA acc p.1 p.2) acc) := fun ps => by
    induction ps with
    | nil => intro acc; rfl
    | cons p ps ih =>
      intro acc
      show (asD e f ps).foldl _ (putD (asD e f acc) (e p.1) (f p.2)) = _
      rw [putA_D h, ih]
      rfl
  exact key ps []
theorem putA_keys {l : List (α × β)} {k : α} {v : β} : (putA l k v).map (·.1) = if k ∈ l.map (·.1) then l.map (·.1) else l.map (·.1) ++ [k] := by
  unfold putA
  have e1 : (l.any fun p => decide (p.1 = k)) = decide (k ∈ l.map (·.1)) := by
    rw [Bool.eq_iff_iff, List.any_eq_true, decide_eq_true_eq, List.mem_map]
    exact ⟨fun ⟨p, hp, q⟩ => ⟨p, hp, of_decide_eq_true q⟩, fun ⟨p, hp, q⟩ => ⟨p, hp, decide_eq_true q⟩⟩
  rw [e1]
  by_cases hk : k ∈ l.map (·.1)
  · rw [if_pos (decide_eq_true hk), if_pos hk, List.map_map]
    refine List.map_congr_left fun p _ => ?_
    show (if p.1 = k then (p.1, v) else p).1 = p.1
    split <;> rfl
  · rw [if_neg (by simpa using hk), if_neg hk, List.map_append]
    rfl
theorem putA_mem {l : List (α × β)} {k : α} {v : β} {a : α} : a ∈ (putA l k v).map (·.1) ↔ a ∈ l.map (·.1) ∨ a = k := by
  rw [putA_keys]
  split
  · rename_i h
    exact ⟨.inl, fun q => q.elim id fun q => q ▸ h⟩
  · rw [List.mem_append, List.mem_singleton]
theorem putA_nodup {l : List (α × β)} {k : α} {v : β} (h : (l.map (·.1)).Nodup) : ((putA l k v).map (·.1)).Nodup := by
  rw [putA_keys]
  split
  · exact h
  · rename_i hk
    rw [List.nodup_append]
    exact ⟨h, by simp, fun a ha b hb q => by rw [List.mem_singleton] at hb; subst hb; subst q; exact hk ha⟩
theorem mergeA_keys : ∀ {ps : List (α × β)}, ((mergeA ps).map (·.1)).Nodup ∧ ∀ a, a ∈ (mergeA ps).map (·.1) ↔ a ∈ ps.map (·.1) := fun {ps} => by
  have key : ∀ (ps acc : List (α × β)), (acc.map (·.1)).Nodup → ((ps.foldl (fun acc p => putA acc p.1 p.2) acc).map (·.1)).Nodup ∧ ∀ a, a ∈ (ps.foldl (fun acc p => putA acc p.1 p.2) acc).map (·.1) ↔ a ∈ acc.map (·.1) ∨ a ∈ ps.map (·.1) := fun ps => by
    induction ps with
    | nil => intro acc h; exact ⟨h, fun a => by simp⟩
    | cons p ps ih =>
      intro acc h
      obtain ⟨h1, h2⟩ := ih (putA acc p.1 p.2) (putA_nodup h)
      refine ⟨h1, fun a => (h2 a).trans ?_⟩
      rw [putA_mem, List.map_cons, List.mem_cons, or_assoc]
  obtain ⟨h1, h2⟩ := key ps [] (by simp)
  exact ⟨h1, fun a => (h2 a).trans (by simp)⟩
def getA (l : List (α × β)) (k : α) : Option β := (l.find? fun p => decide (p.1 = k)).map (·.2)
theorem getA_put {l : List (α × β)} {k : α} {v : β} {a : α} : getA (putA l k v) a = if a = k then some v else getA l a := by
  unfold getA putA
  have find_none : ∀ {l : List (α × β)} {a : α}, (l.any fun p => decide (p.1 = a)) = false → (l.find? fun p => decide (p.1 = a)) = none := fun {l a} h => by
    rw [List.find?_eq_none]
    intro p hp q
    have : (l.any fun p => decide (p.1 = a)) = true := List.any_eq_true.mpr ⟨p, hp, q⟩
    rw [this] at h; cases h
  cases hk : (l.any fun p => decide (p.1 = k)) with
  | true =>
    rw [if_pos rfl]
    induction l with
    | nil => simp at hk
    | cons p l ih =>
      rw [List.map_cons, List.find?_cons, List.find?_cons]
      by_cases hp : p.1 = k
      · rw [if_pos hp]
        by_cases ha : a = k
        · subst ha; simp [hp]
        · have hpa : ¬ p.1 = a := fun z => ha (z.symm.trans hp)
          simp only [hpa, decide_false, if_neg ha]
          cases hl : (l.any fun p => decide (p.1 = k)) with
          | true => have := ih hl; rwa [if_neg ha] at this
          | false =>
            have : (l.map fun p => if p.1 = k then (p.1, v) else p) = l := by
              refine (List.map_congr_left fun q hq => ?_).trans (List.map_id l)
              have : ¬ q.1 = k := fun z => by
                have : (l.any fun p => decide (p.1 = k)) = true := List.any_eq_true.mpr ⟨q, hq, decide_eq_true z⟩
                rw [this] at hl; cases hl
              rw [if_neg this]; rfl
            rw [this]
      · rw [if_neg hp]
        have hl : (l.any fun p => decide (p.1 = k)) = true := by
          rw [List.any_cons, decide_eq_false hp, Bool.false_or] at hk
          exact hk
        by_cases hpa : p.1 = a
        · have ha : ¬ a = k := fun z => hp (hpa.trans z)
          simp [hpa, ha]
        · have := ih hl
          simp only [hpa, decide_false]
          exact this
  | false =>
    rw [if_neg (by simp), List.find?_append]
    by_cases ha : a = k
    · subst ha
      simp [find_none hk]
    · rw [if_neg ha]
      have : ([(k, v)].find? fun p => decide (p.1 = a)) = none := by
        rw [List.find?_cons, decide_eq_false (fun z : k = a => ha z.symm)]; rfl
      rw [this, Option.or_none]
end

@[simp ↓] theorem w_extL {xs ys : List PyData} {Q : PyData → Prop} : W (extD (.list xs) (.list ys)) Q = (xs.length + ys.length ≤ sizeLine ∧ Q (.list (xs ++ ys))) := W_req
@[simp ↓] theorem w_extT {xs ys : List PyData} {Q : PyData → Prop} : W (extD (.list xs) (.tuple ys)) Q = (xs.length + ys.length ≤ sizeLine ∧ Q (.list (xs ++ ys))) := W_req
theorem Enc.sort_nodup {α : Type} [DecidableEq α] {n : Nat} {e : α → PyData} (h : Enc n e) {ks xs : List α} (h1 : ks.Nodup) (h2 : ∀ a, a ∈ ks ↔ a ∈ xs) : sortE e ks = usetE e xs := by
  refine strict_ext (lt := ltE e) ltE_irrefl (fun _ _ _ => ltE_trans) ?_ h.uset_strict fun a => ?_
  · have hs : (sortE e ks).Pairwise (leE e) := sortE_sorted
    have hn : (sortE e ks).Nodup := sortE_perm.nodup_iff.mpr h1
    refine (hs.and hn).imp fun {a b} q => Classical.byContradiction fun z => q.2 (h.anti q.1 (leE_def.mpr z))
  · rw [sortE_perm.mem_iff, h2, h.uset_mem]
end DL
namespace DL
open PySem PySem.Spec L2
section
variable {α β : Type} [DecidableEq α] {n : Nat} {e : α → PyData} {f : β → PyData}
theorem getA_merge {F : α → β} (l : List α) (a : α) : getA (mergeA (l.map fun c => (c, F c))) a = if a ∈ l then some (F a) else none := by
  have key : ∀ (l : List α) (acc : List (α × β)), getA ((l.map fun c => (c, F c)).foldl (fun acc p => putA acc p.1 p.2) acc) a = if a ∈ l then some (F a) else getA acc a := fun l => by
    induction l with
    | nil => intro acc; simp
    | cons c l ih =>
      intro acc
      rw [List.map_cons, List.foldl_cons, ih, getA_put]
      by_cases h1 : a ∈ l
      · simp [h1]
      · by_cases h2 : a = c
        · subst h2; simp [h1]
        · simp [h1, h2]
  exact key l []
theorem getA_D (h : Enc n e) {l : List (α × β)} {k : α} : getK (asD e f l) (e k) = (getA l k).map f := by
  unfold getK getA asD
  induction l with
  | nil => rfl
  | cons p l ih =>
    rw [List.map_cons, List.find?_cons, List.find?_cons, h.eqv]
    by_cases q : p.1 = k
    · simp [q]
    · simp only [decide_eq_false q]
      exact ih
end
theorem keyOk_pr {β : Type} {f : β → PyData} {l : List ((Int × Int) × β)} {k : Int × Int} : keyOk (asD pr f l) (pr k) = true := by
  have : ((asD pr f l).all fun p => isKT p.1) = true := by
    unfold asD
    rw [List.all_map, List.all_eq_true]
    exact fun _ _ => rfl
  unfold keyOk
  rw [this]
  rfl
theorem ixA_pr {β : Type} {f : β → PyData} {l : List ((Int × Int) × β)} {k : Int × Int} : ixD (.dict (asD pr f l)) (pr k) = (getA l k).map f := by
  show (if keyOk _ _ = true then getK _ _ else none) = _
  rw [if_pos keyOk_pr, getA_D enc_pr]
theorem inA_pr {β : Type} {f : β → PyData} {l : List ((Int × Int) × β)} {k : Int × Int} : inD (pr k) (.dict (asD pr f l)) = some (.bool (getA l k).isSome) := by
  show (if keyOk _ _ = true then some (PyData.bool (getK _ _).isSome) else none) = _
  rw [if_pos keyOk_pr, getA_D enc_pr]
  cases getA l k <;> rfl
end DL
namespace DL
open PySem PySem.Spec L2
open PyProof.Rows hiding St
def mnI : List Int → Int
  | [] => 0
  | x :: xs => minE PyData.int x xs
def mxI : List Int → Int
  | [] => 0
  | x :: xs => maxE PyData.int x xs
theorem mnI_ok {xs : List Int} (h : xs ≠ []) : minD [.list (xs.map .int)] = some (.int (mnI xs)) := by
  cases xs with
  | nil => exact absurd rfl h
  | cons x xs => exact enc_int.min_l
theorem mxI_ok {xs : List Int} (h : xs ≠ []) : maxD [.list (xs.map .int)] = some (.int (mxI xs)) := by
  cases xs with
  | nil => exact absurd rfl h
  | cons x xs => exact enc_int.max_l
theorem mnI_congr {xs ys : List Int} (h : ∀ a, a ∈ xs ↔ a ∈ ys) : mnI xs = mnI ys := by
  cases xs with
  | nil =>
    cases ys with
    | nil => rfl
    | cons y ys => exact absurd ((h y).mpr List.mem_cons_self) (by simp)
  | cons x xs =>
    cases ys with
    | nil => exact absurd ((h x).mp List.mem_cons_self) (by simp)
    | cons y ys =>
      obtain ⟨a, b⟩ := enc_int.min_spec y ys
      exact enc_int.min_eq ((h _).mpr a) fun z hz => b z ((h z).mp hz)
theorem mxI_congr {xs ys : List Int} (h : ∀ a, a ∈ xs ↔ a ∈ ys) : mxI xs = mxI ys := by
  cases xs with
  | nil =>
    cases ys with
    | nil => rfl
    | cons y ys => exact absurd ((h y).mpr List.mem_cons_self) (by simp)
  | cons x xs =>
    cases ys with
    | nil => exact absurd ((h x).mp List.mem_cons_self) (by simp)
    | cons y ys =>
      obtain ⟨a, b⟩ := enc_int.max_spec y ys
      exact enc_int.max_eq ((h _).mpr a) fun z hz => b z ((h z).mp hz)
theorem setA_prF {β : Type} {f : β → PyData} {l : List ((Int × Int) × β)} {k : Int × Int} {v : β} (h : l.length < sizeLine) : setD (.dict (asD pr f l)) (pr k) (f v) = some (.dict (asD pr f (putA l k v))) := by
  show (if _ then _ else _) = _
  rw [if_pos ⟨keyOk_pr, by unfold asD; rw [List.length_map]; exact h⟩, putA_D enc_pr]
theorem mergeA_snoc {α β : Type} [DecidableEq α] {l : List (α × β)} {k : α} {v : β} : mergeA (l ++ [(k, v)]) = putA (mergeA l) k v := by
  unfold mergeA
  rw [List.foldl_append]
  rfl
theorem mergeA_le {α β : Type} [DecidableEq α] {l : List (α × β)} : (mergeA l).length ≤ l.length := by
  obtain ⟨h1, h2⟩ := mergeA_keys (ps := l)
  have : ((mergeA l).map (·.1)).length ≤ (l.map (·.1)).length := h1.length_le_of_subset fun x hx => (h2 x).mp hx
  rwa [List.length_map, List.length_map] at this
end DL
namespace DL
open PySem PySem.Spec L2
open PyProof.Rows hiding St
/-! fields as dicts: from k06/pure and k06/plain -/
abbrev Kc := Int × Int
/-! as rows -/
def tab (ks : List Kc) (f : Kc → Int) : List (Kc × Int) := ks.map fun c => (c, f c)
theorem tab_congr {ks : List Kc} {f g : Kc → Int} (h : ∀ c ∈ ks, f c = g c) : tab ks f = tab ks g := List.map_congr_left fun c hc => by rw [h c hc]
theorem getA_tab {ks : List Kc} {f : Kc → Int} {c : Kc} : getA (tab ks f) c = if c ∈ ks then some (f c) else none := by
  unfold tab
  induction ks with
  | nil => simp [getA]
  | cons k ks ih =>
    unfold getA at *
    rw [List.map_cons, List.find?_cons]
    by_cases h : k = c
    · subst h; simp
    · simp only [decide_eq_false h]
      rw [ih]
      have : c ∈ k :: ks ↔ c ∈ ks := by rw [List.mem_cons]; exact ⟨fun q => q.elim (fun z => absurd z.symm h) id, .inr⟩
      simp only [this]
theorem merge_nodup {α β : Type} [DecidableEq α] {ps : List (α × β)} (h : (ps.map (·.1)).Nodup) : mergeA ps = ps := by
  have key : ∀ (ps acc : List (α × β)), ((acc ++ ps).map (·.1)).Nodup → ps.foldl (fun acc p => putA acc p.1 p.2) acc = acc ++ ps := fun ps => by
    induction ps with
    | nil => intro acc _; simp
    | cons p ps ih =>
      intro acc hn
      have hp : p.1 ∉ acc.map (·.1) := fun z => by
        rw [List.map_append, List.nodup_append] at hn
        exact hn.2.2 p.1 z p.1 (by simp) rfl
      have e : putA acc p.1 p.2 = acc ++ [p] := by
        unfold putA
        have : (acc.any fun q => decide (q.1 = p.1)) = false := by
          rw [List.any_eq_false]
          intro q hq z
          exact hp (List.mem_map.mpr ⟨q, hq, of_decide_eq_true z⟩)
        rw [this]
        rfl
      rw [List.foldl_cons, e, ih _ (by simpa using hn)]
      simp
  exact key ps [] (by simpa using h)
theorem tab_of {l : List (Kc × Int)} (h : (l.map (·.1)).Nodup) : ∃ f, l = tab (l.map (·.1)) f := by
  refine ⟨fun c => (getA l c).getD 0, ?_⟩
  unfold tab
  rw [List.map_map]
  conv => lhs; rw [← List.map_id l]
  refine List.map_congr_left fun p hp => ?_
  have : getA l p.1 = some p.2 := by
    unfold getA
    induction l with
    | nil => cases hp
    | cons q l ih =>
      rw [List.map_cons, List.nodup_cons] at h
      rw [List.find?_cons]
      rcases List.mem_cons.mp hp with rfl | hp
      · simp
      · have : ¬ q.1 = p.1 := fun z => h.1 (z ▸ List.mem_map.mpr ⟨p, hp, rfl⟩)
        simp only [decide_eq_false this]
        exact ih h.2 hp
  show p = (p.1, (getA l p.1).getD 0)
  rw [this]
  rfl
theorem atIg {xs : List PyData} {k : Nat} {x : PyData} (h : xs[k]? = some x) : atI xs (k : Int) = some x := by rw [atI_pos]; exact h
abbrev FD (ks : List Kc) (f : Kc → Int) : PyData := .dict (asD pr PyData.int (tab ks f))
theorem fd_keys {ks : List Kc} {f : Kc → Int} : (asD pr PyData.int (tab ks f)).map (·.1) = ks.map pr := by unfold asD tab; rw [List.map_map, List.map_map]; rfl
theorem fd_len {ks : List Kc} {f : Kc → Int} : (asD pr PyData.int (tab ks f)).length = ks.length := by unfold asD tab; rw [List.length_map, List.length_map]
theorem fd_ix {ks : List Kc} {f : Kc → Int} {c : Kc} (h : c ∈ ks) : ixD (FD ks f) (pr c) = some (.int (f c)) := by rw [ixA_pr, getA_tab, if_pos h]; rfl
theorem fd_in {ks : List Kc} {f : Kc → Int} {c : Kc} : inD (pr c) (FD ks f) = some (.bool (decide (c ∈ ks))) := by
  rw [inA_pr, getA_tab]
  by_cases h : c ∈ ks <;> simp [h]
theorem dict_tab {ks : List Kc} {f : Kc → Int} (h : ks.Nodup) (hl : ks.length ≤ 1000) : dictP [.list (ks.map fun c => .tuple [pr c, .int (f c)])] = some (FD ks f) := by
  have hz : (sizeLine : Nat) = 16777216 := sizeLine_eq
  have e3 : (ks.map fun c => PyData.tuple [pr c, .int (f c)]) = (asD pr PyData.int (tab ks f)).map fun p => .tuple [p.1, p.2] := by
    unfold asD tab
    rw [List.map_map, List.map_map]
    rfl
  rw [e3, dictP_l (by rw [fd_len]; omega) (.inr ?_), mergeA_D enc_pr, merge_nodup]
  · unfold tab
    rw [List.map_map]
    have : ((fun x : Kc × Int => x.1) ∘ fun c => (c, f c)) = id := rfl
    rw [this, List.map_id]
    exact h
  · unfold asD
    rw [List.all_map, List.all_eq_true]
    exact fun _ _ => rfl
theorem okS_ps6 {l : List Kc} (h : l.length ≤ 100000) : okS 6 (.tuple (l.map pr)) = true := by
  show (decide ((l.map pr).length ≤ 100000) && (l.map pr).all (okS 5)) = true
  rw [List.length_map, decide_eq_true h, Bool.true_and, List.all_map, List.all_eq_true]
  exact fun _ _ => rfl
end DL
namespace DL
open PySem PySem.Spec L2
open PyProof.Rows hiding St
/-! cells that come to one another, in plain words -/
def sidesP (c : Kc) : List Kc := [(c.1 - 1, c.2), (c.1, c.2 - 1), (c.1, c.2 + 1), (c.1 + 1, c.2)]
def sidesQ (c : Kc) : List Kc := [(c.1 - 1, c.2), (c.1 + 1, c.2), (c.1, c.2 - 1), (c.1, c.2 + 1)]
theorem sides_mem {c d : Kc} : d ∈ sidesQ c ↔ d ∈ sidesP c := by
  unfold sidesP sidesQ
  simp only [List.mem_cons, List.not_mem_nil, or_false]
  constructor
  · rintro (h | h | h | h) <;> simp [h]
  · rintro (h | h | h | h) <;> simp [h]
theorem sidesP_nodup {c : Kc} : (sidesP c).Nodup := by
  unfold sidesP
  simp [Prod.ext_iff]
  omega
theorem sidesQ_nodup {c : Kc} : (sidesQ c).Nodup := by
  unfold sidesQ
  simp [Prod.ext_iff]
  omega
theorem sides_sym {c d : Kc} : d ∈ sidesP c → c ∈ sidesP d := by
  obtain ⟨a, b⟩ := c
  obtain ⟨x, y⟩ := d
  unfold sidesP
  simp only [List.mem_cons, List.not_mem_nil, or_false, Prod.mk.injEq]
  omega
inductive Reach (P : Kc → Bool) (src : List Kc) : Kc → Prop
  | base {c : Kc} : c ∈ src → P c = true → Reach P src c
  | step {c d : Kc} : Reach P src c → d ∈ sidesP c → P d = true → Reach P src d
theorem Reach.ok {P : Kc → Bool} {src : List Kc} {c : Kc} (h : Reach P src c) : P c = true := by cases h <;> assumption
theorem Reach.mono {P P' : Kc → Bool} {src : List Kc} {c : Kc} (hp : ∀ d, P d = true → P' d = true) (h : Reach P src c) : Reach P' src c := by
  induction h with
  | base h1 h2 => exact .base h1 (hp _ h2)
  | step _ h2 h3 ih => exact .step ih h2 (hp _ h3)
structure Bst (P : Kc → Bool) (src found : List Kc) (i : Nat) : Prop where
  nd : found.Nodup
  sub : ∀ c ∈ found, Reach P src c
  base : ∀ c ∈ src, P c = true → c ∈ found
  clo : ∀ j c, j < i → found[j]? = some c → ∀ d ∈ sidesP c, P d = true → d ∈ found
  le : i ≤ found.length
theorem Bst.start {P : Kc → Bool} {src : List Kc} (h : src.Nodup) : Bst P src (src.filter P) 0 :=
  ⟨h.sublist List.filter_sublist, fun c hc => .base (List.mem_filter.mp hc).1 (List.mem_filter.mp hc).2, fun c hc hp => List.mem_filter.mpr ⟨hc, hp⟩, fun j c hj => by omega, Nat.zero_le _⟩
def newF (P : Kc → Bool) (S found : List Kc) : List Kc := S.filter fun d => P d && !decide (d ∈ found)
theorem newF_mem {P : Kc → Bool} {S found : List Kc} {d : Kc} : d ∈ newF P S found ↔ d ∈ S ∧ P d = true ∧ d ∉ found := by
  unfold newF
  rw [List.mem_filter]
  simp
theorem Bst.next {P : Kc → Bool} {src found S : List Kc} {i : Nat} {c : Kc} (h : Bst P src found i) (hc : found[i]? = some c) (hS : S.Nodup) (hm : ∀ d, d ∈ S ↔ d ∈ sidesP c) : Bst P src (found ++ newF P S found) (i + 1) := by
  have hlt : i < found.length := (List.getElem?_eq_some_iff.mp hc).1
  have hcm : c ∈ found := List.mem_of_getElem? hc
  refine ⟨?_, fun d hd => ?_, fun d hd hp => List.mem_append.mpr (.inl (h.base d hd hp)), fun j e hj he d hd hp => ?_, ?_⟩
  · rw [List.nodup_append]
    refine ⟨h.nd, hS.sublist List.filter_sublist, fun a ha b hb q => ?_⟩
    subst q
    exact (newF_mem.mp hb).2.2 ha
  · rcases List.mem_append.mp hd with hd | hd
    · exact h.sub d hd
    · obtain ⟨h1, h2, _⟩ := newF_mem.mp hd
      exact .step (h.sub c hcm) ((hm d).mp h1) h2
  · by_cases hj2 : j < i
    · rw [List.getElem?_append_left (by omega)] at he
      exact List.mem_append.mpr (.inl (h.clo j e hj2 he d hd hp))
    · have : j = i := by omega
      subst this
      rw [List.getElem?_append_left hlt, hc] at he
      cases he
      by_cases hf : d ∈ found
      · exact List.mem_append.mpr (.inl hf)
      · exact List.mem_append.mpr (.inr (newF_mem.mpr ⟨(hm d).mpr hd, hp, hf⟩))
  · have : 1 ≤ (found ++ newF P S found).length - i := by rw [List.length_append]; omega
    omega
theorem Bst.fin {P : Kc → Bool} {src found : List Kc} {i : Nat} (h : Bst P src found i) (he : found.length ≤ i) {c : Kc} : c ∈ found ↔ Reach P src c := by
  refine ⟨h.sub c, fun hr => ?_⟩
  induction hr with
  | base h1 h2 => exact h.base _ h1 h2
  | @step c d _ h2 h3 ih =>
    obtain ⟨j, hj, rfl⟩ := List.getElem_of_mem ih
    exact h.clo j _ (by omega) (List.getElem?_eq_getElem hj) d h2 h3
theorem Bst.len {P : Kc → Bool} {src found ks : List Kc} {i : Nat} (h : Bst P src found i) (hk : ∀ c, P c = true → c ∈ ks) : found.length ≤ ks.length :=
  h.nd.length_le_of_subset fun c hc => hk c (h.sub c hc).ok
/-- the sorted list of what is come to -/
structure Come (P : Kc → Bool) (src l : List Kc) : Prop where
  nd : l.Nodup
  mem : ∀ c, c ∈ l ↔ Reach P src c
theorem Come.sort {P P' : Kc → Bool} {src src' l l' : List Kc} (h : Come P src l) (h' : Come P' src' l') (hr : ∀ c, Reach P src c ↔ Reach P' src' c) : sortE pr l = sortE pr l' :=
  enc_pr.sort_congr ((List.perm_ext_iff_of_nodup h.nd h'.nd).mpr fun c => by rw [h.mem, h'.mem, hr])
/-! walks, told by steps -/
inductive Walk (P : Kc → Bool) (one : Kc) : Nat → Kc → Prop
  | zero : P one = true → Walk P one 0 one
  | succ {n : Nat} {c d : Kc} : Walk P one n c → d ∈ sidesP c → P d = true → Walk P one (n + 1) d
theorem Walk.ok {P : Kc → Bool} {one c : Kc} {n : Nat} (h : Walk P one n c) : P c = true := by cases h <;> assumption
theorem Walk.reach {P : Kc → Bool} {one c : Kc} {n : Nat} (h : Walk P one n c) : Reach P [one] c := by
  induction h with
  | zero h => exact .base List.mem_cons_self h
  | succ _ h2 h3 ih => exact .step ih h2 h3
theorem Reach.walk {P : Kc → Bool} {one c : Kc} (h : Reach P [one] c) : ∃ n, Walk P one n c := by
  induction h with
  | base h1 h2 =>
    rw [List.mem_singleton] at h1
    subst h1
    exact ⟨0, .zero h2⟩
  | step _ h2 h3 ih =>
    obtain ⟨n, hn⟩ := ih
    exact ⟨n + 1, .succ hn h2 h3⟩
theorem Walk.one {P : Kc → Bool} {one c : Kc} {n : Nat} (h : Walk P one n c) : P one = true := by
  induction h with
  | zero h => exact h
  | succ _ _ _ ih => exact ih
theorem Walk.inv {P : Kc → Bool} {one d : Kc} {n : Nat} (h : Walk P one (n + 1) d) : ∃ c, Walk P one n c ∧ d ∈ sidesP c := by
  cases h with
  | succ h1 h2 _ => exact ⟨_, h1, h2⟩
def Dist (P : Kc → Bool) (one : Kc) (n : Nat) (c : Kc) : Prop := Walk P one n c ∧ ∀ j, j < n → ¬ Walk P one j c
/-- a row of cells that is a walk -/
structure RowW (P : Kc → Bool) (one : Kc) (r : List Kc) (c : Kc) : Prop where
  hd : r.head? = some one
  lst : r.getLast? = some c
  ok : ∀ d ∈ r, P d = true
  st : ∀ i a b, r[i]? = some a → r[i + 1]? = some b → b ∈ sidesP a
theorem RowW.snoc {P : Kc → Bool} {one c d : Kc} {r : List Kc} (h : RowW P one r c) (hd : d ∈ sidesP c) (hp : P d = true) : RowW P one (r ++ [d]) d := by
  have hne : r ≠ [] := fun z => by have := h.hd; rw [z] at this; cases this
  have hl : 0 < r.length := List.length_pos_iff.mpr hne
  refine ⟨?_, by simp, fun x hx => ?_, fun i a b ha hb => ?_⟩
  · rw [List.head?_append, h.hd]; rfl
  · rcases List.mem_append.mp hx with hx | hx
    · exact h.ok x hx
    · rw [List.mem_singleton] at hx; subst hx; exact hp
  · by_cases hi : i + 1 < r.length
    · rw [List.getElem?_append_left (by omega)] at ha
      rw [List.getElem?_append_left hi] at hb
      exact h.st i a b ha hb
    · have hb2 := (List.getElem?_eq_some_iff.mp hb).1
      rw [List.length_append, List.length_singleton] at hb2
      have hi2 : i + 1 = r.length := by omega
      rw [hi2, List.getElem?_append_right (Nat.le_refl _), Nat.sub_self] at hb
      cases hb
      rw [List.getElem?_append_left (by omega)] at ha
      have hl2 := h.lst
      rw [List.getLast?_eq_getElem?, show r.length - 1 = i by omega, ha] at hl2
      cases hl2
      exact hd
/-- the rows of the queue: each a walk; their ends; never falling in length -/
structure Que (P : Kc → Bool) (one : Kc) (rows : List (List Kc × Kc)) (i : Nat) : Prop where
  row : ∀ r ∈ rows, RowW P one r.1 r.2 ∧ Walk P one (r.1.length - 1) r.2 ∧ 1 ≤ r.1.length
  nd : (rows.map (·.2)).Nodup
  h0 : ∃ r, rows[0]? = some r ∧ r.1.length = 1 ∧ r.2 = one
  mono : ∀ (j k : Nat) (a b : List Kc × Kc), j ≤ k → rows[j]? = some a → rows[k]? = some b → a.1.length ≤ b.1.length
  top : ∀ (a b : List Kc × Kc), rows[i]? = some a → b ∈ rows → b.1.length ≤ a.1.length + 1
  lb : ∀ (j : Nat) (a : List Kc × Kc), rows[j]? = some a → a.1.length ≤ j + 1
  clo : ∀ (j : Nat) (a : List Kc × Kc), j < i → rows[j]? = some a → ∀ d ∈ sidesP a.2, P d = true → ∃ b ∈ rows, b.2 = d ∧ b.1.length ≤ a.1.length + 1
  le : i ≤ rows.length
theorem Que.start {P : Kc → Bool} {one : Kc} (h : P one = true) : Que P one [([one], one)] 0 := by
  refine ⟨fun r hr => ?_, by simp, ⟨_, rfl, rfl, rfl⟩, fun j k a b hjk ha hb => ?_, fun a b ha hb => ?_, fun j a ha => ?_, fun j a hj => by omega, Nat.zero_le _⟩
  · rw [List.mem_singleton] at hr
    subst hr
    refine ⟨⟨rfl, rfl, fun d hd => by rw [List.mem_singleton] at hd; subst hd; exact h, fun i a b ha hb => ?_⟩, .zero h, Nat.le_refl _⟩
    simp at hb
  · have h1 := List.mem_of_getElem? ha
    have h2 := List.mem_of_getElem? hb
    rw [List.mem_singleton] at h1 h2
    subst h1 h2
    exact Nat.le_refl _
  · have h1 := List.mem_of_getElem? ha
    rw [List.mem_singleton] at h1 hb
    subst h1 hb
    exact Nat.le_succ _
  · have h1 := List.mem_of_getElem? ha
    rw [List.mem_singleton] at h1
    subst h1
    exact Nat.succ_le_succ (Nat.zero_le _)
def newR (P : Kc → Bool) (S : List Kc) (rows : List (List Kc × Kc)) (r : List Kc) : List (List Kc × Kc) := (newF P S (rows.map (·.2))).map fun d => (r ++ [d], d)
theorem Que.next {P : Kc → Bool} {one : Kc} {rows : List (List Kc × Kc)} {i : Nat} {a : List Kc × Kc} {S : List Kc} (h : Que P one rows i) (ha : rows[i]? = some a) (hS : S.Nodup) (hm : ∀ d, d ∈ S ↔ d ∈ sidesP a.2) : Que P one (rows ++ newR P S rows a.1) (i + 1) := by
  have hlt : i < rows.length := (List.getElem?_eq_some_iff.mp ha).1
  have ham : a ∈ rows := List.mem_of_getElem? ha
  obtain ⟨a1, a2, a3⟩ := h.row a ham
  have hnew : ∀ r ∈ newR P S rows a.1, ∃ d, r = (a.1 ++ [d], d) ∧ d ∈ sidesP a.2 ∧ P d = true ∧ d ∉ rows.map (·.2) := fun r hr => by
    obtain ⟨d, hd, rfl⟩ := List.mem_map.mp hr
    obtain ⟨h1, h2, h3⟩ := newF_mem.mp hd
    exact ⟨d, rfl, (hm d).mp h1, h2, h3⟩
  have hnl : ∀ r ∈ newR P S rows a.1, r.1.length = a.1.length + 1 := fun r hr => by
    obtain ⟨d, rfl, _⟩ := hnew r hr
    simp
  refine ⟨fun r hr => ?_, ?_, ?_, fun j k x y hjk hx hy => ?_, fun x y hx hy => ?_, fun j x hx => ?_, fun j x hj hx d hd hp => ?_, ?_⟩
  · rcases List.mem_append.mp hr with hr | hr
    · exact h.row r hr
    · obtain ⟨d, rfl, hd, hp, _⟩ := hnew r hr
      refine ⟨a1.snoc hd hp, ?_, by simp⟩
      have := Walk.succ a2 hd hp
      rw [show a.1.length - 1 + 1 = a.1.length by omega] at this
      simpa using this
  · rw [List.map_append, List.nodup_append]
    refine ⟨h.nd, ?_, fun x hx y hy q => ?_⟩
    · have : (newR P S rows a.1).map (·.2) = newF P S (rows.map (·.2)) := by
        unfold newR
        rw [List.map_map]
        exact List.map_id _
      rw [this]
      exact hS.sublist List.filter_sublist
    · subst q
      obtain ⟨r, hr, rfl⟩ := List.mem_map.mp hy
      obtain ⟨d, rfl, _, _, h4⟩ := hnew r hr
      exact h4 hx
  · obtain ⟨r, h1, h2, h3⟩ := h.h0
    exact ⟨r, by rw [List.getElem?_append_left (by omega)]; exact h1, h2, h3⟩
  · by_cases hk : k < rows.length
    · rw [List.getElem?_append_left (by omega)] at hx
      rw [List.getElem?_append_left hk] at hy
      exact h.mono j k x y hjk hx hy
    · rw [List.getElem?_append_right (by omega)] at hy
      have hyl := hnl y (List.mem_of_getElem? hy)
      by_cases hj : j < rows.length
      · rw [List.getElem?_append_left hj] at hx
        have := h.top a x ha (List.mem_of_getElem? hx)
        omega
      · rw [List.getElem?_append_right (by omega)] at hx
        have := hnl x (List.mem_of_getElem? hx)
        omega
  · have hxa : a.1.length ≤ x.1.length := by
      by_cases hi : i + 1 < rows.length
      · rw [List.getElem?_append_left hi] at hx
        exact h.mono i (i + 1) a x (Nat.le_succ _) ha hx
      · rw [List.getElem?_append_right (by omega)] at hx
        have := hnl x (List.mem_of_getElem? hx)
        omega
    rcases List.mem_append.mp hy with hy | hy
    · have := h.top a y ha hy
      omega
    · have := hnl y hy
      omega
  · by_cases hj : j < rows.length
    · rw [List.getElem?_append_left hj] at hx
      exact h.lb j x hx
    · rw [List.getElem?_append_right (by omega)] at hx
      have h1 := hnl x (List.mem_of_getElem? hx)
      have h2 := h.lb i a ha
      omega
  · by_cases hj2 : j < i
    · rw [List.getElem?_append_left (by omega)] at hx
      obtain ⟨b, hb, h1, h2⟩ := h.clo j x hj2 hx d hd hp
      exact ⟨b, List.mem_append.mpr (.inl hb), h1, h2⟩
    · have : j = i := by omega
      subst this
      rw [List.getElem?_append_left hlt, ha] at hx
      cases hx
      by_cases hf : d ∈ rows.map (·.2)
      · obtain ⟨b, hb, rfl⟩ := List.mem_map.mp hf
        exact ⟨b, List.mem_append.mpr (.inl hb), rfl, h.top a b ha hb⟩
      · exact ⟨(a.1 ++ [d], d), List.mem_append.mpr (.inr (List.mem_map.mpr ⟨d, newF_mem.mpr ⟨(hm d).mpr hd, hp, hf⟩, rfl⟩)), rfl, by simp⟩
  · rw [List.length_append]
    omega
/-- all walks shorter than the row in hand have been gone through -/
theorem Que.short {P : Kc → Bool} {one : Kc} {rows : List (List Kc × Kc)} {i m : Nat} (h : Que P one rows i) (hm : ∀ a, rows[i]? = some a → m + 1 ≤ a.1.length) {n : Nat} {c : Kc} (hw : Walk P one n c) (hn : n < m) (hN : ∀ r ∈ rows, r.1.length ≤ m → ∃ j, j < i ∧ rows[j]? = some r) : ∃ j b, j < i ∧ rows[j]? = some b ∧ b.2 = c ∧ b.1.length ≤ n + 1 := by
  induction hw with
  | zero h1 =>
    obtain ⟨r, e1, e2, e3⟩ := h.h0
    obtain ⟨j, hj, e4⟩ := hN r (List.mem_of_getElem? e1) (by omega)
    exact ⟨j, r, hj, e4, e3, by omega⟩
  | @succ n c d h1 h2 h3 ih =>
    obtain ⟨j, b, hj, e1, rfl, e3⟩ := ih (by omega)
    obtain ⟨b', hb, e4, e5⟩ := h.clo j b hj e1 d h2 h3
    obtain ⟨j', hj', e6⟩ := hN b' hb (by omega)
    exact ⟨j', b', hj', e6, e4, by omega⟩
/-- the row in hand that comes to a cell none ahead came to is a shortest one -/
theorem Que.dist {P : Kc → Bool} {one other : Kc} {rows : List (List Kc × Kc)} {i : Nat} {a : List Kc × Kc} (h : Que P one rows i) (ha : rows[i]? = some a) (h1 : a.2 = other) (h2 : ∀ j b, j < i → rows[j]? = some b → b.2 ≠ other) : Dist P one (a.1.length - 1) other := by
  obtain ⟨_, a2, a3⟩ := h.row a (List.mem_of_getElem? ha)
  subst h1
  refine ⟨a2, fun j hj hw => ?_⟩
  have hN : ∀ r ∈ rows, r.1.length ≤ a.1.length - 1 → ∃ j, j < i ∧ rows[j]? = some r := fun r hr hl => by
    obtain ⟨k, hk, e⟩ := List.getElem_of_mem hr
    have e2 : rows[k]? = some r := by rw [List.getElem?_eq_getElem hk, e]
    refine ⟨k, ?_, e2⟩
    apply Classical.byContradiction
    intro hki
    have := h.mono i k a r (by omega) ha e2
    omega
  obtain ⟨k, b, hk, e1, e2, _⟩ := h.short (m := a.1.length - 1) (fun a' ha' => by rw [ha] at ha'; cases ha'; omega) hw hj hN
  exact h2 k b hk e1 e2
/-- the queue is not gone through before a cell that can be come to -/
theorem Que.more {P : Kc → Bool} {one other : Kc} {rows : List (List Kc × Kc)} {i : Nat} (h : Que P one rows i) (hr : Reach P [one] other) (h2 : ∀ j b, j < i → rows[j]? = some b → b.2 ≠ other) : i < rows.length := by
  apply Classical.byContradiction
  intro hi
  have hall : ∀ c, Reach P [one] c → ∃ b ∈ rows, b.2 = c := fun c hc => by
    induction hc with
    | base h1 _ =>
      rw [List.mem_singleton] at h1
      subst h1
      obtain ⟨r, e1, _, e3⟩ := h.h0
      exact ⟨r, List.mem_of_getElem? e1, e3⟩
    | step _ h2 h3 ih =>
      obtain ⟨b, hb, rfl⟩ := ih
      obtain ⟨j, hj, e⟩ := List.getElem_of_mem hb
      obtain ⟨b', hb', e4, _⟩ := h.clo j b (by omega) (by rw [List.getElem?_eq_getElem hj, e]) _ h2 h3
      exact ⟨b', hb', e4⟩
  obtain ⟨b, hb, e⟩ := hall other hr
  obtain ⟨j, hj, e1⟩ := List.getElem_of_mem hb
  exact h2 j b (by omega) (by rw [List.getElem?_eq_getElem hj, e1]) e
/-! layers -/
structure Lay (P : Kc → Bool) (one : Kc) (layer met : List Kc) (k : Nat) : Prop where
  lay : ∀ c, c ∈ layer ↔ Dist P one k c
  mt : ∀ c, c ∈ met ↔ ∃ j, j ≤ k ∧ Walk P one j c
  nd : layer.Nodup
  mnd : met.Nodup
theorem dist_of {P : Kc → Bool} {one c : Kc} {n : Nat} (h : Walk P one n c) : ∃ j, j ≤ n ∧ Dist P one j c := by
  induction n using Nat.strongRecOn with
  | ind n ih =>
    by_cases hs : ∃ j, j < n ∧ Walk P one j c
    · obtain ⟨j, hj, hw⟩ := hs
      obtain ⟨k, hk, hd⟩ := ih j hj hw
      exact ⟨k, by omega, hd⟩
    · exact ⟨n, Nat.le_refl _, h, fun j hj hw => hs ⟨j, hj, hw⟩⟩
theorem Lay.start {P : Kc → Bool} {one : Kc} (h : P one = true) : Lay P one [one] [one] 0 := by
  refine ⟨fun c => ?_, fun c => ?_, by simp, by simp⟩
  · rw [List.mem_singleton]
    constructor
    · rintro rfl
      exact ⟨.zero h, fun j hj => by omega⟩
    · rintro ⟨h1, _⟩
      cases h1
      rfl
  · rw [List.mem_singleton]
    constructor
    · rintro rfl
      exact ⟨0, Nat.le_refl _, .zero h⟩
    · rintro ⟨j, hj, hw⟩
      have : j = 0 := by omega
      subst this
      cases hw
      rfl
theorem Lay.next {P : Kc → Bool} {one : Kc} {layer met later : List Kc} {k : Nat} (h : Lay P one layer met k) (nd : later.Nodup) (hl : ∀ d, d ∈ later ↔ (∃ c ∈ layer, d ∈ sidesP c) ∧ P d = true ∧ d ∉ met) : Lay P one later (met ++ later) (k + 1) := by
  have key : ∀ d, d ∈ later ↔ Dist P one (k + 1) d := fun d => by
    rw [hl]
    constructor
    · rintro ⟨⟨c, hc, hd⟩, hp, hm⟩
      refine ⟨.succ ((h.lay c).mp hc).1 hd hp, fun j hj hw => hm ((h.mt d).mpr ⟨j, by omega, hw⟩)⟩
    · rintro ⟨hw, hn⟩
      obtain ⟨c, hc, hd⟩ := hw.inv
      refine ⟨⟨c, (h.lay c).mpr ⟨hc, fun j hj hw2 => hn (j + 1) (by omega) (.succ hw2 hd hw.ok)⟩, hd⟩, hw.ok, fun hm => ?_⟩
      obtain ⟨j, hj, hw2⟩ := (h.mt d).mp hm
      exact hn j (by omega) hw2
  refine ⟨key, fun d => ?_, nd, ?_⟩
  rotate_left
  · rw [List.nodup_append]
    refine ⟨h.mnd, nd, fun a ha b hb q => ?_⟩
    subst q
    exact ((hl a).mp hb).2.2 ha
  rw [List.mem_append, h.mt, key]
  constructor
  · rintro (⟨j, hj, hw⟩ | ⟨hw, _⟩)
    · exact ⟨j, by omega, hw⟩
    · exact ⟨k + 1, Nat.le_refl _, hw⟩
  · rintro ⟨j, hj, hw⟩
    by_cases hx : ∃ i, i ≤ k ∧ Walk P one i d
    · exact .inl hx
    · have : j = k + 1 := by
        apply Classical.byContradiction
        intro hne
        exact hx ⟨j, by omega, hw⟩
      subst this
      exact .inr ⟨hw, fun i hi hw2 => hx ⟨i, by omega, hw2⟩⟩
/-- on a shortest way there is a cell in each layer -/
theorem dist_mid {P : Kc → Bool} {one c : Kc} {m : Nat} (h : Dist P one m c) : ∀ k, k ≤ m → ∃ d, Dist P one k d := by
  induction m generalizing c with
  | zero => intro k hk; exact ⟨c, by rw [show k = 0 by omega]; exact h⟩
  | succ m ih =>
    intro k hk
    by_cases hkm : k = m + 1
    · exact ⟨c, hkm ▸ h⟩
    · obtain ⟨d, hd, hs⟩ := h.1.inv
      refine ih (c := d) ⟨hd, fun j hj hw => h.2 (j + 1) (by omega) (.succ hw hs h.1.ok)⟩ k (by omega)
end DL
namespace DL
open PySem PySem.Spec L2
open PyProof.Rows hiding St
/-! the fire: ways with their hours, the least first -/
abbrev Wy := Int × List Kc
abbrev psK (ps : List Kc) : PyData := .tuple (ps.map pr)
theorem enc_pk : Enc 2 psK := enc_pr.tup
abbrev wyD (k : Wy) : PyData := .tuple [.int k.1, psK k.2]
theorem enc_wy : Enc 3 wyD := enc_int.pair enc_pk
theorem ltK_cons {x y : Kc} {s t : List Kc} : ltE psK (x :: s) (y :: t) ↔ (if x = y then ltE psK s t else ltE pr x y) := by
  show dlt (.tuple (pr x :: s.map pr)) (.tuple (pr y :: t.map pr)) = true ↔ _
  rw [dlt_cons (enc_pr.alk x y), enc_pr.eqv]
  by_cases h : x = y
  · simp [h]
  · simp [h]
theorem lt_wy {a b : Wy} : ltE wyD a b ↔ a.1 < b.1 ∨ (a.1 = b.1 ∧ ltE psK a.2 b.2) := by
  show dlt (.tuple [.int a.1, psK a.2]) (.tuple [.int b.1, psK b.2]) = true ↔ _
  rw [dlt_pair rfl (enc_pk.alk a.2 b.2)]
  have e1 := enc_int.eqv a.1 b.1
  have e2 := enc_pk.eqv a.2 b.2
  have l1 : dlt (.int a.1) (.int b.1) = true ↔ a.1 < b.1 := lt_int
  simp only [e1, e2, decide_eq_true_eq]
  by_cases h : a.1 = b.1
  · rw [if_pos h]
    by_cases h2 : a.2 = b.2
    · rw [if_pos h2]
      constructor
      · intro z; cases z
      · rintro (z | ⟨_, z⟩)
        · omega
        · rw [h2] at z; exact absurd z (ltE_irrefl _)
    · rw [if_neg h2]
      constructor
      · exact fun z => .inr ⟨h, z⟩
      · rintro (z | ⟨_, z⟩)
        · omega
        · exact z
  · rw [if_neg h, l1]
    constructor
    · exact .inl
    · rintro (z | ⟨z, _⟩)
      · exact z
      · exact absurd z h
theorem ltK_app : ∀ {s t : List Kc}, ltE psK s t → (∃ r, r ≠ [] ∧ t = s ++ r) ∨ ∀ x y, ltE psK (s ++ x) (t ++ y)
  | [], [], h => absurd h (ltE_irrefl _)
  | [], b :: t, _ => .inl ⟨b :: t, by simp, rfl⟩
  | a :: s, [], h => by
    have : dlt (.tuple (pr a :: s.map pr)) (.tuple []) = true := h
    rw [dlt_cons_nil] at this
    cases this
  | a :: s, b :: t, h => by
    rw [ltK_cons] at h
    by_cases e : a = b
    · rw [if_pos e] at h
      rcases ltK_app h with ⟨r, hr, rfl⟩ | g
      · exact .inl ⟨r, hr, by rw [e]; rfl⟩
      · refine .inr fun x y => ?_
        rw [List.cons_append, List.cons_append, ltK_cons, if_pos e]
        exact g x y
    · rw [if_neg e] at h
      refine .inr fun x y => ?_
      rw [List.cons_append, List.cons_append, ltK_cons, if_neg e]
      exact h
inductive Wk (ks : List Kc) (f : Kc → Int) (B : List Kc) : Int → List Kc → Kc → Prop
  | start {c : Kc} : c ∈ B → c ∈ ks → Wk ks f B 0 [c] c
  | step {h : Int} {w : List Kc} {c d : Kc} : Wk ks f B h w c → d ∈ sidesP c → d ∈ ks → Wk ks f B (h + f c) (w ++ [d]) d
section
variable {ks B : List Kc} {f : Kc → Int}
theorem Wk.mem {h : Int} {w : List Kc} {c : Kc} (k : Wk ks f B h w c) : c ∈ ks := by cases k <;> assumption
theorem Wk.ne {h : Int} {w : List Kc} {c : Kc} (k : Wk ks f B h w c) : w ≠ [] := by cases k <;> simp
theorem Wk.last {h : Int} {w : List Kc} {c : Kc} (k : Wk ks f B h w c) : w.getLast? = some c := by cases k <;> simp
theorem Wk.det {h : Int} {w : List Kc} {c : Kc} (k : Wk ks f B h w c) : ∀ {h' : Int} {c' : Kc}, Wk ks f B h' w c' → h = h' ∧ c = c' := by
  induction k with
  | start _ _ =>
    intro h' c' k'
    generalize hw : [_] = w at k'
    cases k' with
    | start _ _ => cases hw; exact ⟨rfl, rfl⟩
    | @step h w c d k1 _ _ =>
      have h1 := congrArg List.length hw
      simp only [List.length_append, List.length_singleton] at h1
      have h2 := List.length_pos_iff.mpr k1.ne
      omega
  | @step h w c d k1 _ _ ih =>
    intro h' c' k'
    generalize hw : w ++ [d] = w2 at k'
    cases k' with
    | start _ _ =>
      have h1 := congrArg List.length hw
      simp only [List.length_append, List.length_singleton] at h1
      have h2 := List.length_pos_iff.mpr k1.ne
      omega
    | @step h2 w2 c2 d2 k2 _ _ =>
      obtain ⟨e1, e2⟩ := List.append_inj' hw rfl
      subst e1
      cases e2
      obtain ⟨rfl, rfl⟩ := ih k2
      exact ⟨rfl, rfl⟩
theorem Wk.pre (hf : ∀ c ∈ ks, 1 ≤ f c) {h : Int} {w : List Kc} {c : Kc} (k : Wk ks f B h w c) {h2 : Int} {w2 : List Kc} {c2 : Kc} (k2 : Wk ks f B h2 w2 c2) : ∀ {r : List Kc}, r ≠ [] → w2 = w ++ r → h < h2 := by
  induction k2 with
  | start _ _ =>
    intro r hr hw
    have h1 := congrArg List.length hw
    simp only [List.length_append, List.length_singleton] at h1
    have h2 := List.length_pos_iff.mpr k.ne
    have h3 := List.length_pos_iff.mpr hr
    omega
  | @step h2 w2 c2 d k1 _ _ ih =>
    intro r hr hw
    obtain ⟨r', x, rfl⟩ : ∃ r' x, r = r' ++ [x] := ⟨r.dropLast, r.getLast hr, (List.dropLast_concat_getLast hr).symm⟩
    rw [← List.append_assoc] at hw
    obtain ⟨e1, e2⟩ := List.append_inj' hw rfl
    have hpos := hf c2 k1.mem
    by_cases hr' : r' = []
    · subst hr'
      rw [List.append_nil] at e1
      subst e1
      have := (k.det k1).1
      omega
    · have := ih hr' e1
      omega
theorem leE_wy {a b : Wy} : leE wyD a b ↔ a = b ∨ ltE wyD a b := by
  constructor
  · intro h
    by_cases q : ltE wyD a b
    · exact .inr q
    · exact .inl (enc_wy.anti h (leE_def.mpr q))
  · rintro (rfl | h)
    · exact leE_def.mpr (ltE_irrefl _)
    · exact leE_def.mpr fun w => ltE_irrefl _ (ltE_trans w h)
theorem Wk.mono (hf : ∀ c ∈ ks, 1 ≤ f c) {p : Kc} {a b : Wy} (k1 : Wk ks f B a.1 a.2 p) (k2 : Wk ks f B b.1 b.2 p) (h : leE wyD a b) (x : Int) (d : Kc) : leE wyD (a.1 + x, a.2 ++ [d]) (b.1 + x, b.2 ++ [d]) := by
  rcases leE_wy.mp h with rfl | h
  · exact leE_wy.mpr (.inl rfl)
  · refine leE_wy.mpr (.inr (lt_wy.mpr ?_))
    rcases lt_wy.mp h with z | ⟨z1, z2⟩
    · left
      show a.1 + x < b.1 + x
      omega
    · rcases ltK_app z2 with ⟨r, hr, e⟩ | g
      · have := k1.pre hf k2 hr e
        omega
      · right
        exact ⟨by show a.1 + x = b.1 + x; omega, g _ _⟩
/-- the state of the walk: what waits, what is found -/
structure Dj (ks : List Kc) (f : Kc → Int) (B : List Kc) (wait : List Wy) (fnd : List (Kc × Wy)) : Prop where
  fw : ∀ c k, getA fnd c = some k → Wk ks f B k.1 k.2 c
  ww : ∀ k ∈ wait, ∃ c, Wk ks f B k.1 k.2 c
  fl : ∀ c k, getA fnd c = some k → ∀ b : Wy, Wk ks f B b.1 b.2 c → leE wyD k b
  st : ∀ c ∈ B, c ∈ ks → getA fnd c = none → (0, [c]) ∈ wait
  nb : ∀ p k, getA fnd p = some k → ∀ d ∈ sidesP p, d ∈ ks → getA fnd d = none → (k.1 + f p, k.2 ++ [d]) ∈ wait
theorem le_trE {a b c : Wy} (h1 : leE wyD a b) (h2 : leE wyD b c) : leE wyD a c := dle_trans _ _ _ h1 h2
theorem Dj.low (hf : ∀ c ∈ ks, 1 ≤ f c) {wait : List Wy} {fnd : List (Kc × Wy)} (D : Dj ks f B wait fnd) {h : Int} {w : List Kc} {c : Kc} (k : Wk ks f B h w c) : getA fnd c = none → ∃ a ∈ wait, leE wyD a (h, w) := by
  induction k with
  | start h1 h2 => exact fun hn => ⟨_, D.st _ h1 h2 hn, leE_wy.mpr (.inl rfl)⟩
  | @step h w p d k1 h2 h3 ih =>
    intro hn
    cases hp : getA fnd p with
    | none =>
      obtain ⟨a, ha, hle⟩ := ih hp
      refine ⟨a, ha, le_trE hle (leE_wy.mpr (.inr (lt_wy.mpr (.inl ?_))))⟩
      have := hf p k1.mem
      show h < h + f p
      omega
    | some kp =>
      exact ⟨_, D.nb p kp hp d h2 h3 hn, Wk.mono hf (a := kp) (b := (h, w)) (D.fw p kp hp) k1 (D.fl p kp hp (h, w) k1) (f p) d⟩
theorem Dj.begin : Dj ks f B ((B.filter fun c => decide (c ∈ ks)).map fun c => (0, [c])) [] where
  fw := fun c k h => by cases h
  ww := fun k hk => by
    obtain ⟨c, hc, rfl⟩ := List.mem_map.mp hk
    obtain ⟨h1, h2⟩ := List.mem_filter.mp hc
    exact ⟨c, .start h1 (of_decide_eq_true h2)⟩
  fl := fun c k h => by cases h
  st := fun c h1 h2 _ => List.mem_map.mpr ⟨c, List.mem_filter.mpr ⟨h1, decide_eq_true h2⟩, rfl⟩
  nb := fun p k h => by cases h
theorem Dj.old {wait : List Wy} {fnd : List (Kc × Wy)} (D : Dj ks f B wait fnd) {k : Wy} {c : Kc} {WE : List Wy} (hs : ∀ q ∈ WE, q ∈ wait) (hr : ∀ q ∈ wait, q ≠ k → q ∈ WE) (hk : Wk ks f B k.1 k.2 c) (hc : getA fnd c ≠ none) : Dj ks f B WE fnd where
  fw := D.fw
  ww := fun q hq => D.ww q (hs q hq)
  fl := D.fl
  st := fun c' h1 h2 h3 => by
    refine hr _ (D.st c' h1 h2 h3) fun z => ?_
    have := hk.last
    rw [← z] at this
    cases this
    exact hc h3
  nb := fun p kp hp d h1 h2 h3 => by
    refine hr _ (D.nb p kp hp d h1 h2 h3) fun z => ?_
    have := hk.last
    rw [← z, List.getLast?_concat] at this
    cases this
    exact hc h3
def newW (ks : List Kc) (f : Kc → Int) (fnd : List (Kc × Wy)) (k : Wy) (c : Kc) (S : List Kc) : List Wy := (S.filter fun d => decide (d ∈ ks) && (getA fnd d).isNone).map fun d => (k.1 + f c, k.2 ++ [d])
theorem Dj.next (hf : ∀ c ∈ ks, 1 ≤ f c) {wait : List Wy} {fnd : List (Kc × Wy)} (D : Dj ks f B wait fnd) {k : Wy} {c : Kc} {WE : List Wy} (hs : ∀ q ∈ WE, q ∈ wait) (hr : ∀ q ∈ wait, q ≠ k → q ∈ WE) (hk : Wk ks f B k.1 k.2 c) (hm : ∀ b ∈ wait, leE wyD k b) (hc : getA fnd c = none) :
    Dj ks f B (WE ++ newW ks f (putA fnd c k) k c (sidesP c)) (putA fnd c k) where
  fw := fun c' q h => by
    rw [getA_put] at h
    split at h
    · rename_i e
      cases h
      rw [e]
      exact hk
    · exact D.fw c' q h
  ww := fun q hq => by
    rcases List.mem_append.mp hq with hq | hq
    · exact D.ww q (hs q hq)
    · obtain ⟨d, hd, rfl⟩ := List.mem_map.mp hq
      obtain ⟨h1, h2⟩ := List.mem_filter.mp hd
      rw [Bool.and_eq_true] at h2
      exact ⟨d, .step hk h1 (of_decide_eq_true h2.1)⟩
  fl := fun c' q h b hb => by
    rw [getA_put] at h
    split at h
    · rename_i e
      cases h
      subst e
      obtain ⟨a, ha, hle⟩ := D.low hf hb hc
      exact le_trE (hm a ha) hle
    · exact D.fl c' q h b hb
  st := fun c' h1 h2 h3 => by
    rw [getA_put] at h3
    split at h3
    · cases h3
    · rename_i e
      refine List.mem_append.mpr (.inl (hr _ (D.st c' h1 h2 h3) fun z => ?_))
      have := hk.last
      rw [← z] at this
      cases this
      exact e rfl
  nb := fun p kp hp d h1 h2 h3 => by
    have h3' := h3
    rw [getA_put] at h3
    split at h3
    · cases h3
    · rename_i e
      rw [getA_put] at hp
      split at hp
      · rename_i ep
        cases hp
        subst ep
        refine List.mem_append.mpr (.inr (List.mem_map.mpr ⟨d, List.mem_filter.mpr ⟨h1, ?_⟩, rfl⟩))
        rw [Bool.and_eq_true, h3']
        exact ⟨decide_eq_true h2, rfl⟩
      · refine List.mem_append.mpr (.inl (hr _ (D.nb p kp hp d h1 h2 h3) fun z => ?_))
        have := hk.last
        rw [← z, List.getLast?_concat] at this
        cases this
        exact e rfl
/-- what the walk gives -/
structure Fire (ks : List Kc) (f : Kc → Int) (B : List Kc) (fnd : List (Kc × Wy)) : Prop where
  ways : ∀ c k, getA fnd c = some k → Wk ks f B k.1 k.2 c
  least : ∀ c k, getA fnd c = some k → ∀ b : Wy, Wk ks f B b.1 b.2 c → leE wyD k b
  all : ∀ c h w, Wk ks f B h w c → (getA fnd c).isSome = true
  nd : (fnd.map (·.1)).Nodup
  len : ∀ c k, getA fnd c = some k → k.2.length ≤ fnd.length
theorem Dj.fin (hf : ∀ c ∈ ks, 1 ≤ f c) {fnd : List (Kc × Wy)} (D : Dj ks f B [] fnd) (hn : (fnd.map (·.1)).Nodup) (hl : ∀ c k, getA fnd c = some k → k.2.length ≤ fnd.length) : Fire ks f B fnd where
  ways := D.fw
  least := D.fl
  all := fun c h w k => by
    cases hc : getA fnd c with
    | some _ => rfl
    | none =>
      obtain ⟨a, ha, _⟩ := D.low hf k hc
      cases ha
  nd := hn
  len := hl
theorem newW_len {fnd : List (Kc × Wy)} {k : Wy} {c : Kc} {S : List Kc} : (newW ks f fnd k c S).length ≤ S.length := by
  unfold newW
  rw [List.length_map]
  exact List.length_filter_le _ _
end
end DL
namespace DL
open PySem PySem.Spec L2
open PyProof.Rows hiding St
/-! the fire, walked -/
theorem sidesF_ok {c : Kc} : f_sides [pr c] = some (.tuple ((sidesP c).map pr)) := by
  suffices H : W (f_sides [pr c]) fun q => q = .tuple ((sidesP c).map pr) from W_out H
  unfold f_sides b_sides
  rw [w_runP]
  simp [sidesP, pr]
abbrev WD (fnd : List (Kc × Wy)) : PyData := .dict (asD pr wyD fnd)
theorem Dj.len {ks B : List Kc} {f : Kc → Int} {wait : List Wy} {fnd : List (Kc × Wy)} (D : Dj ks f B wait fnd) (hn : (fnd.map (·.1)).Nodup) : fnd.length ≤ ks.length := by
  have : fnd.length = (fnd.map (·.1)).length := by rw [List.length_map]
  rw [this]
  refine hn.length_le_of_subset fun c hc => ?_
  obtain ⟨p, hp, rfl⟩ := List.mem_map.mp hc
  have hg : getA fnd p.1 ≠ none := fun z => by
    unfold getA at z
    rw [Option.map_eq_none_iff, List.find?_eq_none] at z
    exact z p hp (by simp)
  cases h : getA fnd p.1 with
  | none => exact absurd h hg
  | some k => exact (D.fw p.1 k h).mem
theorem ninA_pr {β : Type} {f : β → PyData} {l : List (Kc × β)} {k : Kc} : notInD (pr k) (.dict (asD pr f l)) = some (.bool (!(getA l k).isSome)) := by
  show (if keyOk _ _ = true then some (PyData.bool (!(getK _ _).isSome)) else none) = _
  rw [if_pos keyOk_pr, getA_D enc_pr]
  cases getA l k <;> rfl
theorem putA_newlen {β : Type} {l : List (Kc × β)} {k : Kc} {v : β} (h : getA l k = none) : (putA l k v).length = l.length + 1 := by
  unfold getA at h
  rw [Option.map_eq_none_iff, List.find?_eq_none] at h
  unfold putA
  rw [if_neg, List.length_append, List.length_singleton]
  intro z
  obtain ⟨p, hp, hpk⟩ := List.any_eq_true.mp z
  exact h p hp hpk
theorem Enc.remE {α : Type} [DecidableEq α] {n : Nat} {e : α → PyData} (h : Enc n e) {xs : List α} {x : α} (hx : x ∈ xs) (hz : xs.length ≤ sizeLine) (hn : n ≤ 19 := by decide) : ∃ ys : List α, remD (.list (xs.map e)) (e x) = some (.list (ys.map e)) ∧ (∀ q ∈ ys, q ∈ xs) ∧ (∀ q ∈ xs, q ≠ x → q ∈ ys) ∧ ys.length = xs.length - 1 :=
  ⟨xs.erase x, h.rem hx hz hn, fun q hq => List.mem_of_mem_erase hq, fun q hq ne => (List.mem_erase_of_ne ne).mpr hq, List.length_erase_of_mem hx⟩
structure LenOk (fnd : List (Kc × Wy)) : Prop where
  le : ∀ c k, getA fnd c = some k → k.2.length ≤ fnd.length
theorem spread_ok {ks B : List Kc} {f : Kc → Int} (hl : ks.length ≤ 100) (hB : B.length ≤ 100) (hf : ∀ c ∈ ks, 1 ≤ f c) : ∃ fnd, Fire ks f B fnd ∧ f_spread_from [FD ks f, .tuple (B.map pr)] = some (WD fnd) := by
  suffices H : W (f_spread_from [FD ks f, .tuple (B.map pr)]) fun q => ∃ fnd, Fire ks f B fnd ∧ q = WD fnd by
    obtain ⟨q, e, fnd, h, rfl⟩ := H
    exact ⟨fnd, h, e⟩
  have hz : (sizeLine : Nat) = 16777216 := sizeLine_eq
  unfold f_spread_from b_spread_from
  rw [w_runP]
  have hin := fun c => fd_in (ks := ks) (f := f) (c := c)
  have hix := fun c h => fd_ix (ks := ks) (f := f) (c := c) h
  generalize hG : FD ks f = G at *
  simp
  refine ⟨by omega, ?_⟩
  refine w_compL (F := pr) (fun c => decide (c ∈ ks)) (fun c => wyD (0, [c])) rfl (fun c hc => by simp [hin]) ?_
  have hw0 : ((B.filter fun c => decide (c ∈ ks)).map fun c => wyD (0, [c])) = ((B.filter fun c => decide (c ∈ ks)).map fun c => ((0, [c]) : Wy)).map wyD := by rw [List.map_map]; rfl
  rw [hw0]
  have hD0 := Dj.begin (ks := ks) (f := f) (B := B)
  have hl0 : ((B.filter fun c => decide (c ∈ ks)).map fun c => ((0, [c]) : Wy)).length ≤ 100 := by
    rw [List.length_map]
    exact Nat.le_trans (List.length_filter_le _ _) hB
  have hwl0 : ∀ k ∈ (B.filter fun c => decide (c ∈ ks)).map fun c => ((0, [c]) : Wy), k.2.length ≤ ([] : List (Kc × Wy)).length + 1 := fun k hk => by
    obtain ⟨c, _, rfl⟩ := List.mem_map.mp hk
    exact Nat.le_refl _
  generalize ((B.filter fun c => decide (c ∈ ks)).map fun c => ((0, [c]) : Wy)) = W0 at *
  refine wh_ind (fun n ρ S => S = [] ∧ ∃ (wait : List Wy) (fnd : List (Kc × Wy)), ρ = [some (.p G), some (.p (.tuple (B.map pr))), some (.o (WD fnd)), some (.o (.list (wait.map wyD))), none, none, none, none] ∧ Dj ks f B wait fnd ∧ (fnd.map (·.1)).Nodup ∧ wait.length + 5 * (100 - fnd.length) ≤ n ∧ n ≤ 600 ∧ (∀ k ∈ wait, k.2.length ≤ fnd.length + 1) ∧ LenOk fnd) (fun n ρ S hi => ?_) 600 _ _ ⟨rfl, W0, [], rfl, hD0, List.nodup_nil, by simp; omega, Nat.le_refl _, hwl0, ⟨fun c k h => by cases h⟩⟩
  obtain ⟨rfl, wait, fnd, rfl, hD, nd, hm, hn6, hwl, hlo⟩ := hi
  have hfl := hD.len nd
  have hn0 := enc_wy.nl0 (xs := wait)
  cases wait with
  | nil =>
    have hn0 : neD (.list (([] : List Wy).map wyD)) (.list []) = some (.bool false) := hn0
    rw [List.map_nil] at *
    simp [hn0]
    exact ⟨fnd, hD.fin hf nd hlo.le, rfl⟩
  | cons x xs =>
    obtain ⟨g1, g2⟩ := enc_wy.min_spec x xs
    have hmn := enc_wy.min_l (x := x) (xs := xs)
    generalize minE wyD x xs = k at *
    generalize hwt : x :: xs = wait at *
    have hie : wait.isEmpty = false := by rw [← hwt]; rfl
    rw [hie] at hn0
    obtain ⟨c, hk⟩ := hD.ww k g1
    have hkl := hwl k g1
    obtain ⟨WE, hrem, hsE, hrE, hel⟩ := enc_wy.remE g1 (by omega)
    have hpos := List.length_pos_of_mem g1
    obtain ⟨h, w⟩ := k
    have hlast : w.getLast? = some c := hk.last
    have hwd : wyD (h, w) = .tuple [.int h, psK w] := rfl
    rw [hwd] at hrem
    have hnin := ninA_pr (f := wyD) (l := fnd) (k := c)
    have hck : c ∈ ks := hk.mem
    cases hg : getA fnd c with
    | some kc =>
      rw [hg] at hnin
      have hnin : notInD (pr c) (WD fnd) = some (.bool false) := hnin
      simp [hn0, hmn, hrem, hlast, hnin]
      exact ⟨n - 1, by omega, WE, fnd, ⟨rfl, rfl⟩, hD.old hsE hrE hk (by rw [hg]; simp), nd, by omega, by omega, fun a b hq => hwl (a, b) (hsE _ hq), hlo⟩
    | none =>
      rw [hg] at hnin
      have hnin : notInD (pr c) (WD fnd) = some (.bool true) := hnin
      have hset := setA_prF (f := wyD) (l := fnd) (k := c) (v := ((h, w) : Wy)) (by omega)
      rw [hwd] at hset
      have hsd := sidesF_ok (c := c)
      have hnx := hD.next hf hsE hrE hk g2 hg
      have hnd2 := putA_nodup (k := c) (v := ((h, w) : Wy)) nd
      have hpl : (putA fnd c ((h, w) : Wy)).length = fnd.length + 1 := putA_newlen hg
      have hixc := hix c hck
      have hlo2 : LenOk (putA fnd c ((h, w) : Wy)) := ⟨fun c' k' hk' => by
        rw [getA_put] at hk'
        rw [hpl]
        split at hk'
        · cases hk'
          exact hkl
        · have := hlo.le c' k' hk'
          omega⟩
      have hS4 : (sidesP c).length = 4 := rfl
      have hnwl : (newW ks f (putA fnd c (h, w)) (h, w) c (sidesP c)).length ≤ 4 := newW_len
      have hnin2 := fun d => ninA_pr (f := wyD) (l := putA fnd c ((h, w) : Wy)) (k := d)
      have hfl2 := hnx.len hnd2
      have hwl2 : ∀ q ∈ WE ++ newW ks f (putA fnd c (h, w)) (h, w) c (sidesP c), q.2.length ≤ (putA fnd c ((h, w) : Wy)).length + 1 := fun q hq => by
        rw [hpl]
        rcases List.mem_append.mp hq with hq | hq
        · have := hwl q (hsE q hq)
          omega
        · obtain ⟨d, _, rfl⟩ := List.mem_map.mp hq
          rw [List.length_append, List.length_singleton]
          omega
      generalize putA fnd c ((h, w) : Wy) = F2 at *
      simp [hn0, hmn, hrem, hlast, hnin, hset, hsd, hS4]
      refine ⟨by omega, ?_⟩
      generalize hSd : sidesP c = Sd at *
      refine forL_ix (F := pr) (fun j ρ S => S = [] ∧ j ≤ 4 ∧ ρ = [some (.p G), some (.p (.tuple (B.map pr))), some (.o (WD F2)), some (.o (.list ((WE ++ newW ks f F2 (h, w) c (Sd.take j)).map wyD))), some (.p (.int h)), some (.p (psK w)), none, none]) (fun j hj ρ S hi => ?_) (fun ρ S hi => ?_) ⟨rfl, by omega, by simp [newW]⟩
      · obtain ⟨rfl, hj4, rfl⟩ := hi
        have hstep : newW ks f F2 (h, w) c (Sd.take (j + 1)) = newW ks f F2 (h, w) c (Sd.take j) ++ (if (decide (Sd[j] ∈ ks) && (getA F2 Sd[j]).isNone) = true then [(h + f c, w ++ [Sd[j]])] else []) := by
          unfold newW
          rw [List.take_succ_eq_append_getElem hj, List.filter_append, List.map_append]
          congr 1
          rw [List.filter_cons]
          split <;> rfl
        have hnl : (newW ks f F2 (h, w) c (Sd.take j)).length ≤ 4 := Nat.le_trans newW_len (by rw [List.length_take]; omega)
        rw [hstep]
        generalize newW ks f F2 (h, w) c (Sd.take j) = NW at *
        generalize Sd[j] = d at *
        have hnd := hnin2 d
        have hind := hin d
        by_cases hdk : d ∈ ks
        · simp only [hdk, decide_true, Bool.true_and] at hind ⊢
          cases hgd : getA F2 d with
          | some kd =>
            rw [hgd] at hnd
            have hnd : notInD (pr d) (WD F2) = some (.bool false) := hnd
            simp [hind, hnd]
            omega
          | none =>
            rw [hgd] at hnd
            have hnd : notInD (pr d) (WD F2) = some (.bool true) := hnd
            have hkl : w.length ≤ fnd.length + 1 := hkl
            simp [hind, hnd, hlast, hixc]
            omega
        · simp only [hdk, decide_false, Bool.false_and] at hind ⊢
          simp [hind]
          omega
      · obtain ⟨rfl, hj4, rfl⟩ := hi
        rw [List.take_of_length_le (Nat.le_refl _)]
        generalize newW ks f F2 (h, w) c Sd = NW at *
        simp
        exact ⟨n - 1, by omega, WE ++ NW, F2, ⟨rfl, by rw [List.map_append]⟩, hnx, hnd2, by rw [List.length_append]; omega, by omega, fun a b hq => hwl2 (a, b) hq, hlo2⟩
/-- the hours of what is found -/
def hrK (fnd : List (Kc × Wy)) : List Kc := sortE pr (fnd.map (·.1))
def hrF (fnd : List (Kc × Wy)) (c : Kc) : Int := ((getA fnd c).map (·.1)).getD 0
theorem hrK_nd {ks B : List Kc} {f : Kc → Int} {fnd : List (Kc × Wy)} (h : Fire ks f B fnd) : (hrK fnd).Nodup := sortE_perm.nodup_iff.mpr h.nd
theorem getA_key {β : Type} {l : List (Kc × β)} {c : Kc} (h : c ∈ l.map (·.1)) : ∃ k, getA l c = some k := by
  obtain ⟨p, hp, rfl⟩ := List.mem_map.mp h
  have hg : getA l p.1 ≠ none := fun z => by
    unfold getA at z
    rw [Option.map_eq_none_iff, List.find?_eq_none] at z
    exact z p hp (by simp)
  cases h : getA l p.1 with
  | none => exact absurd h hg
  | some k => exact ⟨k, rfl⟩
theorem Fire.lenk {ks B : List Kc} {f : Kc → Int} {fnd : List (Kc × Wy)} (h : Fire ks f B fnd) : fnd.length ≤ ks.length := by
  have : fnd.length = (fnd.map (·.1)).length := by rw [List.length_map]
  rw [this]
  refine h.nd.length_le_of_subset fun c hc => ?_
  obtain ⟨k, hk⟩ := getA_key hc
  exact (h.ways c k hk).mem
theorem alight_ok {ks B : List Kc} {f : Kc → Int} (hl : ks.length ≤ 100) (hB : B.length ≤ 100) (hf : ∀ c ∈ ks, 1 ≤ f c) : ∃ fnd, Fire ks f B fnd ∧ f_spread_from [FD ks f, .tuple (B.map pr)] = some (WD fnd) ∧ f_alight [FD ks f, .tuple (B.map pr)] = some (FD (hrK fnd) (hrF fnd)) := by
  obtain ⟨fnd, hF, e⟩ := spread_ok hl hB hf
  refine ⟨fnd, hF, e, ?_⟩
  suffices H : W (f_alight [FD ks f, .tuple (B.map pr)]) fun q => q = FD (hrK fnd) (hrF fnd) from W_out H
  have hz : (sizeLine : Nat) = 16777216 := sizeLine_eq
  unfold f_alight b_alight
  rw [w_runP]
  have hfl := hF.lenk
  have hKl : (hrK fnd).length ≤ 100 := by unfold hrK; rw [sortE_len, List.length_map]; omega
  have hso := sortDk_d enc_pr (dd := asD pr wyD fnd) (ks := fnd.map (·.1)) (by unfold asD; rw [List.map_map, List.map_map]; rfl)
  have hK : sortE pr (fnd.map (·.1)) = hrK fnd := rfl
  rw [hK] at hso
  have hix := fun c => ixA_pr (f := wyD) (l := fnd) (k := c)
  have hdt := dict_tab (ks := hrK fnd) (f := hrF fnd) (hrK_nd hF) (by omega)
  have hkey : ∀ c ∈ hrK fnd, ∃ k, getA fnd c = some k := fun c hc => getA_key (sortE_mem.mp hc)
  generalize FD (hrK fnd) (hrF fnd) = Z at *
  have hhr : ∀ c k, getA fnd c = some k → hrF fnd c = k.1 := fun c k h => by unfold hrF; rw [h]; rfl
  generalize hrF fnd = HF at *
  generalize hrK fnd = HK at *
  simp [e, hso]
  refine ⟨by omega, ?_⟩
  refine w_compA (F := pr) (fun c => .tuple [pr c, .int (HF c)]) (fun c hc => ?_) ?_
  · obtain ⟨k, hk⟩ := hkey c hc
    have h1 := hix c
    rw [hk] at h1
    have h1 : ixD (WD fnd) (pr c) = some (.tuple [.int k.1, psK k.2]) := h1
    have h2 := hhr c k hk
    simp [h1, h2]
  · simp [hdt]
end DL
namespace DL
open PySem PySem.Spec L2
open PyProof.Rows hiding St
/-! the law's hours: made less, turn by turn -/
abbrev Hs := List (Kc × Int)
def val (l : Hs) (c : Kc) : Int := (getA l c).getD 0
def relB (l : Hs) (d : Kc) (v : Int) : Bool := match getA l d with | none => true | some u => decide (v < u)
def rel (l : Hs) (d : Kc) (v : Int) : Hs := if relB l d v = true then putA l d v else l
def Les (l l' : Hs) : Prop := ∀ c u, getA l c = some u → ∃ u', u' ≤ u ∧ getA l' c = some u'
theorem Les.refl {l : Hs} : Les l l := fun c u h => ⟨u, Int.le_refl _, h⟩
theorem Les.trans {a b c : Hs} (h1 : Les a b) (h2 : Les b c) : Les a c := fun x u h => by
  obtain ⟨u1, g1, g2⟩ := h1 x u h
  obtain ⟨u2, g3, g4⟩ := h2 x u1 g2
  exact ⟨u2, Int.le_trans g3 g1, g4⟩
theorem rel_les {l : Hs} {d : Kc} {v : Int} : Les l (rel l d v) := fun c u h => by
  unfold rel
  split
  · rename_i hb
    by_cases e : c = d
    · subst e
      unfold relB at hb
      rw [h] at hb
      have hb := of_decide_eq_true hb
      exact ⟨v, by omega, by rw [getA_put, if_pos rfl]⟩
    · exact ⟨u, Int.le_refl _, by rw [getA_put, if_neg e]; exact h⟩
  · exact ⟨u, Int.le_refl _, h⟩
theorem rel_at {l : Hs} {d : Kc} {v : Int} : ∃ u, u ≤ v ∧ getA (rel l d v) d = some u := by
  unfold rel
  split
  · exact ⟨v, Int.le_refl _, by rw [getA_put, if_pos rfl]⟩
  · rename_i hb
    unfold relB at hb
    cases hg : getA l d with
    | none => rw [hg] at hb; exact absurd rfl hb
    | some u =>
      rw [hg] at hb
      have hb : ¬ v < u := fun z => hb (decide_eq_true z)
      exact ⟨u, by omega, rfl⟩
theorem rel_ne {l : Hs} {d c : Kc} {v : Int} (h : c ≠ d) : getA (rel l d v) c = getA l c := by
  unfold rel
  split
  · rw [getA_put, if_neg h]
  · rfl
def relS (ks : List Kc) (S : List Kc) (v : Int) (l : Hs) : Hs := S.foldl (fun l d => if d ∈ ks then rel l d v else l) l
section
variable {ks B : List Kc} {f : Kc → Int}
structure Snd (ks : List Kc) (f : Kc → Int) (B : List Kc) (l : Hs) : Prop where
  ok : ∀ c v, getA l c = some v → ∃ w, Wk ks f B v w c
  nd : (l.map (·.1)).Nodup
theorem Snd.rel {l : Hs} (h : Snd ks f B l) {d : Kc} {v : Int} {w : List Kc} (k : Wk ks f B v w d) : Snd ks f B (rel l d v) := by
  unfold DL.rel
  split
  · refine ⟨fun c u hc => ?_, putA_nodup h.nd⟩
    rw [getA_put] at hc
    split at hc
    · rename_i e
      cases hc
      subst e
      exact ⟨w, k⟩
    · exact h.ok c u hc
  · exact h
theorem relS_ok {c : Kc} {v : Int} {w : List Kc} (hw : ∀ d ∈ sidesP c, d ∈ ks → ∃ w, Wk ks f B v w d) : ∀ {S : List Kc} {l : Hs}, (∀ d ∈ S, d ∈ sidesP c) → Snd ks f B l → Snd ks f B (relS ks S v l) ∧ Les l (relS ks S v l) ∧ (∀ d ∈ S, d ∈ ks → ∃ u, u ≤ v ∧ getA (relS ks S v l) d = some u)
  | [], l, _, h => ⟨h, .refl, fun d hd => by cases hd⟩
  | d :: S, l, hS, h => by
    have e : relS ks (d :: S) v l = relS ks S v (if d ∈ ks then rel l d v else l) := rfl
    rw [e]
    have hS' : ∀ d ∈ S, d ∈ sidesP c := fun x hx => hS x (List.mem_cons_of_mem _ hx)
    by_cases hd : d ∈ ks
    · rw [if_pos hd]
      obtain ⟨w, k⟩ := hw d (hS d List.mem_cons_self) hd
      obtain ⟨g1, g2, g3⟩ := relS_ok (w := w) hw hS' (h.rel k)
      refine ⟨g1, rel_les.trans g2, fun x hx hxk => ?_⟩
      rcases List.mem_cons.mp hx with rfl | hx
      · obtain ⟨u, hu, hg⟩ := rel_at (l := l) (d := x) (v := v)
        obtain ⟨u', hu', hg'⟩ := g2 x u hg
        exact ⟨u', by omega, hg'⟩
      · exact g3 x hx hxk
    · rw [if_neg hd]
      obtain ⟨g1, g2, g3⟩ := relS_ok (w := w) hw hS' h
      refine ⟨g1, g2, fun x hx hxk => ?_⟩
      rcases List.mem_cons.mp hx with rfl | hx
      · exact absurd hxk hd
      · exact g3 x hx hxk
def passL (ks : List Kc) (f : Kc → Int) (sd : Kc → List Kc) : List Kc → Hs → Hs
  | [], l => l
  | c :: L, l => passL ks f sd L (relS ks (sd c) (val l c + f c) l)
theorem passL_ok {sd : Kc → List Kc} (hsd : ∀ c d, d ∈ sd c ↔ d ∈ sidesP c) : ∀ {L : List Kc} {l : Hs}, (∀ c ∈ L, (getA l c).isSome = true) → Snd ks f B l → Snd ks f B (passL ks f sd L l) ∧ Les l (passL ks f sd L l) ∧ (∀ c ∈ L, ∀ d ∈ sidesP c, d ∈ ks → ∃ u, u ≤ val l c + f c ∧ getA (passL ks f sd L l) d = some u)
  | [], l, _, h => ⟨h, .refl, fun c hc => by cases hc⟩
  | c :: L, l, hL, h => by
    have hc := hL c List.mem_cons_self
    obtain ⟨v, hv⟩ := Option.isSome_iff_exists.mp hc
    have hval : val l c = v := by unfold val; rw [hv]; rfl
    obtain ⟨w, hw⟩ := h.ok c v hv
    obtain ⟨g1, g2, g3⟩ := relS_ok (ks := ks) (B := B) (f := f) (c := c) (v := val l c + f c) (w := w) (fun d h1 h2 => ⟨_, by rw [hval]; exact .step hw h1 h2⟩) (S := sd c) (l := l) (fun d hd => (hsd c d).mp hd) h
    have e : passL ks f sd (c :: L) l = passL ks f sd L (relS ks (sd c) (val l c + f c) l) := rfl
    rw [e]
    generalize relS ks (sd c) (val l c + f c) l = l1 at *
    obtain ⟨k1, k2, k3⟩ := passL_ok hsd (L := L) (l := l1) (fun x hx => by
      obtain ⟨u, hu⟩ := Option.isSome_iff_exists.mp (hL x (List.mem_cons_of_mem _ hx))
      obtain ⟨u', _, hu'⟩ := g2 x u hu
      rw [hu']
      rfl) g1
    refine ⟨k1, g2.trans k2, fun x hx d hd hdk => ?_⟩
    rcases List.mem_cons.mp hx with rfl | hx
    · obtain ⟨u, hu, hg⟩ := g3 d ((hsd _ _).mpr hd) hdk
      obtain ⟨u', hu', hg'⟩ := k2 d u hg
      exact ⟨u', by omega, hg'⟩
    · obtain ⟨u, hu, hg⟩ := k3 x hx d hd hdk
      obtain ⟨ux, hux⟩ := Option.isSome_iff_exists.mp (hL x (List.mem_cons_of_mem _ hx))
      obtain ⟨u1, hu1, hg1⟩ := g2 x ux hux
      have e1 : val l x = ux := by unfold val; rw [hux]; rfl
      have e2 : val l1 x = u1 := by unfold val; rw [hg1]; rfl
      exact ⟨u, by omega, hg⟩
/-- after t turns -/
structure Bf (ks : List Kc) (f : Kc → Int) (B : List Kc) (l : Hs) (t : Nat) : Prop where
  snd : Snd ks f B l
  prog : ∀ h w c, Wk ks f B h w c → w.length ≤ t + 1 → ∃ v, v ≤ h ∧ getA l c = some v
theorem Bf.next {sd : Kc → List Kc} (hsd : ∀ c d, d ∈ sd c ↔ d ∈ sidesP c) {l : Hs} {t : Nat} (h : Bf ks f B l t) {L : List Kc} (hL : ∀ c, c ∈ L ↔ (getA l c).isSome = true) : Bf ks f B (passL ks f sd L l) (t + 1) := by
  obtain ⟨g1, g2, g3⟩ := passL_ok hsd (L := L) (l := l) (fun c hc => (hL c).mp hc) h.snd
  refine ⟨g1, fun hh w c k hw => ?_⟩
  have hold : w.length ≤ t + 1 → ∃ v, v ≤ hh ∧ getA (passL ks f sd L l) c = some v := fun hle => by
    obtain ⟨v, hv, hg⟩ := h.prog hh w c k hle
    obtain ⟨u, hu, hg'⟩ := g2 c v hg
    exact ⟨u, by omega, hg'⟩
  cases k with
  | start h1 h2 => exact hold (by simp)
  | @step h0 w0 p _ k1 h1 h2 =>
    rw [List.length_append, List.length_singleton] at hw
    obtain ⟨v, hv, hg⟩ := h.prog h0 w0 p k1 (by omega)
    obtain ⟨u, hu, hg'⟩ := g3 p ((hL p).mpr (by rw [hg]; rfl)) c h1 h2
    have e1 : val l p = v := by unfold val; rw [hg]; rfl
    exact ⟨u, by omega, hg'⟩
theorem Bf.fin {l : Hs} {t : Nat} (h : Bf ks f B l t) {fnd : List (Kc × Wy)} (hF : Fire ks f B fnd) (ht : fnd.length ≤ t + 1) : ∀ c, getA l c = (getA fnd c).map (·.1) := fun c => by
  cases hg : getA fnd c with
  | none =>
    cases hl : getA l c with
    | none => rfl
    | some v =>
      obtain ⟨w, k⟩ := h.snd.ok c v hl
      have := hF.all c v w k
      rw [hg] at this
      cases this
  | some k =>
    obtain ⟨v, hv, hl⟩ := h.prog k.1 k.2 c (hF.ways c k hg) (by have := hF.len c k hg; omega)
    obtain ⟨w, kw⟩ := h.snd.ok c v hl
    have hle := hF.least c k hg (v, w) kw
    rw [hl]
    have : v = k.1 := by
      rcases leE_wy.mp hle with e | e
      · rw [e]
      · rcases lt_wy.mp e with z | ⟨z, _⟩
        · have z : k.1 < v := z
          omega
        · exact z.symm
    rw [this]
    rfl
end
end DL
namespace DL
open PySem PySem.Spec L2
open PyProof.Rows hiding St
/-! copies of dicts of cells; such dicts beside one another -/
def gridC : List Kc := (List.range 6).flatMap fun x : Nat => (List.range 4).map fun y : Nat => (((x : Nat) : Int), ((y : Nat) : Int))
def gridH : List Int := [-8458139203682520985, -1950498447580522560, 7204814214171964562, -4734289103435588629, -5164621852614943976, 8389048192121911274, -3550055125485641917, -1440771752368011620, 4685526799349444076, 6794810172467074373, 1901736143494378007, 8409376899596376432, 2248468952609198383, 8756109708711196808, 3863035679738500442, 5972319052856130739, -6348126469135965181, 159514286966033244, -9131917124991031250, -2624276368889032825, -3054609118068388172, 3453031638033610253, -5838399773923454241, 669240982178544184]
theorem gridC_vals : gridC.map (fun c => hashKI (pr c)) = gridH := by decide +kernel
theorem gridC_hash : (gridC.map fun c => hashKI (pr c)).Nodup := by rw [gridC_vals]; decide +kernel
theorem gridC_mem {c : Kc} (h : 0 ≤ c.1 ∧ c.1 ≤ 5 ∧ 0 ≤ c.2 ∧ c.2 ≤ 3) : c ∈ gridC := by
  refine List.mem_flatMap.mpr ⟨c.1.toNat, List.mem_range.mpr (by omega), List.mem_map.mpr ⟨c.2.toNat, List.mem_range.mpr (by omega), ?_⟩⟩
  refine Prod.ext ?_ ?_
  · show ((c.1.toNat : Nat) : Int) = c.1
    omega
  · show ((c.2.toNat : Nat) : Int) = c.2
    omega
theorem map_inj_on {α β : Type} {h : α → β} : ∀ {l : List α}, (l.map h).Nodup → ∀ a ∈ l, ∀ b ∈ l, h a = h b → a = b
  | [], _, a, ha => by cases ha
  | x :: l, nd, a, ha => fun b hb e => by
    rw [List.map_cons, List.nodup_cons] at nd
    rcases List.mem_cons.mp ha with rfl | ha
    · rcases List.mem_cons.mp hb with rfl | hb
      · rfl
      · exact absurd (show h a ∈ l.map h from List.mem_map.mpr ⟨b, hb, e.symm⟩) nd.1
    · rcases List.mem_cons.mp hb with e2 | hb
      · exact absurd (show h x ∈ l.map h from List.mem_map.mpr ⟨a, ha, by rw [e, e2]⟩) nd.1
      · exact map_inj_on nd.2 a ha b hb e
theorem nodup_map_on {α β : Type} {h : α → β} {l : List α} (nd : l.Nodup) (hi : ∀ a ∈ l, ∀ b ∈ l, h a = h b → a = b) : (l.map h).Nodup := by
  rw [List.Nodup, List.pairwise_map]
  exact nd.imp_of_mem fun {a b} ha hb ne e => ne (hi a ha b hb e)
theorem fd_map {ks : List Kc} {f : Kc → Int} (h : PyData → Int) : ((asD pr PyData.int (tab ks f)).map fun q => h q.1) = ks.map fun c => h (pr c) := by
  unfold asD tab
  rw [List.map_map, List.map_map]
  rfl
theorem copy_fd {ks : List Kc} {f : Kc → Int} (nd : ks.Nodup) (hg : ∀ c ∈ ks, 0 ≤ c.1 ∧ c.1 ≤ 5 ∧ 0 ≤ c.2 ∧ c.2 ≤ 3) : dictC [FD ks f] = some (FD ks f) := by
  refine dictC_d ?_
  unfold copyOk
  rw [Bool.and_eq_true, decide_eq_true_eq]
  constructor
  · unfold asD
    rw [List.all_map, List.all_eq_true]
    exact fun _ _ => rfl
  · rw [fd_map hashKI]
    exact nodup_map_on nd fun a ha b hb q => map_inj_on (h := fun c => hashKI (pr c)) gridC_hash a (gridC_mem (hg a ha)) b (gridC_mem (hg b hb)) q
theorem neY_empty {dd : List (PyData × PyData)} : neY (.dict dd) (.dict []) = some (.bool (!dd.isEmpty)) := by
  show (eqYB dd []).map _ = _
  unfold eqYB
  rw [if_pos (.inr rfl)]
  cases dd <;> rfl
theorem eqYB_fd {ks ks' : List Kc} {f : Kc → Int} (nd : ks.Nodup) (nd' : ks'.Nodup) (h : ∀ c, c ∈ ks ↔ c ∈ ks') : eqYB (asD pr PyData.int (tab ks f)) (asD pr PyData.int (tab ks' f)) = some true := by
  have hl : ks.length = ks'.length := ((List.perm_ext_iff_of_nodup nd nd').mpr h).length_eq
  have hl2 : (asD pr PyData.int (tab ks f)).length == (asD pr PyData.int (tab ks' f)).length := by rw [fd_len, fd_len, hl]; simp
  unfold eqYB
  split
  · rw [hl2]
  · have e1 : ∀ ks : List Kc, ((asD pr PyData.int (tab ks f)).all fun q => isKT q.1) = true ∧ intV (asD pr PyData.int (tab ks f)) = true := fun ks => by
      unfold intV asD
      rw [List.all_map, List.all_map, List.all_eq_true, List.all_eq_true]
      exact ⟨fun _ _ => rfl, fun _ _ => rfl⟩
    rw [(e1 ks).1, (e1 ks).2, (e1 ks').1, (e1 ks').2, Bool.and_true, Bool.and_true, Bool.and_true, if_pos rfl]
    unfold sameY
    rw [hl2, Bool.true_and]
    congr 1
    rw [List.all_eq_true]
    intro p hp
    unfold asD at hp
    obtain ⟨q, hq, rfl⟩ := List.mem_map.mp hp
    unfold tab at hq
    obtain ⟨c, hc, rfl⟩ := List.mem_map.mp hq
    rw [getA_D enc_pr, getA_tab, if_pos ((h c).mp hc)]
    show PyData.eqv (.int (f c)) (.int (f c)) = true
    show (f c == f c) = true
    simp
end DL
namespace DL
open PySem PySem.Spec L2
open PyProof.Rows hiding St
/-! ways on which what may be stood on depends on the step: never more later on -/
inductive Wn (P : Nat → Kc → Bool) (one : Kc) : Nat → Kc → Prop
  | zero : P 0 one = true → Wn P one 0 one
  | succ {n : Nat} {c d : Kc} : Wn P one n c → d ∈ sidesP c → P (n + 1) d = true → Wn P one (n + 1) d
def Anti (P : Nat → Kc → Bool) : Prop := ∀ m n c, m ≤ n → P n c = true → P m c = true
section
variable {P : Nat → Kc → Bool} {one : Kc}
theorem Wn.ok {c : Kc} {n : Nat} (h : Wn P one n c) : P n c = true := by cases h <;> assumption
theorem Wn.beg {c : Kc} {n : Nat} (h : Wn P one n c) : P 0 one = true := by
  induction h with
  | zero h => exact h
  | succ _ _ _ ih => exact ih
theorem Wn.inv {d : Kc} {n : Nat} (h : Wn P one (n + 1) d) : ∃ c, Wn P one n c ∧ d ∈ sidesP c := by
  cases h with
  | succ h1 h2 _ => exact ⟨_, h1, h2⟩
def Dn (P : Nat → Kc → Bool) (one : Kc) (n : Nat) (c : Kc) : Prop := Wn P one n c ∧ ∀ j, j < n → ¬ Wn P one j c
theorem dn_of {c : Kc} {n : Nat} (h : Wn P one n c) : ∃ j, j ≤ n ∧ Dn P one j c := by
  induction n using Nat.strongRecOn with
  | ind n ih =>
    by_cases hs : ∃ j, j < n ∧ Wn P one j c
    · obtain ⟨j, hj, hw⟩ := hs
      obtain ⟨k, hk, hd⟩ := ih j hj hw
      exact ⟨k, by omega, hd⟩
    · exact ⟨n, Nat.le_refl _, h, fun j hj hw => hs ⟨j, hj, hw⟩⟩
theorem dn_uniq {c : Kc} {m n : Nat} (h : Dn P one m c) (h' : Dn P one n c) : m = n := by
  apply Classical.byContradiction
  intro hne
  by_cases hlt : m < n
  · exact h'.2 m hlt h.1
  · exact h.2 n (by omega) h'.1
/-- on a shortest way there is a cell in each layer -/
theorem dn_mid (ha : Anti P) {c : Kc} {m : Nat} (h : Dn P one m c) : ∀ k, k ≤ m → ∃ d, Dn P one k d := by
  induction m generalizing c with
  | zero => intro k hk; exact ⟨c, by rw [show k = 0 by omega]; exact h⟩
  | succ m ih =>
    intro k hk
    by_cases hkm : k = m + 1
    · exact ⟨c, hkm ▸ h⟩
    · obtain ⟨d, hd, hs⟩ := h.1.inv
      refine ih (c := d) ⟨hd, fun j hj hw => h.2 (j + 1) (by omega) (.succ hw hs (ha _ _ _ (by omega) h.1.ok))⟩ k (by omega)
/-! layers -/
structure LayN (P : Nat → Kc → Bool) (one : Kc) (layer met : List Kc) (k : Nat) : Prop where
  lay : ∀ c, c ∈ layer ↔ Dn P one k c
  mt : ∀ c, c ∈ met ↔ ∃ j, j < k ∧ Wn P one j c
  nd : (met ++ layer).Nodup
theorem LayN.start : LayN P one (if P 0 one = true then [one] else []) [] 0 := by
  refine ⟨fun c => ?_, fun c => ?_, ?_⟩
  · constructor
    · intro h
      split at h
      · rename_i hp
        rw [List.mem_singleton] at h
        subst h
        exact ⟨.zero hp, fun j hj => by omega⟩
      · cases h
    · rintro ⟨h, _⟩
      cases h
      rename_i hp _
      rw [if_pos hp]
      exact List.mem_cons_self
  · constructor
    · intro h; cases h
    · rintro ⟨j, hj, _⟩; omega
  · split <;> simp
theorem LayN.mt2 {layer met : List Kc} {k : Nat} (h : LayN P one layer met k) {c : Kc} : c ∈ met ++ layer ↔ ∃ j, j ≤ k ∧ Wn P one j c := by
  rw [List.mem_append, h.mt, h.lay]
  constructor
  · rintro (⟨j, hj, hw⟩ | ⟨hw, _⟩)
    · exact ⟨j, by omega, hw⟩
    · exact ⟨k, Nat.le_refl _, hw⟩
  · rintro ⟨j, hj, hw⟩
    by_cases hx : ∃ i, i < k ∧ Wn P one i c
    · exact .inl hx
    · have : j = k := by
        apply Classical.byContradiction
        intro hne
        exact hx ⟨j, by omega, hw⟩
      subst this
      exact .inr ⟨hw, fun i hi hw2 => hx ⟨i, hi, hw2⟩⟩
theorem LayN.next (ha : Anti P) {layer met later : List Kc} {k : Nat} (h : LayN P one layer met k) (nd : later.Nodup) (hl : ∀ d, d ∈ later ↔ (∃ c ∈ layer, d ∈ sidesP c) ∧ P (k + 1) d = true ∧ d ∉ met ++ layer) : LayN P one later (met ++ layer) (k + 1) := by
  have key : ∀ d, d ∈ later ↔ Dn P one (k + 1) d := fun d => by
    rw [hl]
    constructor
    · rintro ⟨⟨c, hc, hd⟩, hp, hm⟩
      exact ⟨.succ ((h.lay c).mp hc).1 hd hp, fun j hj hw => hm (h.mt2.mpr ⟨j, by omega, hw⟩)⟩
    · rintro ⟨hw, hn⟩
      obtain ⟨c, hc, hd⟩ := hw.inv
      refine ⟨⟨c, (h.lay c).mpr ⟨hc, fun j hj hw2 => hn (j + 1) (by omega) (.succ hw2 hd (ha _ _ _ (by omega) hw.ok))⟩, hd⟩, hw.ok, fun hm => ?_⟩
      obtain ⟨j, hj, hw2⟩ := h.mt2.mp hm
      exact hn j (by omega) hw2
  refine ⟨key, fun d => ?_, ?_⟩
  · rw [h.mt2]
    exact ⟨fun ⟨j, hj, w⟩ => ⟨j, by omega, w⟩, fun ⟨j, hj, w⟩ => ⟨j, by omega, w⟩⟩
  · rw [List.nodup_append]
    refine ⟨h.nd, nd, fun a ha b hb q => ?_⟩
    subst q
    exact ((hl a).mp hb).2.2 ha
/-- no more layers: all has been met -/
theorem LayN.fin (ha : Anti P) {met : List Kc} {k : Nat} (h : LayN P one [] met k) {c : Kc} : c ∈ met ↔ ∃ j, Wn P one j c := by
  rw [h.mt]
  refine ⟨fun ⟨j, _, w⟩ => ⟨j, w⟩, fun ⟨n, w⟩ => ?_⟩
  obtain ⟨j, _, hd⟩ := dn_of w
  by_cases hj : j < k
  · exact ⟨j, hj, hd.1⟩
  · obtain ⟨d, hd2⟩ := dn_mid ha hd k (by omega)
    have := (h.lay d).mpr hd2
    cases this
/-! rows -/
structure RowN (P : Nat → Kc → Bool) (one : Kc) (r : List Kc) (c : Kc) : Prop where
  hd : r.head? = some one
  lst : r.getLast? = some c
  ok : ∀ (i : Nat) d, r[i]? = some d → P i d = true
  st : ∀ (i : Nat) a b, r[i]? = some a → r[i + 1]? = some b → b ∈ sidesP a
theorem RowN.snoc {c d : Kc} {r : List Kc} (h : RowN P one r c) (hd : d ∈ sidesP c) (hp : P r.length d = true) : RowN P one (r ++ [d]) d := by
  have hne : r ≠ [] := fun z => by have := h.hd; rw [z] at this; cases this
  have hl : 0 < r.length := List.length_pos_iff.mpr hne
  refine ⟨?_, by simp, fun i x hx => ?_, fun i a b ha hb => ?_⟩
  · rw [List.head?_append, h.hd]; rfl
  · by_cases hi : i < r.length
    · rw [List.getElem?_append_left hi] at hx
      exact h.ok i x hx
    · have hb2 := (List.getElem?_eq_some_iff.mp hx).1
      rw [List.length_append, List.length_singleton] at hb2
      have : i = r.length := by omega
      subst this
      rw [List.getElem?_append_right (Nat.le_refl _), Nat.sub_self] at hx
      cases hx
      exact hp
  · by_cases hi : i + 1 < r.length
    · rw [List.getElem?_append_left (by omega)] at ha
      rw [List.getElem?_append_left hi] at hb
      exact h.st i a b ha hb
    · have hb2 := (List.getElem?_eq_some_iff.mp hb).1
      rw [List.length_append, List.length_singleton] at hb2
      have hi2 : i + 1 = r.length := by omega
      rw [hi2, List.getElem?_append_right (Nat.le_refl _), Nat.sub_self] at hb
      cases hb
      rw [List.getElem?_append_left (by omega)] at ha
      have hl2 := h.lst
      rw [List.getLast?_eq_getElem?, show r.length - 1 = i by omega, ha] at hl2
      cases hl2
      exact hd
abbrev Rw := List Kc × Kc
structure QueN (P : Nat → Kc → Bool) (one : Kc) (rows : List Rw) (i : Nat) : Prop where
  row : ∀ r ∈ rows, RowN P one r.1 r.2 ∧ Wn P one (r.1.length - 1) r.2 ∧ 1 ≤ r.1.length
  nd : (rows.map (·.2)).Nodup
  h0 : P 0 one = true → ∃ r ∈ rows, r.1.length = 1 ∧ r.2 = one
  mono : ∀ (j k : Nat) (a b : Rw), j ≤ k → rows[j]? = some a → rows[k]? = some b → a.1.length ≤ b.1.length
  top : ∀ (a b : Rw), rows[i]? = some a → b ∈ rows → b.1.length ≤ a.1.length + 1
  lb : ∀ (j : Nat) (a : Rw), rows[j]? = some a → a.1.length ≤ j + 1
  clo : ∀ (j : Nat) (a : Rw), j < i → rows[j]? = some a → ∀ d ∈ sidesP a.2, P a.1.length d = true → ∃ b ∈ rows, b.2 = d ∧ b.1.length ≤ a.1.length + 1
  le : i ≤ rows.length
theorem QueN.start : QueN P one (if P 0 one = true then [([one], one)] else []) 0 := by
  by_cases h : P 0 one = true
  · rw [if_pos h]
    refine ⟨fun r hr => ?_, by simp, fun _ => ⟨_, List.mem_cons_self, rfl, rfl⟩, fun j k a b hjk ha hb => ?_, fun a b ha hb => ?_, fun j a ha => ?_, fun j a hj => by omega, Nat.zero_le _⟩
    · rw [List.mem_singleton] at hr
      subst hr
      refine ⟨⟨rfl, rfl, fun i d hd => ?_, fun i a b ha hb => ?_⟩, .zero h, Nat.le_refl _⟩
      · cases i with
        | zero => cases hd; exact h
        | succ i => simp at hd
      · simp at hb
    · have h1 := List.mem_of_getElem? ha
      have h2 := List.mem_of_getElem? hb
      rw [List.mem_singleton] at h1 h2
      subst h1 h2
      exact Nat.le_refl _
    · have h1 := List.mem_of_getElem? ha
      rw [List.mem_singleton] at h1 hb
      subst h1 hb
      exact Nat.le_succ _
    · have h1 := List.mem_of_getElem? ha
      rw [List.mem_singleton] at h1
      subst h1
      exact Nat.succ_le_succ (Nat.zero_le _)
  · rw [if_neg h]
    exact ⟨fun r hr => (by cases hr), List.nodup_nil, fun z => absurd z h, fun j k a b _ ha => (by simp at ha), fun a b ha => (by simp at ha), fun j a ha => (by simp at ha), fun j a hj => (by omega), Nat.zero_le _⟩
def newN (P : Kc → Bool) (S : List Kc) (rows : List Rw) (r : List Kc) : List Rw := (newF P S (rows.map (·.2))).map fun d => (r ++ [d], d)
theorem QueN.next {rows : List Rw} {i : Nat} {a : Rw} {S : List Kc} (h : QueN P one rows i) (ha : rows[i]? = some a) (hS : S.Nodup) (hm : ∀ d, d ∈ S ↔ d ∈ sidesP a.2) : QueN P one (rows ++ newN (P a.1.length) S rows a.1) (i + 1) := by
  have hlt : i < rows.length := (List.getElem?_eq_some_iff.mp ha).1
  have ham : a ∈ rows := List.mem_of_getElem? ha
  obtain ⟨a1, a2, a3⟩ := h.row a ham
  have hnew : ∀ r ∈ newN (P a.1.length) S rows a.1, ∃ d, r = (a.1 ++ [d], d) ∧ d ∈ sidesP a.2 ∧ P a.1.length d = true ∧ d ∉ rows.map (·.2) := fun r hr => by
    obtain ⟨d, hd, rfl⟩ := List.mem_map.mp hr
    obtain ⟨h1, h2, h3⟩ := newF_mem.mp hd
    exact ⟨d, rfl, (hm d).mp h1, h2, h3⟩
  have hnl : ∀ r ∈ newN (P a.1.length) S rows a.1, r.1.length = a.1.length + 1 := fun r hr => by
    obtain ⟨d, rfl, _⟩ := hnew r hr
    simp
  refine ⟨fun r hr => ?_, ?_, fun hp => ?_, fun j k x y hjk hx hy => ?_, fun x y hx hy => ?_, fun j x hx => ?_, fun j x hj hx d hd hp => ?_, ?_⟩
  · rcases List.mem_append.mp hr with hr | hr
    · exact h.row r hr
    · obtain ⟨d, rfl, hd, hp, _⟩ := hnew r hr
      refine ⟨a1.snoc hd hp, ?_, by simp⟩
      have := Wn.succ a2 hd (by rw [show a.1.length - 1 + 1 = a.1.length by omega]; exact hp)
      rw [show a.1.length - 1 + 1 = a.1.length by omega] at this
      simpa using this
  · rw [List.map_append, List.nodup_append]
    refine ⟨h.nd, ?_, fun x hx y hy q => ?_⟩
    · have : (newN (P a.1.length) S rows a.1).map (·.2) = newF (P a.1.length) S (rows.map (·.2)) := by
        unfold newN
        rw [List.map_map]
        exact List.map_id _
      rw [this]
      exact hS.sublist List.filter_sublist
    · subst q
      obtain ⟨r, hr, rfl⟩ := List.mem_map.mp hy
      obtain ⟨d, rfl, _, _, h4⟩ := hnew r hr
      exact h4 hx
  · obtain ⟨r, h1, h2, h3⟩ := h.h0 hp
    exact ⟨r, List.mem_append.mpr (.inl h1), h2, h3⟩
  · by_cases hk : k < rows.length
    · rw [List.getElem?_append_left (by omega)] at hx
      rw [List.getElem?_append_left hk] at hy
      exact h.mono j k x y hjk hx hy
    · rw [List.getElem?_append_right (by omega)] at hy
      have hyl := hnl y (List.mem_of_getElem? hy)
      by_cases hj : j < rows.length
      · rw [List.getElem?_append_left hj] at hx
        have := h.top a x ha (List.mem_of_getElem? hx)
        omega
      · rw [List.getElem?_append_right (by omega)] at hx
        have := hnl x (List.mem_of_getElem? hx)
        omega
  · have hxa : a.1.length ≤ x.1.length := by
      by_cases hi : i + 1 < rows.length
      · rw [List.getElem?_append_left hi] at hx
        exact h.mono i (i + 1) a x (Nat.le_succ _) ha hx
      · rw [List.getElem?_append_right (by omega)] at hx
        have := hnl x (List.mem_of_getElem? hx)
        omega
    rcases List.mem_append.mp hy with hy | hy
    · have := h.top a y ha hy
      omega
    · have := hnl y hy
      omega
  · by_cases hj : j < rows.length
    · rw [List.getElem?_append_left hj] at hx
      exact h.lb j x hx
    · rw [List.getElem?_append_right (by omega)] at hx
      have h1 := hnl x (List.mem_of_getElem? hx)
      have h2 := h.lb i a ha
      omega
  · by_cases hj2 : j < i
    · rw [List.getElem?_append_left (by omega)] at hx
      obtain ⟨b, hb, h1, h2⟩ := h.clo j x hj2 hx d hd hp
      exact ⟨b, List.mem_append.mpr (.inl hb), h1, h2⟩
    · have : j = i := by omega
      subst this
      rw [List.getElem?_append_left hlt, ha] at hx
      cases hx
      by_cases hf : d ∈ rows.map (·.2)
      · obtain ⟨b, hb, rfl⟩ := List.mem_map.mp hf
        exact ⟨b, List.mem_append.mpr (.inl hb), rfl, h.top a b ha hb⟩
      · exact ⟨(a.1 ++ [d], d), List.mem_append.mpr (.inr (List.mem_map.mpr ⟨d, newF_mem.mpr ⟨(hm d).mpr hd, hp, hf⟩, rfl⟩)), rfl, by simp⟩
  · rw [List.length_append]
    omega
/-- all ways shorter than the row in hand have been gone through -/
theorem QueN.short (ha : Anti P) {rows : List Rw} {i m : Nat} (h : QueN P one rows i) {n : Nat} {c : Kc} (hw : Wn P one n c) (hn : n < m) (hN : ∀ r ∈ rows, r.1.length ≤ m → ∃ j, j < i ∧ rows[j]? = some r) : ∃ j b, j < i ∧ rows[j]? = some b ∧ b.2 = c ∧ b.1.length ≤ n + 1 := by
  induction hw with
  | zero h1 =>
    obtain ⟨r, e1, e2, e3⟩ := h.h0 h1
    obtain ⟨j, hj, e4⟩ := hN r e1 (by omega)
    exact ⟨j, r, hj, e4, e3, by omega⟩
  | @succ n c d h1 h2 h3 ih =>
    obtain ⟨j, b, hj, e1, rfl, e3⟩ := ih (by omega)
    obtain ⟨b', hb, e4, e5⟩ := h.clo j b hj e1 d h2 (ha _ _ _ e3 h3)
    obtain ⟨j', hj', e6⟩ := hN b' hb (by omega)
    exact ⟨j', b', hj', e6, e4, by omega⟩
/-- the row in hand is the first that ends where p holds: there is no shorter way to such a cell -/
theorem QueN.least (ha : Anti P) {rows : List Rw} {i : Nat} {a : Rw} {p : Kc → Prop} (h : QueN P one rows i) (hr : rows[i]? = some a) (h2 : ∀ j b, j < i → rows[j]? = some b → ¬ p b.2) : ∀ n c, p c → Wn P one n c → a.1.length - 1 ≤ n := fun n c hp hw => by
  obtain ⟨_, a2, a3⟩ := h.row a (List.mem_of_getElem? hr)
  apply Classical.byContradiction
  intro hlt
  have hN : ∀ r ∈ rows, r.1.length ≤ a.1.length - 1 → ∃ j, j < i ∧ rows[j]? = some r := fun r hr2 hl => by
    obtain ⟨k, hk, e⟩ := List.getElem_of_mem hr2
    have e2 : rows[k]? = some r := by rw [List.getElem?_eq_getElem hk, e]
    refine ⟨k, ?_, e2⟩
    apply Classical.byContradiction
    intro hki
    have := h.mono i k a r (by omega) hr e2
    omega
  obtain ⟨k, b, hk, e1, e2, _⟩ := h.short ha (m := a.1.length - 1) hw (by omega) hN
  exact h2 k b hk e1 (e2 ▸ hp)
/-- the queue gone through: all that can be come to -/
theorem QueN.fin (ha : Anti P) {rows : List Rw} {i : Nat} (h : QueN P one rows i) (hi : rows.length ≤ i) {c : Kc} : c ∈ rows.map (·.2) ↔ ∃ n, Wn P one n c := by
  constructor
  · intro hc
    obtain ⟨r, hr, rfl⟩ := List.mem_map.mp hc
    exact ⟨_, (h.row r hr).2.1⟩
  · rintro ⟨n, hw⟩
    obtain ⟨j, b, hj, e1, e2, _⟩ := h.short ha (m := n + 1) hw (Nat.lt_succ_self _) (fun r hr _ => by
      obtain ⟨k, hk, e⟩ := List.getElem_of_mem hr
      exact ⟨k, by omega, by rw [List.getElem?_eq_getElem hk, e]⟩)
    exact List.mem_map.mpr ⟨b, List.mem_of_getElem? e1, e2⟩
end
end DL
namespace DL
open PySem PySem.Spec L2
open PyProof.Rows hiding St
/-! whether a cell is not yet alight -/
/-- whether a cell with this hour (or none) is not yet alight -/
def tim (o : Option Int) (h : Int) : Bool := match o with | none => true | some v => decide (h < v)
theorem tim_anti {o : Option Int} {g h : Int} (hg : g ≤ h) (ht : tim o h = true) : tim o g = true := by
  cases o with
  | none => rfl
  | some v => simp [tim] at ht ⊢; omega
theorem intime_ok {l : List (Kc × Int)} {c : Kc} {h : Int} : f_is_in_time [.dict (asD pr PyData.int l), pr c, .int h] = some (.bool (tim (getA l c) h)) := by
  suffices H : W (f_is_in_time [.dict (asD pr PyData.int l), pr c, .int h]) fun q => q = .bool (tim (getA l c) h) from W_out H
  unfold f_is_in_time b_is_in_time
  rw [w_runP]
  have h1 := ninA_pr (f := PyData.int) (l := l) (k := c)
  have h2 := ixA_pr (f := PyData.int) (l := l) (k := c)
  cases hg : getA l c with
  | none =>
    rw [hg] at h1
    have h1 : notInD (pr c) (.dict (asD pr PyData.int l)) = some (.bool true) := h1
    generalize PyData.dict (asD pr PyData.int l) = G at *
    simp [h1, tim]
  | some v =>
    rw [hg] at h1 h2
    have h1 : notInD (pr c) (.dict (asD pr PyData.int l)) = some (.bool false) := h1
    have h2 : ixD (.dict (asD pr PyData.int l)) (pr c) = some (.int v) := h2
    generalize PyData.dict (asD pr PyData.int l) = G at *
    simp [h1, h2, tim]
/-- where one may stand behind so many steps -/
def stp (ks : List Kc) (fnd : List (Kc × Wy)) (st : Int) (n : Nat) (c : Kc) : Bool := decide (c ∈ ks) && tim ((getA fnd c).map (·.1)) (st * n)
theorem stp_anti {ks : List Kc} {fnd : List (Kc × Wy)} {st : Int} (h : 0 ≤ st) : Anti (stp ks fnd st) := fun m n c hmn hp => by
  unfold stp at *
  rw [Bool.and_eq_true] at *
  exact ⟨hp.1, tim_anti (Int.mul_le_mul_of_nonneg_left (by omega) h) hp.2⟩
theorem stp_mem {ks : List Kc} {fnd : List (Kc × Wy)} {st : Int} {n : Nat} {c : Kc} (h : stp ks fnd st n c = true) : c ∈ ks := by
  unfold stp at h
  rw [Bool.and_eq_true] at h
  exact of_decide_eq_true h.1
end DL
namespace DL
open PySem PySem.Spec L2
open PyProof.Rows hiding St
/-! how soon one can be where: the program's queue; the law's going and waiting -/
section
variable {P : Nat → Kc → Bool} {s : Kc}
abbrev Qr := Kc × Nat
structure QL (P : Nat → Kc → Bool) (s : Kc) (rows : List Qr) (i : Nat) (fn : List Qr) : Prop where
  wk : ∀ r ∈ rows, Wn P s r.2 r.1
  mono : ∀ (j k : Nat) (a b : Qr), j ≤ k → rows[j]? = some a → rows[k]? = some b → a.2 ≤ b.2
  top : ∀ (a b : Qr), rows[i]? = some a → b ∈ rows → b.2 ≤ a.2 + 1
  fd : ∀ c n, getA fn c = some n → Dn P s n c
  nd : (fn.map (·.1)).Nodup
  b0 : P 0 s = true → getA fn s = some 0 ∨ ∃ j, i ≤ j ∧ rows[j]? = some (s, 0)
  nb : ∀ c n, getA fn c = some n → ∀ d ∈ sidesP c, P (n + 1) d = true → (∃ m, m ≤ n + 1 ∧ getA fn d = some m) ∨ ∃ j, i ≤ j ∧ rows[j]? = some (d, n + 1)
  ln : ∀ r ∈ rows, r.2 ≤ fn.length
  fl : ∀ c n, getA fn c = some n → n ≤ fn.length
  many : rows.length ≤ 1 + 4 * fn.length
theorem QL.start : QL P s (if P 0 s = true then [(s, 0)] else []) 0 [] := by
  by_cases h : P 0 s = true
  · rw [if_pos h]
    refine ⟨fun r hr => ?_, fun j k a b _ ha hb => ?_, fun a b ha hb => ?_, fun c n q => (by cases q), List.nodup_nil, fun _ => .inr ⟨0, Nat.le_refl _, rfl⟩, fun c n q => (by cases q), fun r hr => ?_, fun c n q => (by cases q), by simp⟩
    · rw [List.mem_singleton] at hr
      subst hr
      exact .zero h
    · have h1 := List.mem_of_getElem? ha
      have h2 := List.mem_of_getElem? hb
      rw [List.mem_singleton] at h1 h2
      subst h1 h2
      exact Nat.le_refl _
    · have h1 := List.mem_of_getElem? ha
      rw [List.mem_singleton] at h1 hb
      subst h1 hb
      exact Nat.le_succ _
    · rw [List.mem_singleton] at hr
      subst hr
      exact Nat.le_refl _
  · rw [if_neg h]
    exact ⟨fun r hr => (by cases hr), fun j k a b _ ha => (by simp at ha), fun a b ha => (by simp at ha), fun c n q => (by cases q), List.nodup_nil, fun z => absurd z h, fun c n q => (by cases q), fun r hr => (by cases hr), fun c n q => (by cases q), by simp⟩
/-- a way to a cell: it is found so soon, or a row that waits is as short -/
theorem QL.low (ha : Anti P) {rows fn : List Qr} {i : Nat} (h : QL P s rows i fn) {m : Nat} {c : Kc} (w : Wn P s m c) : (∃ k, k ≤ m ∧ getA fn c = some k) ∨ ∃ j r, i ≤ j ∧ rows[j]? = some r ∧ r.2 ≤ m := by
  induction w with
  | zero hp =>
    rcases h.b0 hp with q | ⟨j, hj, q⟩
    · exact .inl ⟨0, Nat.le_refl _, q⟩
    · exact .inr ⟨j, _, hj, q, Nat.le_refl _⟩
  | @succ m c d w hd hp ih =>
    rcases ih with ⟨k, hk, q⟩ | ⟨j, r, hj, q, hr⟩
    · rcases h.nb c k q d hd (ha _ _ _ (by omega) hp) with ⟨m', hm, q2⟩ | ⟨j, hj, q2⟩
      · exact .inl ⟨m', by omega, q2⟩
      · exact .inr ⟨j, _, hj, q2, by show k + 1 ≤ m + 1; omega⟩
    · exact .inr ⟨j, r, hj, q, by omega⟩
theorem QL.skip {rows fn : List Qr} {i : Nat} (h : QL P s rows i fn) {c : Kc} {n : Nat} (hr : rows[i]? = some (c, n)) {m : Nat} (hc : getA fn c = some m) : QL P s rows (i + 1) fn := by
  have hle : ∀ k, Wn P s k c → m ≤ k := fun k w => Nat.le_of_not_lt fun q => (h.fd c m hc).2 k q w
  refine ⟨h.wk, h.mono, fun a b ha hb => ?_, h.fd, h.nd, fun hp => ?_, fun c' n' q d hd hp => ?_, h.ln, h.fl, h.many⟩
  · have h1 := h.top _ b hr hb
    have h2 := h.mono i (i + 1) _ a (Nat.le_succ _) hr ha
    have h2 : n ≤ a.2 := h2
    have h1 : b.2 ≤ n + 1 := h1
    omega
  · rcases h.b0 hp with q | ⟨j, hj, q⟩
    · exact .inl q
    · by_cases hji : j = i
      · subst hji
        rw [hr] at q
        cases q
        have := hle 0 (.zero hp)
        have : m = 0 := by omega
        subst this
        exact .inl hc
      · exact .inr ⟨j, by omega, q⟩
  · rcases h.nb c' n' q d hd hp with q2 | ⟨j, hj, q2⟩
    · exact .inl q2
    · by_cases hji : j = i
      · subst hji
        rw [hr] at q2
        cases q2
        exact .inl ⟨m, hle _ (h.wk _ (List.mem_of_getElem? hr)), hc⟩
      · exact .inr ⟨j, by omega, q2⟩
def newQ (p : Kc → Bool) (S : List Kc) (fn : List Qr) (n : Nat) : List Qr := (S.filter fun d => p d && !(getA fn d).isSome).map fun d => (d, n + 1)
theorem newQ_len {p : Kc → Bool} {S : List Kc} {fn : List Qr} {n : Nat} : (newQ p S fn n).length ≤ S.length := by
  unfold newQ
  rw [List.length_map]
  exact List.length_filter_le _ _
theorem QL.next (ha : Anti P) {rows fn : List Qr} {i : Nat} (h : QL P s rows i fn) {c : Kc} {n : Nat} (hr : rows[i]? = some (c, n)) (hc : getA fn c = none) (hl : (putA fn c n).length = fn.length + 1) : QL P s (rows ++ newQ (P (n + 1)) (sidesP c) (putA fn c n) n) (i + 1) (putA fn c n) := by
  have hlt := (List.getElem?_eq_some_iff.mp hr).1
  have hw := h.wk _ (List.mem_of_getElem? hr)
  have hw : Wn P s n c := hw
  have hdn : Dn P s n c := ⟨hw, fun k hk w => by
    rcases h.low ha w with ⟨k', _, q⟩ | ⟨j, r, hj, q, hr2⟩
    · rw [hc] at q; cases q
    · have := h.mono i j _ r hj hr q
      have : n ≤ r.2 := this
      omega⟩
  have hnew : ∀ r ∈ newQ (P (n + 1)) (sidesP c) (putA fn c n) n, ∃ d, r = (d, n + 1) ∧ d ∈ sidesP c ∧ P (n + 1) d = true ∧ getA (putA fn c n) d = none := fun r hr => by
    obtain ⟨d, hd, rfl⟩ := List.mem_map.mp hr
    obtain ⟨h1, h2⟩ := List.mem_filter.mp hd
    rw [Bool.and_eq_true] at h2
    refine ⟨d, rfl, h1, h2.1, ?_⟩
    cases q : getA (putA fn c n) d with
    | none => rfl
    | some _ => rw [q] at h2; exact absurd h2.2 (by simp)
  have hfd : ∀ c' k, getA (putA fn c n) c' = some k → Dn P s k c' := fun c' k q => by
    rw [getA_put] at q
    split at q
    · rename_i e
      cases q
      subst e
      exact hdn
    · exact h.fd c' k q
  have hold : ∀ c' k, getA fn c' = some k → getA (putA fn c n) c' = some k := fun c' k q => by
    rw [getA_put, if_neg]
    · exact q
    · intro e
      rw [e, hc] at q
      cases q
  have hself : getA (putA fn c n) c = some n := by rw [getA_put, if_pos rfl]
  have hlow : ∀ b ∈ rows, b.2 ≤ n + 1 := fun b hb => h.top _ b hr hb
  have hap : ∀ (j : Nat) (r : Qr), rows[j]? = some r → (rows ++ newQ (P (n + 1)) (sidesP c) (putA fn c n) n)[j]? = some r := fun j r q => by
    rw [List.getElem?_append_left (List.getElem?_eq_some_iff.mp q).1]
    exact q
  refine ⟨fun r hr2 => ?_, fun j k a b hjk ha2 hb2 => ?_, fun a b ha2 hb2 => ?_, hfd, putA_nodup h.nd, fun hp => ?_, fun c' n' q d hd hp => ?_, fun r hr2 => ?_, fun c' k q => ?_, ?_⟩
  · rcases List.mem_append.mp hr2 with hr2 | hr2
    · exact h.wk r hr2
    · obtain ⟨d, rfl, hd, hp, _⟩ := hnew r hr2
      exact .succ hw hd hp
  · by_cases hk : k < rows.length
    · rw [List.getElem?_append_left (by omega)] at ha2
      rw [List.getElem?_append_left hk] at hb2
      exact h.mono j k a b hjk ha2 hb2
    · rw [List.getElem?_append_right (by omega)] at hb2
      obtain ⟨d, rfl, _⟩ := hnew b (List.mem_of_getElem? hb2)
      by_cases hj : j < rows.length
      · rw [List.getElem?_append_left hj] at ha2
        exact hlow a (List.mem_of_getElem? ha2)
      · rw [List.getElem?_append_right (by omega)] at ha2
        obtain ⟨d', rfl, _⟩ := hnew a (List.mem_of_getElem? ha2)
        exact Nat.le_refl _
  · have h1 : n ≤ a.2 := by
      by_cases hi : i + 1 < rows.length
      · rw [List.getElem?_append_left hi] at ha2
        exact h.mono i (i + 1) _ a (Nat.le_succ _) hr ha2
      · rw [List.getElem?_append_right (by omega)] at ha2
        obtain ⟨d, rfl, _⟩ := hnew a (List.mem_of_getElem? ha2)
        exact Nat.le_succ _
    have h2 : b.2 ≤ n + 1 := by
      rcases List.mem_append.mp hb2 with hb2 | hb2
      · exact hlow b hb2
      · obtain ⟨d, rfl, _⟩ := hnew b hb2
        exact Nat.le_refl _
    omega
  · rcases h.b0 hp with q | ⟨j, hj, q⟩
    · exact .inl (hold _ _ q)
    · by_cases hji : j = i
      · subst hji
        rw [hr] at q
        cases q
        exact .inl hself
      · exact .inr ⟨j, by omega, hap j _ q⟩
  · by_cases e : c' = c
    · subst e
      rw [hself] at q
      cases q
      cases hg : getA (putA fn c' n) d with
      | some m =>
        refine .inl ⟨m, Nat.le_of_not_lt fun z => (hfd d m hg).2 _ z (.succ hw hd hp), rfl⟩
      | none =>
        have hm : (d, n + 1) ∈ newQ (P (n + 1)) (sidesP c') (putA fn c' n) n := List.mem_map.mpr ⟨d, List.mem_filter.mpr ⟨hd, by rw [hp, hg]; rfl⟩, rfl⟩
        obtain ⟨j, hj, e⟩ := List.getElem_of_mem hm
        refine .inr ⟨rows.length + j, by omega, ?_⟩
        rw [List.getElem?_append_right (by omega), show rows.length + j - rows.length = j by omega, List.getElem?_eq_getElem hj, e]
    · rw [getA_put, if_neg e] at q
      rcases h.nb c' n' q d hd hp with ⟨m, hm, q2⟩ | ⟨j, hj, q2⟩
      · exact .inl ⟨m, hm, hold _ _ q2⟩
      · by_cases hji : j = i
        · subst hji
          rw [hr] at q2
          cases q2
          exact .inl ⟨_, Nat.le_refl _, hself⟩
        · exact .inr ⟨j, by omega, hap j _ q2⟩
  · rw [hl]
    rcases List.mem_append.mp hr2 with hr2 | hr2
    · have := h.ln r hr2
      omega
    · obtain ⟨d, rfl, _⟩ := hnew r hr2
      have := h.ln _ (List.mem_of_getElem? hr)
      have : n ≤ fn.length := this
      show n + 1 ≤ _
      omega
  · rw [hl]
    rw [getA_put] at q
    split at q
    · cases q
      have := h.ln _ (List.mem_of_getElem? hr)
      have : n ≤ fn.length := this
      omega
    · have := h.fl c' k q
      omega
  · rw [List.length_append, hl]
    have h1 := h.many
    have h2 : (newQ (P (n + 1)) (sidesP c) (putA fn c n) n).length ≤ 4 := newQ_len
    omega
theorem QL.fin (ha : Anti P) {rows fn : List Qr} {i : Nat} (h : QL P s rows i fn) (hi : rows.length ≤ i) {c : Kc} {n : Nat} : getA fn c = some n ↔ Dn P s n c := by
  refine ⟨h.fd c n, fun hd => ?_⟩
  rcases h.low ha hd.1 with ⟨k, hk, q⟩ | ⟨j, r, hj, q, _⟩
  · have := dn_uniq (h.fd c k q) hd
    rw [q, this]
  · have := (List.getElem?_eq_some_iff.mp q).1
    omega
end
/-! the law: going and waiting -/
inductive Be (ks : List Kc) (hr : Kc → Option Int) (s : Kc) (st : Nat) : Nat → Kc → Prop
  | start : s ∈ ks → tim (hr s) 0 = true → Be ks hr s st 0 s
  | wait {h : Nat} {c : Kc} : Be ks hr s st h c → tim (hr c) ((h + 1 : Nat) : Int) = true → Be ks hr s st (h + 1) c
  | go {h : Nat} {c d : Kc} : Be ks hr s st h c → d ∈ sidesP c → d ∈ ks → tim (hr d) ((h + st : Nat) : Int) = true → Be ks hr s st (h + st) d
section
variable {ks : List Kc} {hr : Kc → Option Int} {s : Kc} {st : Nat} {P : Nat → Kc → Bool}
theorem Be.mem {h : Nat} {c : Kc} (b : Be ks hr s st h c) : c ∈ ks := by
  induction b with
  | start h _ => exact h
  | wait _ _ ih => exact ih
  | go _ _ h _ _ => exact h
theorem Be.tm {h : Nat} {c : Kc} (b : Be ks hr s st h c) : tim (hr c) (h : Int) = true := by
  cases b with
  | start _ h => exact h
  | wait _ h => exact h
  | go _ _ _ h => exact h
theorem be_iff (hP : ∀ n c, P n c = (decide (c ∈ ks) && tim (hr c) ((st : Int) * n))) {h : Nat} {c : Kc} : Be ks hr s st h c ↔ ∃ n, Wn P s n c ∧ st * n ≤ h ∧ tim (hr c) (h : Int) = true := by
  have hP' : ∀ n c, P n c = true ↔ c ∈ ks ∧ tim (hr c) ((st * n : Nat) : Int) = true := fun n c => by
    rw [hP, Bool.and_eq_true, decide_eq_true_eq, Int.natCast_mul]
  constructor
  · intro b
    induction b with
    | start h1 h2 => exact ⟨0, .zero ((hP' 0 _).mpr ⟨h1, h2⟩), Nat.zero_le _, h2⟩
    | wait _ h2 ih =>
      obtain ⟨n, w, hle, _⟩ := ih
      exact ⟨n, w, by omega, h2⟩
    | go _ h2 h3 h4 ih =>
      obtain ⟨n, w, hle, _⟩ := ih
      have hle2 := Nat.add_le_add_right hle st
      rw [← Nat.mul_succ] at hle2
      exact ⟨n + 1, .succ w h2 ((hP' _ _).mpr ⟨h3, tim_anti (Int.ofNat_le.mpr hle2) h4⟩), hle2, h4⟩
  · rintro ⟨n, w, hle, ht⟩
    have h1 : Be ks hr s st (st * n) c := by
      clear hle ht
      induction w with
      | zero hp => exact .start ((hP' 0 _).mp hp).1 ((hP' 0 _).mp hp).2
      | succ w hd hp ih =>
        rw [Nat.mul_succ]
        refine .go ih hd ((hP' _ _).mp hp).1 ?_
        rw [← Nat.mul_succ]
        exact ((hP' _ _).mp hp).2
    have h2 : ∀ k, tim (hr c) ((st * n + k : Nat) : Int) = true → Be ks hr s st (st * n + k) c := fun k => by
      induction k with
      | zero => exact fun _ => h1
      | succ k ih =>
        intro q
        exact .wait (ih (tim_anti (Int.ofNat_le.mpr (by omega)) q)) q
    have := h2 (h - st * n) (by rw [show st * n + (h - st * n) = h by omega]; exact ht)
    rwa [show st * n + (h - st * n) = h by omega] at this
/-- the least hour of a cell, and all hours -/
theorem be_least (hP : ∀ n c, P n c = (decide (c ∈ ks) && tim (hr c) ((st : Int) * n))) {n : Nat} {c : Kc} (hd : Dn P s n c) : Be ks hr s st (st * n) c ∧ ∀ h, Be ks hr s st h c ↔ st * n ≤ h ∧ tim (hr c) (h : Int) = true := by
  have key : ∀ h, Be ks hr s st h c ↔ st * n ≤ h ∧ tim (hr c) (h : Int) = true := fun h => by
    rw [be_iff hP]
    constructor
    · rintro ⟨m, w, hle, ht⟩
      have : n ≤ m := Nat.le_of_not_lt fun z => hd.2 m z w
      exact ⟨Nat.le_trans (Nat.mul_le_mul_left st this) hle, ht⟩
    · rintro ⟨hle, ht⟩
      exact ⟨n, hd.1, hle, ht⟩
  refine ⟨(key _).mpr ⟨Nat.le_refl _, ?_⟩, key⟩
  have := hd.1.ok
  rw [hP, Bool.and_eq_true] at this
  rw [Int.natCast_mul]
  exact this.2
end
end DL
namespace DL
open PySem PySem.Spec L2
open PyProof.Rows hiding St
/-! how soon one can be where, walked -/
abbrev qrD (st : Nat) (r : Qr) : PyData := .tuple [pr r.1, .int ((st * r.2 : Nat) : Int)]
def hrE (st n : Nat) : PyData := .int ((st * n : Nat) : Int)
abbrev RD (st : Nat) (fn : List Qr) : PyData := .dict (asD pr (hrE st) fn)
structure RcOk (P : Nat → Kc → Bool) (s : Kc) (fn : List Qr) : Prop where
  nd : (fn.map (·.1)).Nodup
  is : ∀ c n, getA fn c = some n ↔ Dn P s n c
  le : ∀ c n, getA fn c = some n → n ≤ 16
  len : fn.length ≤ 16
theorem reach_ok {G BT HR : PyData} {ks : List Kc} {hr : Kc → Option Int} {s : Kc} {st : Nat} {P : Nat → Kc → Bool} (hl : ks.length ≤ 16) (h9 : st ≤ 100) (ha : f_alight [G, BT] = some HR)
    (hin : ∀ c, inD (pr c) G = some (.bool (decide (c ∈ ks)))) (hti : ∀ (c : Kc) (h : Int), f_is_in_time [HR, pr c, .int h] = some (.bool (tim (hr c) h))) (hP : ∀ n c, P n c = (decide (c ∈ ks) && tim (hr c) ((st : Int) * n))) (hanti : Anti P) :
    ∃ fn : List Qr, f_reach_hours [G, BT, pr s, .int (st : Int)] = some (RD st fn) ∧ RcOk P s fn := by
  suffices H : W (f_reach_hours [G, BT, pr s, .int (st : Int)]) fun v => ∃ fn : List Qr, v = RD st fn ∧ RcOk P s fn by
    obtain ⟨v, e, fn, rfl, h⟩ := H
    exact ⟨fn, e, h⟩
  have hz : (sizeLine : Nat) = 16777216 := sizeLine_eq
  unfold f_reach_hours b_reach_hours
  rw [w_runP]
  have hmem : ∀ {n : Nat} {c : Kc}, P n c = true → c ∈ ks := fun {n c} h => by
    rw [hP, Bool.and_eq_true] at h
    exact of_decide_eq_true h.1
  have hq0 := QL.start (P := P) (s := s)
  have h00 : P 0 s = (decide (s ∈ ks) && tim (hr s) 0) := by rw [hP]; simp
  have hins := hin s
  have hts := hti s 0
  generalize tim (hr s) 0 = t0 at *
  generalize hks : decide (s ∈ ks) = k0 at *
  obtain ⟨r0, e0, hq0, hr0⟩ : ∃ r0 : List Qr, (if P 0 s = true then [(s, 0)] else []) = r0 ∧ QL P s r0 0 [] ∧ r0.map (qrD st) = if (k0 && t0) = true then [PyData.tuple [pr s, .int 0]] else [] := by
    refine ⟨_, rfl, hq0, ?_⟩
    rw [h00]
    split
    · simp [qrD]
    · rfl
  clear e0
  cases k0
  rotate_left
  cases t0
  rotate_left
  all_goals
    simp [ha, hins, hts]
    try refine ⟨by omega, ?_⟩
    refine wh_ind (fun m ρ S => S = [] ∧ ∃ (rows fn : List Qr) (i : Nat), ρ = [some (.p G), some (.p BT), some (.p (pr s)), some (.p (.int (st : Int))), some (.p HR), some (.o (RD st fn)), some (.o (.list (rows.map (qrD st)))), some (.p (.int i)), none, none, none] ∧ QL P s rows i fn ∧ m = 80 - i) (fun m ρ S hi => ?_) 80 _ _ ⟨rfl, r0, [], 0, (by rw [hr0]; rfl), hq0, rfl⟩
    obtain ⟨rfl, rows, fn, i, rfl, hQ, rfl⟩ := hi
    have hfl : fn.length ≤ 16 := by
      have e : fn.length = (fn.map (·.1)).length := by rw [List.length_map]
      rw [e]
      refine Nat.le_trans (hQ.nd.length_le_of_subset fun c hc => ?_) hl
      obtain ⟨k, hk⟩ := getA_key hc
      exact hmem (hQ.fd c k hk).1.ok
    have hrl := hQ.many
    by_cases hlt : i < rows.length
    rotate_left
    · have hni : ¬ ((i : Int) < (rows.length : Int)) := by omega
      have hrc : RcOk P s fn := ⟨hQ.nd, fun c n => hQ.fin hanti (by omega), fun c n q => Nat.le_trans (hQ.fl c n q) hfl, hfl⟩
      generalize hX : RD st fn = X at *
      simp [hni]
      exact ⟨fn, hX.symm, hrc⟩
    obtain ⟨⟨c, n⟩, hri⟩ : ∃ a, rows[i]? = some a := ⟨_, List.getElem?_eq_getElem hlt⟩
    have hixr : atI (rows.map (qrD st)) (i : Int) = some (.tuple [pr c, .int ((st * n : Nat) : Int)]) := by rw [atI_pos, List.getElem?_map, hri]; rfl
    have hlti : (i : Int) < (rows.length : Int) := by omega
    have hnin := ninA_pr (f := hrE st) (l := fn) (k := c)
    cases hg : getA fn c with
    | some k =>
      rw [hg] at hnin
      have hnin : notInD (pr c) (RD st fn) = some (.bool false) := hnin
      have hsk := hQ.skip hri hg
      generalize hX : RD st fn = X at *
      generalize ((st * n : Nat) : Int) = hh at *
      simp [hixr, hlti, hnin]
      exact ⟨80 - (i + 1), by omega, rows, fn, i + 1, ⟨hX.symm, rfl, by simp⟩, hsk, rfl⟩
    | none =>
      rw [hg] at hnin
      have hnin : notInD (pr c) (RD st fn) = some (.bool true) := hnin
      have hpl : (putA fn c n).length = fn.length + 1 := putA_newlen hg
      have hnx := hQ.next hanti hri hg hpl
      have hset := setA_prF (f := hrE st) (l := fn) (k := c) (v := n) (by omega)
      have hset : setD (RD st fn) (pr c) (.int ((st * n : Nat) : Int)) = some (RD st (putA fn c n)) := hset
      have hsd := sidesF_ok (c := c)
      have hS4 : (sidesP c).length = 4 := rfl
      have hnin2 := fun d => ninA_pr (f := hrE st) (l := putA fn c n) (k := d)
      have hstp : ((st * n : Nat) : Int) + (st : Int) = ((st * (n + 1) : Nat) : Int) := by rw [Nat.mul_succ]; omega
      have hPn := hP (n + 1)
      have hca : (st : Int) * ((n + 1 : Nat) : Int) = ((st * (n + 1) : Nat) : Int) := by rw [Int.natCast_mul]
      simp only [hca] at hPn
      have hqd : ∀ d, qrD st (d, n + 1) = .tuple [pr d, .int ((st * (n + 1) : Nat) : Int)] := fun _ => rfl
      generalize putA fn c n = F2 at *
      generalize hX : RD st fn = X at *
      generalize hX2 : RD st F2 = X2 at *
      generalize ((st * n : Nat) : Int) = hh at *
      generalize ((st * (n + 1) : Nat) : Int) = h2 at *
      simp [hixr, hlti, hnin, hset, hsd, hS4]
      refine ⟨by omega, ?_⟩
      generalize hp : P (n + 1) = p at *
      have hNl : ∀ j, (newQ p ((sidesP c).take j) F2 n).length ≤ 4 := fun j => Nat.le_trans newQ_len (by rw [List.length_take]; omega)
      generalize sidesP c = Sd at *
      refine forL_ix (F := pr) (fun j ρ S => S = [] ∧ j ≤ 4 ∧ ρ = [some (.p G), some (.p BT), some (.p (pr s)), some (.p (.int (st : Int))), some (.p HR), some (.o X2), some (.o (.list ((rows ++ newQ p (Sd.take j) F2 n).map (qrD st)))), some (.p (.int i)), some (.p (pr c)), some (.p (.int hh)), none]) (fun j hj ρ S hi => ?_) (fun ρ S hi => ?_) ⟨rfl, by omega, by simp [newQ]⟩
      · obtain ⟨rfl, hj4, rfl⟩ := hi
        have hstep : newQ p (Sd.take (j + 1)) F2 n = newQ p (Sd.take j) F2 n ++ (if (p Sd[j] && !(getA F2 Sd[j]).isSome) = true then [(Sd[j], n + 1)] else []) := by
          unfold newQ
          rw [List.take_succ_eq_append_getElem hj, List.filter_append, List.map_append]
          congr 1
          rw [List.filter_cons]
          split <;> rfl
        have hnl := hNl j
        have hpd := hPn Sd[j]
        have hnd := hnin2 Sd[j]
        have hind := hin Sd[j]
        have htd := hti Sd[j] h2
        rw [hstep]
        generalize newQ p (Sd.take j) F2 n = NW at *
        generalize Sd[j] = d at *
        generalize p d = pd at *
        generalize tim (hr d) h2 = td at *
        by_cases hdk : d ∈ ks
        · simp only [hdk, decide_true, Bool.true_and] at hind hpd
          subst hpd
          cases hgd : getA F2 d with
          | some kd =>
            rw [hgd] at hnd
            have hnd : notInD (pr d) X2 = some (.bool false) := by rw [← hX2]; exact hnd
            simp [hind, hnd]
            omega
          | none =>
            rw [hgd] at hnd
            have hnd : notInD (pr d) X2 = some (.bool true) := by rw [← hX2]; exact hnd
            cases pd with
            | true =>
              simp [hind, hnd, hstp, htd, hqd]
              omega
            | false =>
              simp [hind, hnd, hstp, htd]
              omega
        · simp only [hdk, decide_false, Bool.false_and] at hind hpd
          subst hpd
          simp [hind]
          omega
      · obtain ⟨rfl, hj4, rfl⟩ := hi
        rw [List.take_of_length_le (Nat.le_refl _)]
        generalize newQ p Sd F2 n = NW at *
        simp
        exact ⟨80 - (i + 1), by omega, rows ++ NW, F2, i + 1, ⟨hX2.symm, by rw [List.map_append], by simp⟩, hnx, rfl⟩
end DL
namespace DL
open PySem PySem.Spec L2
open PyProof.Rows hiding St
/-! the law's going and waiting, walked -/
abbrev natE (k : Nat) : PyData := .int (k : Int)
abbrev psL (L : List Kc) : PyData := .list (L.map pr)
abbrev nsL (l : List Nat) : PyData := .list (l.map natE)
abbrev PD (pl : List (Nat × List Kc)) : PyData := .dict (asD natE psL pl)
abbrev ED (fl : List (Kc × List Nat)) : PyData := .dict (asD pr nsL fl)
def getP {α β : Type} [DecidableEq α] (pl : List (α × List β)) (h : α) : List β := (getA pl h).getD []
theorem getP_put {α β : Type} [DecidableEq α] {pl : List (α × List β)} {h k : α} {L : List β} : getP (putA pl h L) k = if k = h then L else getP pl k := by
  unfold getP
  rw [getA_put]
  split <;> rfl
theorem keyOk_nat {β : Type} {f : β → PyData} {l : List (Nat × β)} {k : Nat} : keyOk (asD natE f l) (natE k) = true := by
  have : ((asD natE f l).all fun p => isKK p.1) = true := by
    unfold asD
    rw [List.all_map, List.all_eq_true]
    exact fun _ _ => rfl
  unfold keyOk
  rw [this]
  rfl
theorem get_pd {pl : List (Nat × List Kc)} {h : Nat} : getDD (PD pl) (.int (h : Int)) (.list []) = some (psL (getP pl h)) := by
  show (if keyOk (asD natE psL pl) (natE h) = true then some ((getK (asD natE psL pl) (natE h)).getD _) else none) = _
  rw [if_pos keyOk_nat, getA_D enc_nat]
  unfold getP
  cases getA pl h <;> rfl
theorem set_pd {pl : List (Nat × List Kc)} {h : Nat} {L : List Kc} (hl : pl.length < sizeLine) : setD (PD pl) (.int (h : Int)) (psL L) = some (PD (putA pl h L)) := by
  show (if _ then _ else _) = _
  rw [if_pos ⟨keyOk_nat, by unfold asD; rw [List.length_map]; exact hl⟩, putA_D (e := natE) (f := psL) enc_nat]
theorem get_ed {fl : List (Kc × List Nat)} {c : Kc} : getDD (ED fl) (pr c) (.list []) = some (nsL (getP fl c)) := by
  show (if keyOk (asD pr nsL fl) (pr c) = true then some ((getK (asD pr nsL fl) (pr c)).getD _) else none) = _
  rw [if_pos keyOk_pr, getA_D enc_pr]
  unfold getP
  cases getA fl c <;> rfl
theorem putA_len' {α β : Type} [DecidableEq α] {l : List (α × β)} {k : α} {v : β} : (putA l k v).length ≤ l.length + 1 := by
  unfold putA
  split
  · rw [List.length_map]; omega
  · rw [List.length_append, List.length_singleton]; omega
structure Pl (pl : List (Nat × List Kc)) (R : Nat → Kc → Prop) : Prop where
  pm : ∀ h c, c ∈ getP pl h ↔ R h c
  nd : ∀ h, (getP pl h).Nodup
theorem Pl.congr {pl : List (Nat × List Kc)} {R R' : Nat → Kc → Prop} (p : Pl pl R) (h : ∀ k c, R k c ↔ R' k c) : Pl pl R' := ⟨fun k c => (p.pm k c).trans (h k c), p.nd⟩
theorem Pl.add {pl : List (Nat × List Kc)} {R : Nat → Kc → Prop} (p : Pl pl R) (h : Nat) (c : Kc) : Pl (putA pl h (getP pl h ++ if c ∈ getP pl h then [] else [c])) (fun k d => R k d ∨ (k = h ∧ d = c)) := by
  refine ⟨fun k d => ?_, fun k => ?_⟩
  · rw [getP_put]
    by_cases e : k = h
    · subst e
      rw [if_pos rfl, List.mem_append, p.pm]
      by_cases hc : c ∈ getP pl k
      · rw [if_pos hc]
        have := (p.pm k c).mp hc
        constructor
        · rintro (q | q)
          · exact .inl q
          · cases q
        · rintro (q | ⟨_, rfl⟩)
          · exact .inl q
          · exact .inl this
      · rw [if_neg hc, List.mem_singleton]
        simp
    · rw [if_neg e, p.pm]
      simp [e]
  · rw [getP_put]
    split
    · rename_i e
      subst e
      by_cases hc : c ∈ getP pl k
      · rw [if_pos hc, List.append_nil]
        exact p.nd k
      · rw [if_neg hc, List.nodup_append]
        refine ⟨p.nd k, by simp, fun a ha b hb q => ?_⟩
        rw [List.mem_singleton] at hb
        subst hb
        subst q
        exact hc ha
    · exact p.nd k
section
variable {ks : List Kc} {hr : Kc → Option Int} {s : Kc} {st : Nat}
/-- what stands in the places once the hours before t are gone through -/
def BeT (ks : List Kc) (hr : Kc → Option Int) (s : Kc) (st t h : Nat) (c : Kc) : Prop :=
  (h = 0 ∧ c = s ∧ s ∈ ks ∧ tim (hr s) 0 = true) ∨ (∃ h0, h0 < t ∧ Be ks hr s st h0 c ∧ h = h0 + 1 ∧ tim (hr c) ((h0 + 1 : Nat) : Int) = true) ∨
  (∃ h0, h0 < t ∧ ∃ c0, Be ks hr s st h0 c0 ∧ c ∈ sidesP c0 ∧ c ∈ ks ∧ h = h0 + st ∧ tim (hr c) ((h0 + st : Nat) : Int) = true)
theorem beT_now (h1 : 1 ≤ st) {t : Nat} {c : Kc} : BeT ks hr s st t t c ↔ Be ks hr s st t c := by
  constructor
  · rintro (⟨rfl, rfl, h2, h3⟩ | ⟨h0, _, b, e, h3⟩ | ⟨h0, _, c0, b, h2, h3, e, h4⟩)
    · exact .start h2 h3
    · rw [e]; exact .wait b h3
    · rw [e]; exact .go b h2 h3 h4
  · intro b
    cases b with
    | start h2 h3 => exact .inl ⟨rfl, rfl, h2, h3⟩
    | wait b h3 => exact .inr (.inl ⟨_, Nat.lt_succ_self _, b, rfl, h3⟩)
    | go b h2 h3 h4 => exact .inr (.inr ⟨_, by omega, _, b, h2, h3, rfl, h4⟩)
/-- within an hour: D gone through -/
def BeM (ks : List Kc) (hr : Kc → Option Int) (s : Kc) (st t : Nat) (D : List Kc) (h : Nat) (c : Kc) : Prop :=
  BeT ks hr s st t h c ∨ (c ∈ D ∧ h = t + 1 ∧ tim (hr c) ((t + 1 : Nat) : Int) = true) ∨ (∃ c0 ∈ D, c ∈ sidesP c0 ∧ c ∈ ks ∧ h = t + st ∧ tim (hr c) ((t + st : Nat) : Int) = true)
theorem beM_end {t : Nat} {D : List Kc} (hD : ∀ c, c ∈ D ↔ Be ks hr s st t c) {h : Nat} {c : Kc} : BeM ks hr s st t D h c ↔ BeT ks hr s st (t + 1) h c := by
  unfold BeM BeT
  constructor
  · rintro ((q | ⟨h0, hh, b, q⟩ | ⟨h0, hh, c0, q⟩) | ⟨hc, rfl, q⟩ | ⟨c0, hc, h2, h3, rfl, h4⟩)
    · exact .inl q
    · exact .inr (.inl ⟨h0, by omega, b, q⟩)
    · exact .inr (.inr ⟨h0, by omega, c0, q⟩)
    · exact .inr (.inl ⟨t, by omega, (hD c).mp hc, rfl, q⟩)
    · exact .inr (.inr ⟨t, by omega, c0, (hD c0).mp hc, h2, h3, rfl, h4⟩)
  · rintro (q | ⟨h0, hh, b, q⟩ | ⟨h0, hh, c0, q⟩)
    · exact .inl (.inl q)
    · by_cases e : h0 = t
      · subst e
        exact .inr (.inl ⟨(hD c).mpr b, q.1, q.2⟩)
      · exact .inl (.inr (.inl ⟨h0, by omega, b, q⟩))
    · by_cases e : h0 = t
      · subst e
        exact .inr (.inr ⟨c0, (hD c0).mpr q.1, q.2⟩)
      · exact .inl (.inr (.inr ⟨h0, by omega, c0, q⟩))
structure Fl (fl : List (Kc × List Nat)) (R : Kc → Nat → Prop) : Prop where
  fm : ∀ c x, x ∈ getP fl c ↔ R c x
  ne : ∀ c l, getA fl c = some l → l ≠ []
  nd : (fl.map (·.1)).Nodup
  un : ∀ c, (getP fl c).Nodup
theorem Fl.congr {fl : List (Kc × List Nat)} {R R' : Kc → Nat → Prop} (p : Fl fl R) (h : ∀ c x, R c x ↔ R' c x) : Fl fl R' := ⟨fun c x => (p.fm c x).trans (h c x), p.ne, p.nd, p.un⟩
theorem Fl.add {fl : List (Kc × List Nat)} {R : Kc → Nat → Prop} (p : Fl fl R) (c : Kc) (t : Nat) (hn : ¬ R c t) : Fl (putA fl c (getP fl c ++ [t])) (fun d x => R d x ∨ (d = c ∧ x = t)) := by
  refine ⟨fun d x => ?_, fun d l q => ?_, putA_nodup p.nd, fun d => ?_⟩
  rotate_left 2
  · rw [getP_put]
    split
    · rename_i e
      subst e
      rw [List.nodup_append]
      refine ⟨p.un d, by simp, fun a ha b hb q => ?_⟩
      rw [List.mem_singleton] at hb
      subst hb
      subst q
      exact hn ((p.fm d a).mp ha)
    · exact p.un d
  · rw [getP_put]
    by_cases e : d = c
    · subst e
      rw [if_pos rfl, List.mem_append, p.fm, List.mem_singleton]
      simp
    · rw [if_neg e, p.fm]
      simp [e]
  · rw [getA_put] at q
    split at q
    · cases q
      simp
    · exact p.ne d l q
theorem Fl.len {fl : List (Kc × List Nat)} {t : Nat} {D : List Kc} (p : Fl fl (fun c x => (x < t ∧ Be ks hr s st x c) ∨ (x = t ∧ c ∈ D))) (c : Kc) (ht : t ≤ 61) : (getP fl c).length ≤ 10000 := by
  have h1 : (getP fl c).length ≤ (List.range 62).length := (p.un c).length_le_of_subset fun x hx => by
    rw [List.mem_range]
    rcases (p.fm c x).mp hx with q | q <;> omega
  rw [List.length_range] at h1
  omega
end
end DL
namespace DL
open PySem PySem.Spec L2
open PyProof.Rows hiding St
theorem lsidesP_ok {c : Kc} : f__law_sides [pr c] = some (.list ((sidesP c).map pr)) := by
  suffices H : W (f__law_sides [pr c]) fun q => q = .list ((sidesP c).map pr) from W_out H
  unfold f__law_sides b__law_sides
  rw [w_runP]
  simp [sidesP, pr]
theorem lsafe_ok {l : List (Kc × Int)} {c : Kc} {h : Int} : f__law_safe [.dict (asD pr PyData.int l), pr c, .int h] = some (.bool (tim (getA l c) h)) := by
  suffices H : W (f__law_safe [.dict (asD pr PyData.int l), pr c, .int h]) fun q => q = .bool (tim (getA l c) h) from W_out H
  unfold f__law_safe b__law_safe
  rw [w_runP]
  have h1 := ninA_pr (f := PyData.int) (l := l) (k := c)
  have h2 := ixA_pr (f := PyData.int) (l := l) (k := c)
  cases hg : getA l c with
  | none =>
    rw [hg] at h1
    have h1 : notInD (pr c) (.dict (asD pr PyData.int l)) = some (.bool true) := h1
    generalize PyData.dict (asD pr PyData.int l) = G at *
    simp [h1, tim]
  | some v =>
    rw [hg] at h1 h2
    have h1 : notInD (pr c) (.dict (asD pr PyData.int l)) = some (.bool false) := h1
    have h2 : ixD (.dict (asD pr PyData.int l)) (pr c) = some (.int v) := h2
    generalize PyData.dict (asD pr PyData.int l) = G at *
    simp [h1, h2, tim]
theorem set_ed {fl : List (Kc × List Nat)} {c : Kc} {l : List Nat} (hl : fl.length < sizeLine) : setD (ED fl) (pr c) (nsL l) = some (ED (putA fl c l)) := setA_prF (f := nsL) (l := fl) hl
theorem lh_sides {G HL ED' : PyData} {ks : List Kc} {hr : Kc → Option Int} {s c : Kc} {st t : Nat} {R : Nat → Kc → Prop} {pl : List (Nat × List Kc)} (hin : ∀ c, inD (pr c) G = some (.bool (decide (c ∈ ks))))
    (hsf : ∀ (c : Kc) (h : Int), f__law_safe [HL, pr c, .int h] = some (.bool (tim (hr c) h))) (hP : Pl pl R) (hR : ∀ h c, R h c → c ∈ ks) (hks : ks.length ≤ 16) (hpl : pl.length ≤ 10000) {Q : Out → Prop}
    (hQ : ∀ pl', Pl pl' (fun h d => R h d ∨ (d ∈ sidesP c ∧ d ∈ ks ∧ h = t + st ∧ tim (hr d) ((t + st : Nat) : Int) = true)) → pl'.length ≤ pl.length + 4 → Q (.nx [some (.p G), some (.p HL), some (.p (pr s)), some (.p (.int (st : Int))), some (.p (.int 60)), some (.o ED'), some (.o (PD pl')), some (.p (.int (t : Int))), some (.p (pr c)), none, none] [])) :
    W (b__law_hours_c1 [some (.p G), some (.p HL), some (.p (pr s)), some (.p (.int (st : Int))), some (.p (.int 60)), some (.o ED'), some (.o (PD pl)), some (.p (.int (t : Int))), some (.p (pr c)), none, none] []) Q := by
  have hz : (sizeLine : Nat) = 16777216 := sizeLine_eq
  have hsd := lsidesP_ok (c := c)
  have hS4 : (sidesP c).length = 4 := rfl
  unfold b__law_hours_c1
  simp [hsd, hS4]
  refine ⟨by omega, ?_⟩
  generalize sidesP c = Sd at *
  have hcast : (t : Int) + (st : Int) = ((t + st : Nat) : Int) := by omega
  refine forL_ix (F := pr) (fun j ρ S => S = [] ∧ j ≤ 4 ∧ ∃ pl', ρ = [some (.p G), some (.p HL), some (.p (pr s)), some (.p (.int (st : Int))), some (.p (.int 60)), some (.o ED'), some (.o (PD pl')), some (.p (.int (t : Int))), some (.p (pr c)), none, none] ∧ Pl pl' (fun h d => R h d ∨ (d ∈ Sd.take j ∧ d ∈ ks ∧ h = t + st ∧ tim (hr d) ((t + st : Nat) : Int) = true)) ∧ pl'.length ≤ pl.length + j) (fun j hj ρ S hi => ?_) (fun ρ S hi => ?_) ⟨rfl, by omega, pl, rfl, hP.congr fun h d => ⟨.inl, fun q => q.elim id fun q => absurd q.1 (by simp)⟩, Nat.le_refl _⟩
  · obtain ⟨rfl, hj4, pl', rfl, hP', hpl'⟩ := hi
    have hget := get_pd (pl := pl') (h := t + st)
    have hadd := hP'.add (t + st) Sd[j]
    have hset := fun L => set_pd (pl := pl') (h := t + st) (L := L) (by omega)
    have hind := hin Sd[j]
    have htd := hsf Sd[j] ((t + st : Nat) : Int)
    have hnm := enc_pr.nmem_l (xs := getP pl' (t + st)) (x := Sd[j])
    have hgl : (getP pl' (t + st)).length ≤ 16 := Nat.le_trans ((hP'.nd _).length_le_of_subset fun d hd => ((hP'.pm _ d).mp hd).elim (fun q => hR _ _ q) fun q => q.2.1) hks
    have hpm := hP'.pm (t + st) Sd[j]
    have htk : ∀ d, d ∈ Sd.take (j + 1) ↔ d ∈ Sd.take j ∨ d = Sd[j] := fun d => by
      rw [List.take_succ_eq_append_getElem hj, List.mem_append, List.mem_singleton]
    have hold : ∀ d, d ∈ Sd.take j → d ∈ Sd.take (j + 1) := fun d q => (htk d).mpr (.inl q)
    have hlast : Sd[j] ∈ Sd.take (j + 1) := (htk _).mpr (.inr rfl)
    have hlen2 : ∀ L : List Kc, (putA pl' (t + st) L).length ≤ pl'.length + 1 := fun L => putA_len'
    generalize Sd[j] = d at *
    generalize hh : ((t + st : Nat) : Int) = h at *
    generalize getP pl' (t + st) = L at *
    have hdd : isDD (PD pl') = true := rfl
    have stay : (∀ x, x = d → ¬ (x ∈ ks ∧ tim (hr x) h = true) ∨ R (t + st) x ∨ x ∈ Sd.take j) → Pl pl' (fun h' x => R h' x ∨ (x ∈ Sd.take (j + 1) ∧ x ∈ ks ∧ h' = t + st ∧ tim (hr x) h = true)) := fun z => hP'.congr fun h' x => by
      constructor
      · rintro (q | ⟨q1, q2⟩)
        · exact .inl q
        · exact .inr ⟨hold _ q1, q2⟩
      · rintro (q | ⟨q1, q2, rfl, q3⟩)
        · exact .inl q
        · rcases (htk x).mp q1 with q1 | q1
          · exact .inr ⟨q1, q2, rfl, q3⟩
          · rcases z x q1 with z | z | z
            · exact absurd ⟨q2, q3⟩ z
            · exact .inl z
            · exact .inr ⟨z, q2, rfl, q3⟩
    by_cases hdk : d ∈ ks
    · simp only [hdk, decide_true] at hind
      cases hq : tim (hr d) h with
      | false =>
        rw [hq] at htd
        have hst2 := stay fun x e => .inl fun z => absurd (e ▸ z.2) (by rw [hq]; exact Bool.false_ne_true)
        generalize hX : PD pl' = X at *
        simp [hcast, hget, hdd, hind, htd]
        exact ⟨by omega, pl', hX.symm, hst2, by omega⟩
      | true =>
        rw [hq] at htd
        by_cases hm : d ∈ L
        · simp only [hm, decide_true, Bool.not_true] at hnm
          have hst2 := stay fun x e => by
            subst e
            rcases hpm.mp hm with z | z
            · exact .inr (.inl z)
            · exact .inr (.inr z.1)
          generalize hX : PD pl' = X at *
          simp [hcast, hget, hdd, hind, htd, hnm]
          exact ⟨by omega, pl', hX.symm, hst2, by omega⟩
        · simp only [hm, decide_false, Bool.not_false] at hnm
          rw [if_neg hm] at hadd
          have hset := hset (L ++ [d])
          have e9 : psL (L ++ [d]) = .list (L.map pr ++ [pr d]) := by simp [psL]
          rw [e9] at hset
          have hst2 : Pl (putA pl' (t + st) (L ++ [d])) (fun h' x => R h' x ∨ (x ∈ Sd.take (j + 1) ∧ x ∈ ks ∧ h' = t + st ∧ tim (hr x) h = true)) := hadd.congr fun h' x => by
            constructor
            · rintro ((q | ⟨q1, q2⟩) | ⟨rfl, rfl⟩)
              · exact .inl q
              · exact .inr ⟨hold _ q1, q2⟩
              · exact .inr ⟨hlast, hdk, rfl, hq⟩
            · rintro (q | ⟨q1, q2, rfl, q3⟩)
              · exact .inl (.inl q)
              · rcases (htk x).mp q1 with q1 | q1
                · exact .inl (.inr ⟨q1, q2, rfl, q3⟩)
                · exact .inr ⟨rfl, q1⟩
          have hl2 := hlen2 (L ++ [d])
          generalize putA pl' (t + st) (L ++ [d]) = pl2 at *
          generalize hX : PD pl' = X at *
          generalize hX2 : PD pl2 = X2 at *
          simp [hcast, hget, hdd, hind, htd, hnm, hset]
          exact ⟨by omega, by omega, pl2, hX2.symm, hst2, by omega⟩
    · simp only [hdk, decide_false] at hind
      have hst2 := stay fun x e => .inl fun z => by rw [e] at z; exact hdk z.1
      generalize hX : PD pl' = X at *
      simp [hcast, hget, hdd, hind]
      exact ⟨by omega, pl', hX.symm, hst2, by omega⟩
  · obtain ⟨rfl, hj4, pl', rfl, hP', hpl'⟩ := hi
    rw [List.take_of_length_le (Nat.le_refl _)] at hP'
    exact hQ pl' hP' (by omega)
theorem lh_cell {G HL ED' : PyData} {ks : List Kc} {hr : Kc → Option Int} {s c : Kc} {st t : Nat} {R : Nat → Kc → Prop} {pl : List (Nat × List Kc)} (hin : ∀ c, inD (pr c) G = some (.bool (decide (c ∈ ks))))
    (hsf : ∀ (c : Kc) (h : Int), f__law_safe [HL, pr c, .int h] = some (.bool (tim (hr c) h))) (hP : Pl pl R) (hR : ∀ h c, R h c → c ∈ ks) (hc : c ∈ ks) (hks : ks.length ≤ 16) (hpl : pl.length ≤ 9000) {Q : Out → Prop}
    (hQ : ∀ pl', Pl pl' (fun h d => (R h d ∨ (d = c ∧ h = t + 1 ∧ tim (hr c) ((t + 1 : Nat) : Int) = true)) ∨ (d ∈ sidesP c ∧ d ∈ ks ∧ h = t + st ∧ tim (hr d) ((t + st : Nat) : Int) = true)) → pl'.length ≤ pl.length + 5 → Q (.nx [some (.p G), some (.p HL), some (.p (pr s)), some (.p (.int (st : Int))), some (.p (.int 60)), some (.o ED'), some (.o (PD pl')), some (.p (.int (t : Int))), some (.p (pr c)), none, none] [])) :
    W (b__law_hours_c2 [some (.p G), some (.p HL), some (.p (pr s)), some (.p (.int (st : Int))), some (.p (.int 60)), some (.o ED'), some (.o (PD pl)), some (.p (.int (t : Int))), some (.p (pr c)), none, none] []) Q := by
  have hz : (sizeLine : Nat) = 16777216 := sizeLine_eq
  unfold b__law_hours_c2
  have hcast : (t : Int) + 1 = ((t + 1 : Nat) : Int) := rfl
  have htd := hsf c ((t + 1 : Nat) : Int)
  have hget := get_pd (pl := pl) (h := t + 1)
  have hadd := hP.add (t + 1) c
  have hnm := enc_pr.nmem_l (xs := getP pl (t + 1)) (x := c)
  have hgl : (getP pl (t + 1)).length ≤ 16 := Nat.le_trans ((hP.nd _).length_le_of_subset fun d hd => hR _ _ ((hP.pm _ d).mp hd)) hks
  have hset := fun L => set_pd (pl := pl) (h := t + 1) (L := L) (by omega)
  have hlen2 : ∀ L : List Kc, (putA pl (t + 1) L).length ≤ pl.length + 1 := fun L => putA_len'
  have hdd : isDD (PD pl) = true := rfl
  have hR2 : ∀ h d, (R h d ∨ (d = c ∧ h = t + 1 ∧ tim (hr c) ((t + 1 : Nat) : Int) = true)) → d ∈ ks := fun h d q => q.elim (hR h d) fun z => z.1 ▸ hc
  have hgo := fun (pl' : List (Nat × List Kc)) (hp : Pl pl' (fun h d => R h d ∨ (d = c ∧ h = t + 1 ∧ tim (hr c) ((t + 1 : Nat) : Int) = true))) (hl : pl'.length ≤ pl.length + 1) => lh_sides (G := G) (HL := HL) (ED' := ED') (s := s) (c := c) (st := st) (t := t) (Q := Q) hin hsf hp hR2 hks (by omega) fun pl2 p2 l2 => hQ pl2 p2 (by omega)
  generalize hh : ((t + 1 : Nat) : Int) = h at *
  cases hq : tim (hr c) h with
  | false =>
    rw [hq] at htd
    have := hgo pl (hP.congr fun k d => ⟨.inl, fun q => q.elim id fun z => absurd z.2.2 (by rw [hq]; exact Bool.false_ne_true)⟩) (by omega)
    generalize hX : PD pl = X at *
    simp [hcast, htd]
    exact this
  | true =>
    rw [hq] at htd
    have fin : ∀ pl', Pl pl' (fun k d => R k d ∨ (k = t + 1 ∧ d = c)) → Pl pl' (fun h' d => R h' d ∨ (d = c ∧ h' = t + 1 ∧ tim (hr c) h = true)) := fun pl' z => z.congr fun k d => by rw [hq]; simp [and_comm]
    by_cases hm : c ∈ getP pl (t + 1)
    · simp only [hm, decide_true, Bool.not_true] at hnm
      rw [if_pos hm, List.append_nil] at hadd
      have hset := hset (getP pl (t + 1))
      have := hgo _ (fin _ hadd) (hlen2 _)
      generalize putA pl (t + 1) (getP pl (t + 1)) = pl2 at *
      generalize getP pl (t + 1) = L at *
      generalize hX : PD pl = X at *
      generalize hX2 : PD pl2 = X2 at *
      simp [hcast, htd, hdd, hget, hnm, hset]
      exact ⟨by omega, this⟩
    · simp only [hm, decide_false, Bool.not_false] at hnm
      rw [if_neg hm] at hadd
      have hset := hset (getP pl (t + 1) ++ [c])
      have e9 : psL (getP pl (t + 1) ++ [c]) = .list ((getP pl (t + 1)).map pr ++ [pr c]) := by simp [psL]
      rw [e9] at hset
      have := hgo _ (fin _ hadd) (hlen2 _)
      generalize putA pl (t + 1) (getP pl (t + 1) ++ [c]) = pl2 at *
      generalize getP pl (t + 1) = L at *
      generalize hX : PD pl = X at *
      generalize hX2 : PD pl2 = X2 at *
      simp [hcast, htd, hdd, hget, hnm, hset]
      exact ⟨by omega, this⟩
theorem lh_all {G HL : PyData} {ks : List Kc} {hr : Kc → Option Int} {s : Kc} {st : Nat} (h1 : 1 ≤ st) (hks : ks.length ≤ 16) (hin : ∀ c, inD (pr c) G = some (.bool (decide (c ∈ ks))))
    (hsf : ∀ (c : Kc) (h : Int), f__law_safe [HL, pr c, .int h] = some (.bool (tim (hr c) h))) {pl0 : List (Nat × List Kc)} (hl0 : pl0.length ≤ 1) (hp0 : Pl pl0 (BeT ks hr s st 0)) {Q : Out → Prop}
    (hQ : ∀ fl, Fl fl (fun c x => x < 61 ∧ Be ks hr s st x c) → Q (.rt (.p (ED fl)) [])) : W (b__law_hours_c3 [some (.p G), some (.p HL), some (.p (pr s)), some (.p (.int (st : Int))), some (.p (.int 60)), some (.o (ED [])), some (.o (PD pl0)), none, none, none, none] []) Q := by
  have hz : (sizeLine : Nat) = 16777216 := sizeLine_eq
  unfold b__law_hours_c3
  simp
  refine forL_rng (fun t ρ S => S = [] ∧ t ≤ 61 ∧ ∃ pl fl, ρ = [some (.p G), some (.p HL), some (.p (pr s)), some (.p (.int (st : Int))), some (.p (.int 60)), some (.o (ED fl)), some (.o (PD pl)), none, none, none, none] ∧ Pl pl (BeT ks hr s st t) ∧ Fl fl (fun c x => x < t ∧ Be ks hr s st x c) ∧ pl.length ≤ 1 + 80 * t ∧ fl.length ≤ 16 * t) (fun t ht ρ S hi => ?_) (fun ρ S hi => ?_) ⟨rfl, by omega, pl0, [], rfl, hp0, ⟨fun c x => ⟨fun q => (by cases q), fun q => (by omega)⟩, fun c l q => (by cases q), List.nodup_nil, fun c => List.nodup_nil⟩, by omega, by simp⟩
  · obtain ⟨rfl, _, pl, fl, rfl, hP, hF, hpl, hfl⟩ := hi
    have hget := get_pd (pl := pl) (h := t)
    have hD : ∀ c, c ∈ getP pl t ↔ Be ks hr s st t c := fun c => (hP.pm t c).trans (beT_now h1)
    have hDl : (getP pl t).length ≤ 16 := Nat.le_trans ((hP.nd t).length_le_of_subset fun c hc => ((hD c).mp hc).mem) hks
    have hDn := hP.nd t
    generalize hDD : getP pl t = D at *
    generalize hX : PD pl = X at *
    have hddX : isDD X = true := by rw [← hX]; rfl
    simp [hget, hddX]
    refine ⟨by omega, ?_⟩
    rw [← hX]
    refine forL_ix (F := pr) (fun j ρ S => S = [] ∧ j ≤ D.length ∧ ∃ pl fl, ρ = [some (.p G), some (.p HL), some (.p (pr s)), some (.p (.int (st : Int))), some (.p (.int 60)), some (.o (ED fl)), some (.o (PD pl)), some (.p (.int (t : Int))), none, none, none] ∧ Pl pl (BeM ks hr s st t (D.take j)) ∧ Fl fl (fun c x => (x < t ∧ Be ks hr s st x c) ∨ (x = t ∧ c ∈ D.take j)) ∧ pl.length ≤ 1 + 80 * t + 5 * j ∧ fl.length ≤ 16 * t + j) (fun j hj ρ S hi => ?_) (fun ρ S hi => ?_) ⟨rfl, Nat.zero_le _, pl, fl, rfl, hP.congr fun k c => ⟨.inl, fun q => q.elim id fun q => q.elim (fun z => by simp at z) fun z => by simp at z⟩, hF.congr fun c x => ⟨.inl, fun q => q.elim id fun z => by simp at z⟩, by omega, by omega⟩
    · obtain ⟨rfl, _, pl, fl, rfl, hP, hF, hpl, hfl⟩ := hi
      have htk : ∀ d, d ∈ D.take (j + 1) ↔ d ∈ D.take j ∨ d = D[j] := fun d => by
        rw [List.take_succ_eq_append_getElem hj, List.mem_append, List.mem_singleton]
      have hcD : D[j] ∈ D := List.getElem_mem hj
      have hnj : D[j] ∉ D.take j := fun q => by
        obtain ⟨k, hk, e⟩ := List.getElem_of_mem q
        rw [List.length_take] at hk
        rw [List.getElem_take] at e
        have := (List.getElem_inj (h₀ := by omega) (h₁ := hj) hDn).mp e
        omega
      have hge := get_ed (fl := fl) (c := D[j])
      have hfa := hF.add D[j] t fun q => q.elim (fun z => by omega) fun z => hnj z.2
      have hse := set_ed (fl := fl) (c := D[j]) (l := getP fl D[j] ++ [t]) (by omega)
      have e9 : nsL (getP fl D[j] ++ [t]) = .list ((getP fl D[j]).map natE ++ [.int (t : Int)]) := by simp [nsL]
      rw [e9] at hse
      have hfl2 : (putA fl D[j] (getP fl D[j] ++ [t])).length ≤ fl.length + 1 := putA_len'
      have hBm : ∀ h d, BeM ks hr s st t (D.take j) h d → d ∈ ks := fun h d q => by
        rcases q with (⟨_, rfl, q, _⟩ | ⟨_, _, b, _⟩ | ⟨_, _, _, _, _, q, _⟩) | ⟨q, _⟩ | ⟨_, _, _, q, _⟩
        · exact q
        · exact b.mem
        · exact q
        · exact ((hD d).mp (List.mem_of_mem_take q)).mem
        · exact q
      have hck := ((hD _).mp hcD).mem
      have hgl : (getP fl D[j]).length ≤ 10000 := hF.len _ (by omega)
      have hs := fun (ED' : PyData) (Q : Out → Prop) => lh_cell (G := G) (HL := HL) (ED' := ED') (s := s) (st := st) (c := D[j]) (t := t) (Q := Q) hin hsf hP hBm hck hks (by omega)
      generalize D[j] = c at *
      generalize putA fl c (getP fl c ++ [t]) = fl2 at *
      generalize getP fl c = l at *
      have hddE : isDD (ED fl) = true := rfl
      generalize ED fl = E at *
      generalize hE2 : ED fl2 = E2 at *
      simp [hddE, hge, hse]
      refine ⟨by omega, ?_⟩
      refine hs _ _ fun pl' hp' hl' => ?_
      simp
      refine ⟨by omega, pl', fl2, ⟨hE2.symm, rfl⟩, hp'.congr fun h d => ?_, hfa.congr fun d x => ?_, by omega, by omega⟩
      · unfold BeM
        constructor
        · rintro (((q | ⟨q, q2⟩ | ⟨c0, q, q2⟩) | ⟨rfl, q⟩) | q)
          · exact .inl q
          · exact .inr (.inl ⟨(htk d).mpr (.inl q), q2⟩)
          · exact .inr (.inr ⟨c0, (htk c0).mpr (.inl q), q2⟩)
          · exact .inr (.inl ⟨(htk d).mpr (.inr rfl), q⟩)
          · exact .inr (.inr ⟨c, (htk c).mpr (.inr rfl), q⟩)
        · rintro (q | ⟨q, q2⟩ | ⟨c0, q, q2⟩)
          · exact .inl (.inl (.inl q))
          · rcases (htk d).mp q with q | rfl
            · exact .inl (.inl (.inr (.inl ⟨q, q2⟩)))
            · exact .inl (.inr ⟨rfl, q2⟩)
          · rcases (htk c0).mp q with q | rfl
            · exact .inl (.inl (.inr (.inr ⟨c0, q, q2⟩)))
            · exact .inr q2
      · constructor
        · rintro ((q | ⟨q, q2⟩) | ⟨rfl, rfl⟩)
          · exact .inl q
          · exact .inr ⟨q, (htk d).mpr (.inl q2)⟩
          · exact .inr ⟨rfl, (htk d).mpr (.inr rfl)⟩
        · rintro (q | ⟨q, q2⟩)
          · exact .inl (.inl q)
          · rcases (htk d).mp q2 with q2 | q2
            · exact .inl (.inr ⟨q, q2⟩)
            · exact .inr ⟨q2, q⟩
    · obtain ⟨rfl, _, pl, fl, rfl, hP, hF, hpl, hfl⟩ := hi
      rw [List.take_length] at hP hF
      simp
      exact ⟨by omega, pl, fl, ⟨rfl, rfl⟩, hP.congr fun h c => beM_end hD, hF.congr fun c x => by
        constructor
        · rintro (⟨h1, h2⟩ | ⟨rfl, h2⟩)
          · exact ⟨by omega, h2⟩
          · exact ⟨by omega, (hD c).mp h2⟩
        · rintro ⟨h1, h2⟩
          by_cases e : x = t
          · subst e
            exact .inr ⟨rfl, (hD c).mpr h2⟩
          · exact .inl ⟨by omega, h2⟩, by omega, by omega⟩
  · obtain ⟨rfl, _, pl, fl, rfl, _, hF, _⟩ := hi
    have := hQ fl hF
    simp
    exact this
theorem lhours_ok {G HL : PyData} {ks : List Kc} {hr : Kc → Option Int} {s : Kc} {st : Nat} (h1 : 1 ≤ st) (hks : ks.length ≤ 16) (hin : ∀ c, inD (pr c) G = some (.bool (decide (c ∈ ks))))
    (hsf : ∀ (c : Kc) (h : Int), f__law_safe [HL, pr c, .int h] = some (.bool (tim (hr c) h))) : ∃ fl, f__law_hours [G, HL, pr s, .int (st : Int), .int 60] = some (ED fl) ∧ Fl fl (fun c x => x < 61 ∧ Be ks hr s st x c) := by
  suffices H : W (f__law_hours [G, HL, pr s, .int (st : Int), .int 60]) fun v => ∃ fl, v = ED fl ∧ Fl fl (fun c x => x < 61 ∧ Be ks hr s st x c) by
    obtain ⟨v, e, fl, rfl, h⟩ := H
    exact ⟨fl, e, h⟩
  have hz : (sizeLine : Nat) = 16777216 := sizeLine_eq
  unfold f__law_hours b__law_hours
  rw [w_runP]
  have hins := hin s
  have hts := hsf s 0
  have hgo := fun pl0 (hl0 : pl0.length ≤ 1) hp0 => lh_all (G := G) (HL := HL) (pl0 := pl0) (s := s) (Q := fun o => match o with | .rt d S' => (match d with | .p d => ∃ fl, d = ED fl ∧ Fl fl (fun c x => x < 61 ∧ Be ks hr s st x c) | _ => False) | .nx _ S' => False | _ => False) h1 hks hin hsf hl0 hp0 fun fl h => ⟨fl, rfl, h⟩
  have hno : (¬ (s ∈ ks ∧ tim (hr s) 0 = true)) → Pl [] (BeT ks hr s st 0) := fun z => ⟨fun h c => by
    constructor
    · intro q; cases q
    · rintro (⟨_, _, q, q2⟩ | ⟨_, q, _⟩ | ⟨_, q, _⟩)
      · exact absurd ⟨q, q2⟩ z
      · omega
      · omega, fun h => List.nodup_nil⟩
  have hyes : s ∈ ks → tim (hr s) 0 = true → Pl [(0, [s])] (BeT ks hr s st 0) := fun z z2 => ⟨fun h c => by
    have e : getP [((0 : Nat), [s])] h = if h = 0 then [s] else [] := by
      have := getP_put (pl := ([] : List (Nat × List Kc))) (h := 0) (k := h) (L := [s])
      exact this
    rw [e]
    constructor
    · intro q
      split at q
      · rename_i e0
        rw [List.mem_singleton] at q
        exact .inl ⟨e0, q, z, z2⟩
      · cases q
    · rintro (⟨rfl, rfl, _⟩ | ⟨_, q, _⟩ | ⟨_, q, _⟩)
      · simp
      · omega
      · omega, fun h => by
    have e : getP [((0 : Nat), [s])] h = if h = 0 then [s] else [] := getP_put (pl := ([] : List (Nat × List Kc))) (h := 0) (k := h) (L := [s])
    rw [e]
    split <;> simp⟩
  by_cases hk : s ∈ ks
  · simp only [hk, decide_true] at hins
    cases ht : tim (hr s) 0 with
    | true =>
      rw [ht] at hts
      have hg := hgo _ (by simp) (hyes hk ht)
      have hset := set_pd (pl := []) (h := 0) (L := [s]) (by simp; omega)
      have hset : setD (.dict []) (.int 0) (.list [pr s]) = some (PD [(0, [s])]) := hset
      generalize hX : PD [(0, [s])] = X at *
      simp [hins, hts, hset]
      exact hg
    | false =>
      rw [ht] at hts
      have hg := hgo [] (by simp) (hno fun z => by rw [ht] at z; exact Bool.false_ne_true z.2)
      simp [hins, hts]
      exact hg
  · simp only [hk, decide_false] at hins
    have hg := hgo [] (by simp) (hno fun z => hk z.1)
    simp [hins]
    exact hg
end DL
namespace DL
open PySem PySem.Spec L2
open PyProof.Rows hiding St
/-! the law's hours in k93 and k94: always stored, the less of two -/
abbrev HD (l : Hs) : PyData := .dict (asD pr PyData.int l)
theorem putA_same {l : Hs} {d : Kc} {u : Int} (nd : (l.map (·.1)).Nodup) (h : getA l d = some u) : putA l d u = l := by
  have hany : (l.any fun p => decide (p.1 = d)) = true := by
    unfold getA at h
    obtain ⟨p, hp, rfl⟩ := Option.map_eq_some_iff.mp h
    have h2 := List.find?_some hp
    exact List.any_eq_true.mpr ⟨p, List.mem_of_find?_eq_some hp, h2⟩
  unfold putA
  rw [if_pos hany]
  clear hany
  induction l with
  | nil => rfl
  | cons q l ih =>
    rw [List.map_cons, List.nodup_cons] at nd
    unfold getA at h
    rw [List.find?_cons] at h
    rw [List.map_cons]
    by_cases e : q.1 = d
    · simp [e] at h
      have hr : (l.map fun p => if p.1 = d then (p.1, u) else p) = l := by
        refine (List.map_congr_left fun p hp => ?_).trans (List.map_id l)
        have : ¬ p.1 = d := fun z => nd.1 (by rw [e, ← z]; exact List.mem_map.mpr ⟨p, hp, rfl⟩)
        rw [if_neg this]
        rfl
      rw [if_pos e, hr, ← h]
    · simp only [e, decide_false] at h
      rw [if_neg e, ih nd.2 h]
theorem rel_min {l : Hs} {d : Kc} {w : Int} (nd : (l.map (·.1)).Nodup) : putA l d (min ((getA l d).getD w) w) = rel l d w := by
  unfold rel relB
  cases h : getA l d with
  | none => simp
  | some u =>
    simp only [Option.getD_some]
    by_cases hw : w < u
    · rw [if_pos (decide_eq_true hw), Int.min_eq_right (by omega)]
    · rw [if_neg (by simpa using hw), Int.min_eq_left (by omega)]
      exact putA_same nd h
theorem Snd.len {ks B : List Kc} {f : Kc → Int} {l : Hs} (h : Snd ks f B l) : l.length ≤ ks.length := by
  have : l.length = (l.map (·.1)).length := by rw [List.length_map]
  rw [this]
  refine h.nd.length_le_of_subset fun c hc => ?_
  obtain ⟨k, hk⟩ := getA_key hc
  obtain ⟨w, kw⟩ := h.ok c k hk
  exact kw.mem
theorem getDD_hd {l : List (Kc × Int)} {c : Kc} {d : Int} : getDD (.dict (asD pr PyData.int l)) (pr c) (.int d) = some (.int ((getA l c).getD d)) := by
  show (if keyOk _ _ = true then some ((getK _ _).getD _) else none) = _
  rw [if_pos keyOk_pr, getA_D enc_pr]
  cases getA l c <;> rfl
theorem key_getA {β : Type} {l : List (Kc × β)} {c : Kc} : c ∈ l.map (·.1) ↔ (getA l c).isSome = true := by
  constructor
  · intro h
    obtain ⟨k, hk⟩ := getA_key h
    rw [hk]
    rfl
  · intro h
    obtain ⟨k, hk⟩ := Option.isSome_iff_exists.mp h
    unfold getA at hk
    obtain ⟨p, hp, rfl⟩ := Option.map_eq_some_iff.mp hk
    have h1 := List.mem_of_find?_eq_some hp
    have h2 := List.find?_some hp
    exact List.mem_map.mpr ⟨p, h1, of_decide_eq_true h2⟩
theorem Bf.begin {ks B : List Kc} {f : Kc → Int} : Bf ks f B (mergeA ((B.filter fun c => decide (c ∈ ks)).map fun c => (c, (0 : Int)))) 0 where
  snd := ⟨fun c v h => by
    rw [getA_merge (F := fun _ => (0 : Int))] at h
    split at h
    · rename_i hc
      cases h
      obtain ⟨h1, h2⟩ := List.mem_filter.mp hc
      exact ⟨[c], .start h1 (of_decide_eq_true h2)⟩
    · exact absurd h (by simp), mergeA_keys.1⟩
  prog := fun h w c k hw => by
    cases k with
    | start h1 h2 =>
      refine ⟨0, Int.le_refl _, ?_⟩
      rw [getA_merge (F := fun _ => (0 : Int)), if_pos (List.mem_filter.mpr ⟨h1, decide_eq_true h2⟩)]
    | step k1 _ _ =>
      have := List.length_pos_iff.mpr k1.ne
      rw [List.length_append, List.length_singleton] at hw
      omega
theorem lalight_ok {ks B : List Kc} {f : Kc → Int} (hl : ks.length ≤ 100) (hB : B.length ≤ 100) : ∃ l, Bf ks f B l ks.length ∧ f__law_alight [FD ks f, .tuple (B.map pr)] = some (HD l) := by
  suffices H : W (f__law_alight [FD ks f, .tuple (B.map pr)]) fun q => ∃ l, Bf ks f B l ks.length ∧ q = HD l by
    obtain ⟨q, e, l, h, rfl⟩ := H
    exact ⟨l, h, e⟩
  have hz : (sizeLine : Nat) = 16777216 := sizeLine_eq
  unfold f__law_alight b__law_alight
  rw [w_runP]
  have hin := fun c => fd_in (ks := ks) (f := f) (c := c)
  have hix := fun c h => fd_ix (ks := ks) (f := f) (c := c) h
  have hkeys := fd_keys (ks := ks) (f := f)
  have hlen := fd_len (ks := ks) (f := f)
  have hfl : (B.filter fun c => decide (c ∈ ks)).length ≤ 100 := Nat.le_trans (List.length_filter_le _ _) hB
  have hb0 := Bf.begin (ks := ks) (B := B) (f := f)
  have hdp : dictP [.list ((B.filter fun c => decide (c ∈ ks)).map fun c => .tuple [pr c, .int 0])] = some (HD (mergeA ((B.filter fun c => decide (c ∈ ks)).map fun c => (c, (0 : Int))))) := by
    have e3 : ((B.filter fun c => decide (c ∈ ks)).map fun c => PyData.tuple [pr c, .int 0]) = (asD pr PyData.int ((B.filter fun c => decide (c ∈ ks)).map fun c => (c, (0 : Int)))).map fun p => .tuple [p.1, p.2] := by
      unfold asD
      rw [List.map_map, List.map_map]
      rfl
    rw [e3, dictP_l (by unfold asD; rw [List.length_map, List.length_map]; omega) (.inr ?_), mergeA_D enc_pr]
    unfold asD
    rw [List.all_map, List.all_eq_true]
    exact fun _ _ => rfl
  have hne : ∀ c d : Kc, d ∈ sidesP c → c ≠ d := fun c d hd e => by
    subst e
    unfold sidesP at hd
    simp [Prod.ext_iff] at hd
    omega
  simp
  refine ⟨by omega, ?_⟩
  refine w_compL (F := pr) (fun c => decide (c ∈ ks)) (fun c => .tuple [pr c, .int 0]) rfl (fun c hc => by simp [hin]) ?_
  generalize mergeA ((B.filter fun c => decide (c ∈ ks)).map fun c => (c, (0 : Int))) = l0 at *
  dsimp only
  simp [hdp, hkeys, hlen]
  refine ⟨by omega, ?_⟩
  refine forL_ix (F := pr) (fun t ρ S => S = [] ∧ ∃ l, Bf ks f B l t ∧ ρ = [some (.p (FD ks f)), some (.p (.tuple (B.map pr))), some (.o (HD l)), none, none, none]) (fun t ht ρ S hh => ?_) (fun ρ S hh => ?_) ⟨rfl, l0, hb0, rfl⟩
  · obtain ⟨rfl, l, hbf, rfl⟩ := hh
    generalize hG : FD ks f = G at *
    generalize ks[t] = tc at *
    have hso := sortDk_d enc_pr (dd := asD pr PyData.int l) (ks := l.map (·.1)) (by unfold asD; rw [List.map_map, List.map_map]; rfl)
    have hLk : ∀ c, c ∈ sortE pr (l.map (·.1)) ↔ (getA l c).isSome = true := fun c => sortE_mem.trans key_getA
    have hnx := hbf.next (sd := sidesP) (fun c d => Iff.rfl) hLk
    have hLl : (sortE pr (l.map (·.1))).length ≤ 100 := by rw [sortE_len, List.length_map]; have := hbf.snd.len; omega
    generalize sortE pr (l.map (·.1)) = L at *
    simp [hso]
    refine ⟨by omega, ?_⟩
    refine forL_ix (F := pr) (fun j ρ S => S = [] ∧ ∃ l', Snd ks f B l' ∧ (∀ c ∈ L, (getA l' c).isSome = true) ∧ passL ks f sidesP (L.drop j) l' = passL ks f sidesP L l ∧ ρ = [some (.p G), some (.p (.tuple (B.map pr))), some (.o (HD l')), some (.p (pr tc)), none, none]) (fun j hj ρ S hh => ?_) (fun ρ S hh => ?_) ⟨rfl, l, hbf.snd, fun c hc => (hLk c).mp hc, rfl, rfl⟩
    · obtain ⟨rfl, l', hs', hsm, hp, rfl⟩ := hh
      rw [List.drop_eq_getElem_cons hj] at hp
      have hcL := List.getElem_mem hj
      generalize L[j] = c at *
      have hp : passL ks f sidesP (L.drop (j + 1)) (relS ks (sidesP c) (val l' c + f c) l') = passL ks f sidesP L l := hp
      obtain ⟨v, hv⟩ := Option.isSome_iff_exists.mp (hsm c hcL)
      have hval : val l' c = v := by unfold val; rw [hv]; rfl
      obtain ⟨w, kw⟩ := hs'.ok c v hv
      have hck := kw.mem
      have hixc := hix c hck
      rw [hval] at hp
      obtain ⟨g1, g2, g3⟩ := relS_ok (ks := ks) (B := B) (f := f) (c := c) (v := v + f c) (w := w) (fun d h1 h2 => ⟨_, .step kw h1 h2⟩) (S := sidesP c) (l := l') (fun d hd => hd) hs'
      have hsd := lsidesP_ok (c := c)
      have hS4 : (sidesP c).length = 4 := rfl
      have hnec := hne c
      have hwk : ∀ d ∈ sidesP c, d ∈ ks → ∃ w, Wk ks f B (v + f c) w d := fun d h1 h2 => ⟨_, .step kw h1 h2⟩
      simp [hsd, hS4]
      refine ⟨by omega, ?_⟩
      generalize sidesP c = Sd at *
      refine forL_ix (F := pr) (fun i ρ S => S = [] ∧ ∃ m, Snd ks f B m ∧ getA m c = some v ∧ relS ks (Sd.drop i) (v + f c) m = relS ks Sd (v + f c) l' ∧ ρ = [some (.p G), some (.p (.tuple (B.map pr))), some (.o (HD m)), some (.p (pr tc)), some (.p (pr c)), none]) (fun i hi ρ S hh => ?_) (fun ρ S hh => ?_) ⟨rfl, l', hs', hv, rfl, rfl⟩
      · obtain ⟨rfl, m, hsm2, hvm, hr, rfl⟩ := hh
        rw [List.drop_eq_getElem_cons hi] at hr
        have hdS := List.getElem_mem hi
        generalize Sd[i] = d at *
        have hdc := hnec d hdS
        have hr : relS ks (Sd.drop (i + 1)) (v + f c) (if d ∈ ks then rel m d (v + f c) else m) = relS ks Sd (v + f c) l' := hr
        have hind := hin d
        have hmc := ixA_pr (f := PyData.int) (l := m) (k := c)
        rw [hvm] at hmc
        have hmc : ixD (HD m) (pr c) = some (.int v) := hmc
        have hml := hsm2.len
        have hgt : getDD (HD m) (pr d) (.int (v + f c)) = some (.int ((getA m d).getD (v + f c))) := getDD_hd
        have hset := setA_prF (f := PyData.int) (l := m) (k := d) (v := min ((getA m d).getD (v + f c)) (v + f c)) (by omega)
        rw [rel_min hsm2.nd] at hset
        have hddm : isDD (HD m) = true := rfl
        by_cases hdk : d ∈ ks
        · rw [if_pos hdk] at hr
          simp only [hdk, decide_true] at hind
          obtain ⟨w', kw'⟩ := hwk d hdS hdk
          have hsm3 := hsm2.rel kw'
          have hvm3 : getA (rel m d (v + f c)) c = some v := by rw [rel_ne hdc]; exact hvm
          generalize rel m d (v + f c) = m3 at *
          generalize hM : HD m = M at *
          generalize hM3 : HD m3 = M3 at *
          have hset : setD M (pr d) (.int (min ((getA m d).getD (v + f c)) (v + f c))) = some M3 := by rw [← hM, ← hM3]; exact hset
          simp [hind, hmc, hixc, hddm, hgt, hset]
          exact ⟨m3, hsm3, hvm3, hr, hM3.symm⟩
        · rw [if_neg hdk] at hr
          simp only [hdk, decide_false] at hind
          simp [hind]
          exact ⟨m, hsm2, hvm, hr, rfl⟩
      · obtain ⟨rfl, m, hsm2, hvm, hr, rfl⟩ := hh
        rw [List.drop_length] at hr
        have hr : m = relS ks Sd (v + f c) l' := hr
        subst hr
        simp
        exact ⟨_, g1, fun a b hab => by
          obtain ⟨u, hu⟩ := Option.isSome_iff_exists.mp (hsm (a, b) hab)
          obtain ⟨u', _, hu'⟩ := g2 (a, b) u hu
          rw [hu']
          rfl, hp, rfl⟩
    · obtain ⟨rfl, l', hs', hsm, hp, rfl⟩ := hh
      rw [List.drop_length] at hp
      have hp : l' = passL ks f sidesP L l := hp
      subst hp
      simp
      exact ⟨_, hnx, rfl⟩
  · obtain ⟨rfl, l, hbf, rfl⟩ := hh
    simp
    exact ⟨l, hbf, rfl⟩
end DL
namespace DL
open PySem PySem.Spec L2
open PyProof.Rows hiding St
/-! the hours of what is found, looked up -/
theorem hr_get {fnd : List (Kc × Wy)} (c : Kc) : getA (tab (hrK fnd) (hrF fnd)) c = (getA fnd c).map (·.1) := by
  rw [getA_tab]
  cases hg : getA fnd c with
  | none =>
    rw [if_neg]
    · rfl
    · intro hc
      obtain ⟨k, hk⟩ := getA_key (sortE_mem.mp hc)
      rw [hk] at hg
      cases hg
  | some k =>
    have hc : c ∈ hrK fnd := sortE_mem.mpr (key_getA.mpr (by rw [hg]; rfl))
    rw [if_pos hc]
    unfold hrF
    rw [hg]
    rfl
end DL
namespace DL
open PySem PySem.Spec L2
open PyProof.Rows hiding St
/-! the drawn field of k93 and k94 -/
theorem putA_memP {α β : Type} [DecidableEq α] {l : List (α × β)} {k : α} {v : β} {p : α × β} (h : p ∈ putA l k v) : p = (k, v) ∨ p ∈ l := by
  unfold putA at h
  split at h
  · obtain ⟨q, hq, e⟩ := List.mem_map.mp h
    split at e
    · rename_i hk
      rw [← e, hk]
      exact .inl rfl
    · exact .inr (e ▸ hq)
  · rcases List.mem_append.mp h with h | h
    · exact .inr h
    · exact .inl (List.mem_singleton.mp h)
structure GrOk (l : List (Kc × Int)) : Prop where
  nd : (l.map (·.1)).Nodup
  bd : ∀ p ∈ l, (0 ≤ p.1.1 ∧ p.1.1 < 5 ∧ 0 ≤ p.1.2 ∧ p.1.2 < 3) ∧ 1 ≤ p.2 ∧ p.2 ≤ 4
theorem GrOk.put {l : List (Kc × Int)} (h : GrOk l) {c : Kc} {v : Int} (hc : 0 ≤ c.1 ∧ c.1 < 5 ∧ 0 ≤ c.2 ∧ c.2 < 3) (hv : 1 ≤ v ∧ v ≤ 4) : GrOk (putA l c v) :=
  ⟨putA_nodup h.nd, fun p hp => (putA_memP hp).elim (fun e => by subst e; exact ⟨hc, hv⟩) (h.bd p)⟩
def grid15 : List Kc := (List.range 5).flatMap fun x : Nat => (List.range 3).map fun y : Nat => (((x : Nat) : Int), ((y : Nat) : Int))
theorem GrOk.len {l : List (Kc × Int)} (h : GrOk l) : l.length ≤ 15 := by
  have hs : (l.map (·.1)).length ≤ grid15.length := h.nd.length_le_of_subset fun c hc => by
    obtain ⟨p, hp, rfl⟩ := List.mem_map.mp hc
    obtain ⟨⟨a, b, c, d⟩, _⟩ := h.bd p hp
    refine List.mem_flatMap.mpr ⟨p.1.1.toNat, List.mem_range.mpr (by omega), List.mem_map.mpr ⟨p.1.2.toNat, List.mem_range.mpr (by omega), ?_⟩⟩
    rw [Int.toNat_of_nonneg a, Int.toNat_of_nonneg c]
  have hg : grid15.length = 15 := by decide
  rw [List.length_map, hg] at hs
  exact hs
structure FieldOk (ks : List Kc) (f : Kc → Int) : Prop where
  nd : ks.Nodup
  len : ks.length ≤ 15
  ne : ks ≠ []
  bd : ∀ c ∈ ks, 0 ≤ c.1 ∧ c.1 ≤ 5 ∧ 0 ≤ c.2 ∧ c.2 ≤ 3
  val : ∀ c ∈ ks, 1 ≤ f c
theorem GrOk.field {l : List (Kc × Int)} (h : GrOk l) (hne : l ≠ []) : ∃ f, FieldOk (l.map (·.1)) f ∧ l = tab (l.map (·.1)) f := by
  obtain ⟨f, hf⟩ := tab_of h.nd
  refine ⟨f, ⟨h.nd, by rw [List.length_map]; exact h.len, by simpa using hne, fun c hc => ?_, fun c hc => ?_⟩, hf⟩
  · obtain ⟨p, hp, rfl⟩ := List.mem_map.mp hc
    obtain ⟨⟨a, b, c, d⟩, _⟩ := h.bd p hp
    omega
  · have : (c, f c) ∈ l := by
      rw [hf]
      exact List.mem_map.mpr ⟨c, hc, rfl⟩
    exact (h.bd _ this).2.1
theorem w_field2 {ds : List Int} {a : Nat} {Q : D × Sto → Prop} (h : ∀ (ks : List Kc) (f : Kc → Int) (a' : Nat), FieldOk ks f → Q (.p (FD ks f), [some (.d (Wd ds a'))])) : W (f__law_field [.c 0] [some (.d (Wd ds a))]) Q := by
  unfold f__law_field b__law_field
  have hz : (sizeLine : Nat) = 16777216 := sizeLine_eq
  simp
  refine w_next (by omega) fun r a1 r0 r1 => ?_
  obtain ⟨w, rfl⟩ : ∃ k : Nat, r = k := ⟨r.toNat, by omega⟩
  simp
  rw [show ((2 : Int) + (w : Int)).toNat = w + 2 by omega]
  refine ⟨by omega, ?_⟩
  refine forL_rng (fun x ρ S => Stw ds S ∧ ∃ l, ρ = [some (.c 0), some (.o (.dict (asD pr PyData.int l))), none, none] ∧ GrOk l) (fun x hx ρ S hi => ?_) (fun ρ S hi => ?_) ⟨⟨a1, rfl⟩, [], rfl, ⟨by simp, fun p hp => by cases hp⟩⟩
  · obtain ⟨⟨a, rfl⟩, l, rfl, hg⟩ := hi
    simp
    refine w_next (by omega) fun r a2 r0 r1 => ?_
    obtain ⟨v, rfl⟩ : ∃ k : Nat, r = k := ⟨r.toNat, by omega⟩
    simp
    rw [show ((1 : Int) + (v : Int)).toNat = v + 1 by omega]
    refine ⟨by omega, ?_⟩
    refine forL_rng (fun y ρ S => Stw ds S ∧ ∃ l, ρ = [some (.c 0), some (.o (.dict (asD pr PyData.int l))), some (.p (.int x)), none] ∧ GrOk l) (fun y hy ρ S hi => ?_) (fun ρ S hi => ?_) ⟨⟨a2, rfl⟩, l, rfl, hg⟩
    · obtain ⟨⟨a, rfl⟩, l, rfl, hg⟩ := hi
      have hgl := hg.len
      simp
      refine w_next (by omega) fun r a3 r0 r1 => ?_
      by_cases hr : 0 < r
      · simp [hr]
        refine w_next (by omega) fun u a4 u0 u1 => ?_
        have hset := setA_prF (f := PyData.int) (l := l) (k := ((x : Int), (y : Int))) (v := 1 + u) (by omega)
        have hset : setD (.dict (asD pr PyData.int l)) (.tuple [.int (x : Int), .int (y : Int)]) (.int (1 + u)) = _ := hset
        simp [hset]
        exact ⟨⟨_, rfl⟩, _, rfl, hg.put (by simp only []; omega) (by omega)⟩
      · simp [hr]
        exact ⟨⟨_, rfl⟩, _, rfl, hg⟩
    · obtain ⟨⟨a, rfl⟩, l, rfl, hg⟩ := hi
      simp
      exact ⟨⟨_, rfl⟩, l, rfl, hg⟩
  · obtain ⟨⟨a, rfl⟩, l, rfl, hg⟩ := hi
    have hne := neY_empty (dd := asD pr PyData.int l)
    cases l with
    | nil =>
      have hne : neY (.dict []) (.dict []) = some (.bool false) := hne
      have hm : PyData.dict (mergeD [(.tuple [.int 0, .int 0], .int 1)]) = FD [(0, 0)] (fun _ => 1) := rfl
      have hkt : isKT (.tuple [.int 0, .int 0]) = true := rfl
      have hh := h [(0, 0)] (fun _ => 1) a ⟨by simp, by simp, by simp, fun c hc => by rw [List.mem_singleton] at hc; subst hc; decide, fun c hc => by simp⟩
      have e0 : asD pr PyData.int ([] : List (Kc × Int)) = [] := rfl
      rw [e0]
      generalize FD [(0, 0)] (fun _ => 1) = G at *
      simp [hne, hm, hkt]
      exact hh
    | cons p l =>
      have hne : neY (.dict (asD pr PyData.int (p :: l))) (.dict []) = some (.bool true) := hne
      obtain ⟨f, hf, e⟩ := hg.field (by simp)
      have hh := h _ f a hf
      simp only [FD] at hh
      rw [← e] at hh
      generalize asD pr PyData.int (p :: l) = dd at *
      simp [hne]
      exact hh
end DL
namespace DL
open PySem PySem.Spec L2
open PyProof.Rows hiding St
/-! the law's hours beside the program's -/
section
variable {ks : List Kc} {hr : Kc → Option Int} {s : Kc} {st : Nat} {P : Nat → Kc → Bool} {fl : List (Kc × List Nat)} {fn : List Qr}
theorem getA_none_key {β : Type} {l : List (Kc × β)} {c : Kc} : getA l c = none ↔ c ∉ l.map (·.1) := by
  rw [key_getA]
  cases getA l c <;> simp
theorem due_key (hP : ∀ n c, P n c = (decide (c ∈ ks) && tim (hr c) ((st : Int) * n))) (h3 : st ≤ 3) (hF : Fl fl (fun c x => x < 61 ∧ Be ks hr s st x c)) (hR : RcOk P s fn) (c : Kc) : c ∈ fl.map (·.1) ↔ c ∈ fn.map (·.1) := by
  constructor
  · intro h
    obtain ⟨l, hl⟩ := getA_key h
    obtain ⟨x, hx⟩ := List.exists_mem_of_ne_nil _ (hF.ne c l hl)
    have : x ∈ getP fl c := by unfold getP; rw [hl]; exact hx
    obtain ⟨_, b⟩ := (hF.fm c x).mp this
    obtain ⟨n, w, _⟩ := (be_iff hP).mp b
    obtain ⟨m, _, hd⟩ := dn_of w
    rw [key_getA, (hR.is c m).mpr hd]
    rfl
  · intro h
    obtain ⟨n, hn⟩ := getA_key h
    have hle := hR.le c n hn
    have hd := (hR.is c n).mp hn
    obtain ⟨b, _⟩ := be_least hP hd
    have hlt : st * n < 61 := Nat.lt_of_le_of_lt (Nat.mul_le_mul h3 hle) (by decide)
    have hm := (hF.fm c (st * n)).mpr ⟨hlt, b⟩
    rw [key_getA]
    unfold getP at hm
    cases hg : getA fl c with
    | none => rw [hg] at hm; cases hm
    | some l => rfl
theorem due_min (hP : ∀ n c, P n c = (decide (c ∈ ks) && tim (hr c) ((st : Int) * n))) (h3 : st ≤ 3) (hF : Fl fl (fun c x => x < 61 ∧ Be ks hr s st x c)) (hR : RcOk P s fn) {c : Kc} {n : Nat} (hn : getA fn c = some n) {l : List Nat} (hl : getA fl c = some l) : minD [nsL l] = some (.int ((st * n : Nat) : Int)) := by
  have hle := hR.le c n hn
  obtain ⟨b, hb⟩ := be_least hP ((hR.is c n).mp hn)
  have hlt : st * n < 61 := Nat.lt_of_le_of_lt (Nat.mul_le_mul h3 hle) (by decide)
  have hg : getP fl c = l := by unfold getP; rw [hl]; rfl
  have hm : st * n ∈ l := by rw [← hg]; exact (hF.fm c _).mpr ⟨hlt, b⟩
  cases l with
  | nil => cases hm
  | cons x xs =>
    rw [enc_nat.min_l, enc_nat.min_eq hm]
    intro y hy
    rw [← hg] at hy
    exact le_nat.mpr ((hb y).mp ((hF.fm c y).mp hy).2).1
end
theorem rd_keys {st : Nat} {fn : List Qr} : (asD pr (hrE st) fn).map (·.1) = (fn.map (·.1)).map pr := by unfold asD; rw [List.map_map, List.map_map]; rfl
theorem ed_keys {fl : List (Kc × List Nat)} : (asD pr nsL fl).map (·.1) = (fl.map (·.1)).map pr := by unfold asD; rw [List.map_map, List.map_map]; rfl
end DL
namespace DL
open PySem PySem.Spec L2
open PyProof.Rows hiding St
/-! where two can be at once -/
abbrev hcD (p : Nat × Kc) : PyData := .tuple [natE p.1, pr p.2]
theorem enc_hc : Enc 2 hcD := enc_nat.pair enc_pr
theorem le_hc {a b : Nat × Kc} (h : a.1 ≤ b.1) (e : a.2 = b.2) : leE hcD a b := by
  obtain ⟨x, c⟩ := a
  obtain ⟨y, d⟩ := b
  cases e
  rw [leE_def]
  intro q
  have : dlt (.tuple [natE y, pr c]) (.tuple [natE x, pr c]) = true := q
  rw [dlt_pair rfl (enc_pr.alk c c), enc_nat.eqv, enc_pr.eqv] at this
  by_cases he : y = x
  · subst he
    simp at this
  · rw [if_neg (by simpa using he)] at this
    have : y < x := lt_nat.mp this
    omega
def minOfH : List (Nat × Kc) → Nat × Kc
  | [] => (0, (0, 0))
  | x :: xs => minE hcD x xs
theorem min_hc {A : List (Nat × Kc)} (h : A ≠ []) : minD [.list (A.map hcD)] = some (hcD (minOfH A)) := by
  cases A with
  | nil => exact absurd rfl h
  | cons x xs => exact enc_hc.min_l
theorem min_same {A L : List (Nat × Kc)} (h1 : ∀ a ∈ A, a ∈ L) (h2 : ∀ l ∈ L, ∃ a ∈ A, leE hcD a l) : A.isEmpty = L.isEmpty ∧ minOfH A = minOfH L := by
  cases A with
  | nil =>
    cases L with
    | nil => exact ⟨rfl, rfl⟩
    | cons l L =>
      obtain ⟨a, ha, _⟩ := h2 l List.mem_cons_self
      cases ha
  | cons a A =>
    cases L with
    | nil => cases h1 a List.mem_cons_self
    | cons l L =>
      refine ⟨rfl, ?_⟩
      obtain ⟨g1, g2⟩ := enc_hc.min_spec a A
      refine (enc_hc.min_eq (h1 _ g1) fun y hy => ?_).symm
      obtain ⟨b, hb, hle⟩ := h2 y hy
      exact dle_trans _ _ _ (g2 b hb) hle
def meetG (hr : Kc → Option Int) (st : Nat) (f1 f2 : List Qr) (c : Kc) : Option (Nat × Kc) := match getA f1 c, getA f2 c with
  | some n1, some n2 => if tim (hr c) ((st * max n1 n2 : Nat) : Int) = true then some (st * max n1 n2, c) else none
  | _, _ => none
def meetA (hr : Kc → Option Int) (st : Nat) (f1 f2 : List Qr) : List (Nat × Kc) := (f1.map (·.1)).filterMap (meetG hr st f1 f2)
def meetL (l1 l2 : List (Kc × List Nat)) (cs : List Kc) : List (Nat × Kc) := cs.flatMap fun c => ((getP l1 c).filter fun x => decide (x ∈ getP l2 c)).map fun x => (x, c)
section
variable {ks : List Kc} {hr : Kc → Option Int} {s1 s2 : Kc} {st : Nat} {P : Nat → Kc → Bool} {l1 l2 : List (Kc × List Nat)} {f1 f2 : List Qr}
theorem meet_same (hP : ∀ n c, P n c = (decide (c ∈ ks) && tim (hr c) ((st : Int) * n))) (h3 : st ≤ 3) (hF1 : Fl l1 (fun c x => x < 61 ∧ Be ks hr s1 st x c)) (hF2 : Fl l2 (fun c x => x < 61 ∧ Be ks hr s2 st x c)) (hR1 : RcOk P s1 f1) (hR2 : RcOk P s2 f2) {cs : List Kc} (hcs : ∀ c, c ∈ cs ↔ c ∈ ks) :
    (meetA hr st f1 f2).isEmpty = (meetL l1 l2 cs).isEmpty ∧ minOfH (meetA hr st f1 f2) = minOfH (meetL l1 l2 cs) := by
  refine min_same (fun a ha => ?_) fun l hl => ?_
  · obtain ⟨c, hc, hg⟩ := List.mem_filterMap.mp ha
    unfold meetG at hg
    cases h1 : getA f1 c with
    | none => rw [h1] at hg; cases hg
    | some n1 =>
      cases h2 : getA f2 c with
      | none => rw [h1, h2] at hg; cases hg
      | some n2 =>
        rw [h1, h2] at hg
        simp only at hg
        split at hg
        · rename_i ht
          cases hg
          have k1 := hR1.le c n1 h1
          have k2 := hR2.le c n2 h2
          obtain ⟨b1, q1⟩ := be_least hP ((hR1.is c n1).mp h1)
          obtain ⟨b2, q2⟩ := be_least hP ((hR2.is c n2).mp h2)
          have hm : max n1 n2 ≤ 16 := by omega
          have hlt : st * max n1 n2 < 61 := Nat.lt_of_le_of_lt (Nat.mul_le_mul h3 hm) (by decide)
          have e1 := (q1 (st * max n1 n2)).mpr ⟨Nat.mul_le_mul_left st (Nat.le_max_left _ _), ht⟩
          have e2 := (q2 (st * max n1 n2)).mpr ⟨Nat.mul_le_mul_left st (Nat.le_max_right _ _), ht⟩
          refine List.mem_flatMap.mpr ⟨c, (hcs c).mpr e1.mem, List.mem_map.mpr ⟨_, List.mem_filter.mpr ⟨(hF1.fm c _).mpr ⟨hlt, e1⟩, decide_eq_true ((hF2.fm c _).mpr ⟨hlt, e2⟩)⟩, rfl⟩⟩
        · cases hg
  · obtain ⟨c, hc, hl⟩ := List.mem_flatMap.mp hl
    obtain ⟨x, hx, rfl⟩ := List.mem_map.mp hl
    obtain ⟨g1, g2⟩ := List.mem_filter.mp hx
    obtain ⟨_, b1⟩ := (hF1.fm c x).mp g1
    obtain ⟨_, b2⟩ := (hF2.fm c x).mp (of_decide_eq_true g2)
    obtain ⟨m1, w1, _⟩ := (be_iff hP).mp b1
    obtain ⟨m2, w2, _⟩ := (be_iff hP).mp b2
    obtain ⟨n1, _, d1⟩ := dn_of w1
    obtain ⟨n2, _, d2⟩ := dn_of w2
    obtain ⟨q1, t1⟩ := ((be_least hP d1).2 x).mp b1
    obtain ⟨q2, _⟩ := ((be_least hP d2).2 x).mp b2
    have hle : st * max n1 n2 ≤ x := by
      rcases Nat.le_total n1 n2 with h | h
      · rw [Nat.max_eq_right h]; exact q2
      · rw [Nat.max_eq_left h]; exact q1
    refine ⟨(st * max n1 n2, c), List.mem_filterMap.mpr ⟨c, ?_, ?_⟩, le_hc hle rfl⟩
    · rw [key_getA, (hR1.is c n1).mpr d1]
      rfl
    · unfold meetG
      rw [(hR1.is c n1).mpr d1, (hR2.is c n2).mpr d2]
      simp only
      rw [if_pos (tim_anti (Int.ofNat_le.mpr hle) t1)]
theorem Fl.len61 (hF1 : Fl l1 (fun c x => x < 61 ∧ Be ks hr s1 st x c)) (c : Kc) : (getP l1 c).length ≤ 61 := by
  have h1 : (getP l1 c).length ≤ (List.range 61).length := (hF1.un c).length_le_of_subset fun x hx => by
    rw [List.mem_range]
    exact ((hF1.fm c x).mp hx).1
  rwa [List.length_range] at h1
end
/-- what is said -/
def meetV (A : List (Nat × Kc)) (k1 k2 : List Kc) : PyData := if A.isEmpty = true then .tuple [.str "no", .tuple ((sortE pr k1).map pr), .tuple ((sortE pr k2).map pr)] else .tuple [.str "yes", natE (minOfH A).1, pr (minOfH A).2]
theorem meeting_ok {G BT HR : PyData} {f1 f2 : List Qr} {st : Nat} {s1 s2 : Kc} {hr : Kc → Option Int} (hl1 : f1.length ≤ 16) (ha : f_alight [G, BT] = some HR) (hr1 : f_reach_hours [G, BT, pr s1, .int (st : Int)] = some (RD st f1)) (hr2 : f_reach_hours [G, BT, pr s2, .int (st : Int)] = some (RD st f2))
    (hti : ∀ (c : Kc) (h : Int), f_is_in_time [HR, pr c, .int h] = some (.bool (tim (hr c) h))) :
    f_meeting [G, BT, .tuple [pr s1, pr s2], .int (st : Int)] = some (meetV (meetA hr st f1 f2) (f1.map (·.1)) (f2.map (·.1))) := by
  suffices H : W (f_meeting [G, BT, .tuple [pr s1, pr s2], .int (st : Int)]) fun q => q = meetV (meetA hr st f1 f2) (f1.map (·.1)) (f2.map (·.1)) from W_out H
  have hz : (sizeLine : Nat) = 16777216 := sizeLine_eq
  unfold f_meeting b_meeting
  rw [w_runP]
  simp [ha]
  refine ⟨by omega, ?_⟩
  refine w_compA (F := pr) (xs := [s1, s2]) (fun s => (f_reach_hours [G, BT, pr s, .int (st : Int)]).getD .none) (fun c hc => ?_) ?_
  · rw [List.mem_cons, List.mem_singleton] at hc
    rcases hc with rfl | rfl
    · simp [hr1]
    · simp [hr2]
  have e1 : (f_reach_hours [G, BT, pr s1, .int (st : Int)]).getD .none = RD st f1 := by rw [hr1]; rfl
  have e2 : (f_reach_hours [G, BT, pr s2, .int (st : Int)]).getD .none = RD st f2 := by rw [hr2]; rfl
  simp only [List.map_cons, List.map_nil, e1, e2]
  have hkl := rd_keys (st := st) (fn := f1)
  have hlen : (asD pr (hrE st) f1).length = f1.length := by unfold asD; rw [List.length_map]
  have hin2 : ∀ c, inD (pr c) (RD st f2) = some (.bool (getA f2 c).isSome) := fun c => inA_pr (f := hrE st) (l := f2) (k := c)
  have hix1 : ∀ c n, getA f1 c = some n → ixD (RD st f1) (pr c) = some (.int ((st * n : Nat) : Int)) := fun c n h => by
    rw [ixA_pr (f := hrE st) (l := f1) (k := c), h]; rfl
  have hix2 : ∀ c n, getA f2 c = some n → ixD (RD st f2) (pr c) = some (.int ((st * n : Nat) : Int)) := fun c n h => by
    rw [ixA_pr (f := hrE st) (l := f2) (k := c), h]; rfl
  have hso1 : sortDk [RD st f1] = some ((sortE pr (f1.map (·.1))).map pr) := sortDk_d enc_pr (dd := asD pr (hrE st) f1) (ks := f1.map (·.1)) rd_keys
  have hso2 : sortDk [RD st f2] = some ((sortE pr (f2.map (·.1))).map pr) := sortDk_d enc_pr (dd := asD pr (hrE st) f2) (ks := f2.map (·.1)) rd_keys
  have hmx : ∀ n1 n2, maxD [.int ((st * n1 : Nat) : Int), .int ((st * n2 : Nat) : Int)] = some (natE (st * max n1 n2)) := fun n1 n2 => by
    rw [maxD_ii]
    congr 2
    rcases Nat.le_total n1 n2 with h | h
    · rw [Nat.max_eq_right h, Int.max_eq_right (Int.ofNat_le.mpr (Nat.mul_le_mul_left st h))]
    · rw [Nat.max_eq_left h, Int.max_eq_left (Int.ofNat_le.mpr (Nat.mul_le_mul_left st h))]
  generalize hX2 : RD st f2 = X2 at *
  simp
  unfold b_meeting_c1
  simp [hlen]
  refine ⟨by omega, ?_⟩
  rw [hkl]
  refine forL_ix (F := pr) (fun j ρ S => S = [] ∧ j ≤ 16 ∧ ρ = [some (.p G), some (.p BT), some (.p (.tuple [pr s1, pr s2])), some (.p (.int (st : Int))), some (.p HR), some (.p (RD st f1)), some (.p X2), some (.o (.list ((((f1.map (·.1)).take j).filterMap (meetG hr st f1 f2)).map hcD))), none, none, none]) (fun j hj ρ S hi => ?_) (fun ρ S hi => ?_) ⟨rfl, by omega, rfl⟩
  · obtain ⟨rfl, hj16, rfl⟩ := hi
    have hjl : j < (f1.map (·.1)).length := hj
    have hj2 : j < 16 := by rw [List.length_map] at hjl; omega
    have hstep : ((f1.map (·.1)).take (j + 1)).filterMap (meetG hr st f1 f2) = ((f1.map (·.1)).take j).filterMap (meetG hr st f1 f2) ++ (meetG hr st f1 f2 (f1.map (·.1))[j]).toList := by
      rw [List.take_succ_eq_append_getElem hj, List.filterMap_append]
      congr 1
    rw [hstep]
    have hAl : (((f1.map (·.1)).take j).filterMap (meetG hr st f1 f2)).length ≤ 16 := Nat.le_trans (List.length_filterMap_le _ _) (by rw [List.length_take]; omega)
    obtain ⟨n1, hn1⟩ := getA_key (List.getElem_mem hj)
    generalize ((f1.map (·.1)).take j).filterMap (meetG hr st f1 f2) = A at *
    generalize (f1.map (·.1))[j] = c at *
    have hi2 := hin2 c
    have hx1 := hix1 c n1 hn1
    have hg : meetG hr st f1 f2 c = match getA f2 c with | some n2 => if tim (hr c) ((st * max n1 n2 : Nat) : Int) = true then some (st * max n1 n2, c) else none | none => none := by
      unfold meetG
      rw [hn1]
      cases getA f2 c <;> rfl
    rw [hg]
    cases h2 : getA f2 c with
    | none =>
      rw [h2] at hi2
      have hi2 : inD (pr c) X2 = some (.bool false) := hi2
      generalize RD st f1 = X1 at *
      simp [hi2]
      omega
    | some n2 =>
      dsimp only
      rw [h2] at hi2
      have hi2 : inD (pr c) X2 = some (.bool true) := hi2
      have hx2 := hix2 c n2 h2
      have hm := hmx n1 n2
      have ht := hti c ((st * max n1 n2 : Nat) : Int)
      have hhc : hcD (st * max n1 n2, c) = .tuple [natE (st * max n1 n2), pr c] := rfl
      have ht : f_is_in_time [HR, pr c, natE (st * max n1 n2)] = some (.bool (tim (hr c) ((st * max n1 n2 : Nat) : Int))) := ht
      generalize RD st f1 = X1 at *
      generalize ((st * n1 : Nat) : Int) = v1 at *
      generalize ((st * n2 : Nat) : Int) = v2 at *
      generalize hN : natE (st * max n1 n2) = N at *
      cases hq : tim (hr c) ((st * max n1 n2 : Nat) : Int) with
      | true =>
        rw [hq] at ht
        simp only [if_true]
        simp [hi2, hx1, hx2, hm, ht, hhc]
        omega
      | false =>
        rw [hq] at ht
        simp only [Bool.false_eq_true, if_false]
        simp [hi2, hx1, hx2, hm, ht]
        omega
  · obtain ⟨rfl, hj16, rfl⟩ := hi
    rw [List.take_length]
    have hAe : ((f1.map (·.1)).filterMap (meetG hr st f1 f2)) = meetA hr st f1 f2 := rfl
    rw [hAe]
    have hl0 := enc_hc.l0 (xs := meetA hr st f1 f2)
    unfold meetV
    cases he : (meetA hr st f1 f2).isEmpty with
    | true =>
      rw [he] at hl0
      generalize meetA hr st f1 f2 = A at *
      generalize RD st f1 = X1 at *
      generalize sortE pr (f1.map (·.1)) = K1 at *
      generalize sortE pr (f2.map (·.1)) = K2 at *
      simp [hl0, hso1, hso2]
    | false =>
      rw [he] at hl0
      have hmin := min_hc (A := meetA hr st f1 f2) (fun z => by rw [z] at he; cases he)
      generalize meetA hr st f1 f2 = A at *
      generalize RD st f1 = X1 at *
      generalize minOfH A = M at *
      have hhc : hcD M = .tuple [natE M.1, pr M.2] := rfl
      simp [hl0, hmin, hhc]
      omega
end DL
namespace DL
open PySem PySem.Spec L2
open PyProof.Rows hiding St
theorem okS_meet {A : List (Nat × Kc)} {k1 k2 : List Kc} (h1 : k1.length ≤ 100) (h2 : k2.length ≤ 100) : okS 6 (meetV A k1 k2) = true := by
  have hs : ∀ k : List Kc, k.length ≤ 100 → okS 5 (.tuple ((sortE pr k).map pr)) = true := fun k h => by
    show (decide (((sortE pr k).map pr).length ≤ 100000) && ((sortE pr k).map pr).all (okS 4)) = true
    rw [List.length_map, sortE_len, decide_eq_true (by omega), Bool.true_and, List.all_map, List.all_eq_true]
    exact fun _ _ => rfl
  unfold meetV
  split
  · show (decide (3 ≤ 100000) && [PyData.str "no", .tuple ((sortE pr k1).map pr), .tuple ((sortE pr k2).map pr)].all (okS 5)) = true
    simp only [List.all_cons, List.all_nil, hs k1 h1, hs k2 h2]
    rfl
  · rfl
theorem c1_ok {ns' ds : List Int} {a : Nat} {ks cs : List Kc} {f : Kc → Int} {B1 : PyData} {l1 l2 : List (Kc × List Nat)} {f1 f2 : List Qr} {st : Nat} {s1 s2 : Kc} {hr : Kc → Option Int} (hcl : cs.length ≤ 16) (hcp : dictC [FD ks f] = some (FD ks f)) (hm : f_meeting [FD ks f, B1, .tuple [pr s1, pr s2], .int (st : Int)] = some (meetV (meetA hr st f1 f2) (f1.map (·.1)) (f2.map (·.1))))
    (hsame : (meetA hr st f1 f2).isEmpty = (meetL l1 l2 cs).isEmpty ∧ minOfH (meetA hr st f1 f2) = minOfH (meetL l1 l2 cs)) (hk1 : sortE pr (f1.map (·.1)) = sortE pr (l1.map (·.1))) (hk2 : sortE pr (f2.map (·.1)) = sortE pr (l2.map (·.1)))
    (hg1 : ∀ c, (getP l1 c).length ≤ 61) (hf1 : f1.length ≤ 16) (hf2 : f2.length ≤ 16) {y2 y8 : Option D} {Q : Out → Prop}
    (hQ : ∀ y11 y12 y13, Q (.nx [some (.f (.list (ns'.map .int))), some (.c 0), y2, some (.p (FD ks f)), some (.p (.list (cs.map pr))), some (.p B1), some (.p (.tuple [pr s1, pr s2])), some (.p (.int (st : Int))), y8, some (.p (ED l1)), some (.p (ED l2)), y11, y12, y13, none, none, none] [some (.d (Wd ds a))])) :
    W (b_law_c1 [some (.f (.list (ns'.map .int))), some (.c 0), y2, some (.p (FD ks f)), some (.p (.list (cs.map pr))), some (.p B1), some (.p (.tuple [pr s1, pr s2])), some (.p (.int (st : Int))), y8, some (.p (ED l1)), some (.p (ED l2)), none, none, none, none, none, none] [some (.d (Wd ds a))]) Q := by
  unfold b_law_c1
  have hz : (sizeLine : Nat) = 16777216 := sizeLine_eq
  have hal := same_ok (okS_meet (A := meetA hr st f1 f2) (k1 := f1.map (·.1)) (k2 := f2.map (·.1)) (by rw [List.length_map]; omega) (by rw [List.length_map]; omega))
  have hge1 := fun c => get_ed (fl := l1) (c := c)
  have hge2 := fun c => get_ed (fl := l2) (c := c)
  have hso1 : sortDk [ED l1] = some ((sortE pr (l1.map (·.1))).map pr) := sortDk_d enc_pr (dd := asD pr nsL l1) (ks := l1.map (·.1)) ed_keys
  have hso2 : sortDk [ED l2] = some ((sortE pr (l2.map (·.1))).map pr) := sortDk_d enc_pr (dd := asD pr nsL l2) (ks := l2.map (·.1)) ed_keys
  have hd1 : isDD (ED l1) = true := rfl
  have hd2 : isDD (ED l2) = true := rfl
  have hmv : meetV (meetA hr st f1 f2) (f1.map (·.1)) (f2.map (·.1)) = if (meetL l1 l2 cs).isEmpty = true then .tuple [.str "no", .tuple ((sortE pr (l1.map (·.1))).map pr), .tuple ((sortE pr (l2.map (·.1))).map pr)] else .tuple [.str "yes", natE (minOfH (meetL l1 l2 cs)).1, pr (minOfH (meetL l1 l2 cs)).2] := by
    unfold meetV
    rw [hsame.1, hsame.2, hk1, hk2]
  rw [hmv] at hm hal
  generalize FD ks f = G at *
  generalize hE1 : ED l1 = E1 at *
  generalize hE2 : ED l2 = E2 at *
  simp
  refine ⟨by omega, ?_⟩
  refine forL_ix (F := pr) (fun j ρ S => S = [some (.d (Wd ds a))] ∧ j ≤ cs.length ∧ ρ = [some (.f (.list (ns'.map .int))), some (.c 0), y2, some (.p G), some (.p (.list (cs.map pr))), some (.p B1), some (.p (.tuple [pr s1, pr s2])), some (.p (.int (st : Int))), y8, some (.p E1), some (.p E2), some (.p (.list ((meetL l1 l2 (cs.take j)).map hcD))), none, none, none, none, none] ∧ (meetL l1 l2 (cs.take j)).length ≤ 61 * j) (fun j hj ρ S hi => ?_) (fun ρ S hi => ?_) ⟨rfl, Nat.zero_le _, rfl, by simp [meetL]⟩
  · obtain ⟨rfl, hjl, rfl, hll⟩ := hi
    have hstep : meetL l1 l2 (cs.take (j + 1)) = meetL l1 l2 (cs.take j) ++ ((getP l1 cs[j]).filter fun x => decide (x ∈ getP l2 cs[j])).map fun x => (x, cs[j]) := by
      unfold meetL
      rw [List.take_succ_eq_append_getElem hj, List.flatMap_append]
      simp
    rw [hstep]
    generalize meetL l1 l2 (cs.take j) = L at *
    generalize cs[j] = c at *
    have hg := hg1 c
    have he1 := hge1 c
    have he2 := hge2 c
    have hmem : ∀ x : Nat, inD (natE x) (nsL (getP l2 c)) = some (.bool (decide (x ∈ getP l2 c))) := fun x => enc_nat.mem_l (xs := getP l2 c) (x := x)
    generalize getP l1 c = p1 at *
    generalize getP l2 c = p2 at *
    simp [hd1, he1]
    refine ⟨by omega, ?_⟩
    refine w_compL (F := natE) (fun x => decide (x ∈ p2)) (fun x => hcD (x, c)) rfl (fun x hx => ?_) ?_
    · have hm2 := hmem x
      have hhc : hcD (x, c) = .tuple [natE x, pr c] := rfl
      generalize natE x = X at *
      by_cases hx2 : x ∈ p2
      · simp only [hx2, decide_true] at hm2
        simp [hd2, he2, hm2, hx2, hhc]
      · simp only [hx2, decide_false] at hm2
        simp [hd2, he2, hm2, hx2]
    · have hfl := List.length_filter_le (fun x => decide (x ∈ p2)) p1
      generalize p1.filter (fun x => decide (x ∈ p2)) = pf at *
      simp
      omega
  · obtain ⟨rfl, hjl, rfl, hll⟩ := hi
    rw [List.take_length] at hll ⊢
    have hl0 := enc_hc.l0 (xs := meetL l1 l2 cs)
    cases he : (meetL l1 l2 cs).isEmpty with
    | true =>
      rw [he] at hl0
      simp only [he, if_true] at hm hal
      generalize meetL l1 l2 cs = L at *
      generalize sortE pr (l1.map (·.1)) = K1 at *
      generalize sortE pr (l2.map (·.1)) = K2 at *
      simp [hl0, hso1, hso2, hcp, hm, hal]
      exact hQ _ _ _
    | false =>
      rw [he] at hl0
      have hmin := min_hc (A := meetL l1 l2 cs) (fun z => by rw [z] at he; cases he)
      simp only [he, Bool.false_eq_true, if_false] at hm hal
      generalize meetL l1 l2 cs = L at *
      generalize minOfH L = M at *
      have hhc : hcD M = .tuple [natE M.1, pr M.2] := rfl
      generalize natE M.1 = N at *
      simp [hl0, hmin, hhc, hcp, hm, hal]
      exact ⟨by omega, hQ _ _ _⟩
theorem law_true : lawOk f_law := by
  intro ns' hn
  suffices H : W (f_law [.f (.list (ns'.map .int))] []) fun q => ∃ S, q = (.p (.bool true), S) by
    obtain ⟨_, e, S, rfl⟩ := H
    exact ⟨S, e⟩
  obtain ⟨ds, hd⟩ := draws_ok (m := 500) (by decide) (by decide) ns' hn []
  have hz : (sizeLine : Nat) = 16777216 := sizeLine_eq
  unfold f_law b_law
  simp [hd]
  refine forL_rng (fun k ρ S => Stw ds S ∧ ρ = [some (.f (.list (ns'.map .int))), some (.c 0), none, none, none, none, none, none, none, none, none, none, none, none, none, none, none]) (fun x hx ρ S hi => ?_) (fun ρ S hi => ?_) ⟨⟨0, rfl⟩, rfl⟩
  · obtain ⟨⟨a, rfl⟩, rfl⟩ := hi
    simp
    refine w_field2 fun ks f a2 hfd => ?_
    have hl := hfd.len
    have hso := sortDk_d enc_pr (dd := asD pr PyData.int (tab ks f)) (ks := ks) fd_keys
    have hcm : ∀ c, c ∈ sortE pr ks ↔ c ∈ ks := fun c => sortE_mem
    have hcl : (sortE pr ks).length ≤ 16 := by rw [sortE_len]; omega
    have hcne : (sortE pr ks).map pr ≠ [] := fun z => by
      obtain ⟨c, hc⟩ := List.exists_mem_of_ne_nil _ hfd.ne
      have : pr c ∈ (sortE pr ks).map pr := List.mem_map.mpr ⟨c, (hcm c).mpr hc, rfl⟩
      rw [z] at this
      cases this
    simp [hso]
    refine w_pick_l (by simp) fun d a3 hd => ?_
    obtain ⟨m, hm, rfl⟩ : ∃ m : Nat, m ≤ 3 ∧ d = .int (m : Int) := by
      simp at hd
      rcases hd with rfl | rfl | rfl | rfl
      · exact ⟨0, by omega, rfl⟩
      · exact ⟨1, by omega, rfl⟩
      · exact ⟨2, by omega, rfl⟩
      · exact ⟨3, by omega, rfl⟩
    simp
    rw [rng_0]
    refine ⟨by omega, ?_⟩
    refine w_compW (G := pr) (fun _ : Kc => True) ⟨_, rfl⟩ (fun k hk a => ?_) fun zs a4 hzl _ => ?_
    · simp
      refine w_pick_l hcne fun x a8 hx => ?_
      obtain ⟨c, hc, rfl⟩ := List.mem_map.mp hx
      simp
      exact ⟨⟨c.1, c.2, rfl⟩, _, rfl⟩
    rw [List.length_range] at hzl
    have hset := enc_pr.soset_l (setB_pr (xs := zs) (by omega))
    have hBl : (usetE pr zs).length ≤ 3 := Nat.le_trans uset_len (by omega)
    generalize usetE pr zs = B at *
    simp [hset]
    clear hset
    refine w_pick_l hcne fun x a7 hx => ?_
    obtain ⟨s1, hs1, rfl⟩ := List.mem_map.mp hx
    have hs1 := (hcm s1).mp hs1
    simp
    refine w_pick_l hcne fun x a7 hx => ?_
    obtain ⟨s2, hs2, rfl⟩ := List.mem_map.mp hx
    have hs2 := (hcm s2).mp hs2
    simp
    refine w_next (by omega) fun r4 a8 r40 r41 => ?_
    obtain ⟨st, hst, hst1, hst3⟩ : ∃ st : Nat, 1 + r4 = (st : Int) ∧ 1 ≤ st ∧ st ≤ 3 := ⟨(1 + r4).toNat, by omega, by omega, by omega⟩
    obtain ⟨fnd, hF, he, ha⟩ := alight_ok (ks := ks) (B := B) (f := f) (by omega) (by omega) hfd.val
    obtain ⟨l, hbf, hla⟩ := lalight_ok (ks := ks) (B := B) (f := f) (by omega) (by omega)
    have hg := hbf.fin hF (by have := hF.lenk; omega)
    have hcp := copy_fd hfd.nd hfd.bd (f := f)
    have hin := fun c => fd_in (ks := ks) (f := f) (c := c)
    obtain ⟨hr, hhr⟩ : ∃ hr : Kc → Option Int, ∀ c, hr c = (getA fnd c).map (·.1) := ⟨_, fun _ => rfl⟩
    have hti : ∀ (c : Kc) (h : Int), f_is_in_time [FD (hrK fnd) (hrF fnd), pr c, .int h] = some (.bool (tim (hr c) h)) := fun c h => by
      rw [hhr]
      have := intime_ok (l := tab (hrK fnd) (hrF fnd)) (c := c) (h := h)
      rw [hr_get] at this
      exact this
    have hlt : ∀ (c : Kc) (h : Int), f__law_safe [HD l, pr c, .int h] = some (.bool (tim (hr c) h)) := fun c h => by
      rw [hhr]
      have := lsafe_ok (l := l) (c := c) (h := h)
      rw [hg] at this
      exact this
    have hst0 : (0 : Int) ≤ (st : Int) := by omega
    have hanti := stp_anti (ks := ks) (fnd := fnd) hst0
    have hP : ∀ n c, stp ks fnd (st : Int) n c = (decide (c ∈ ks) && tim (hr c) ((st : Int) * n)) := fun n c => by rw [hhr]; rfl
    generalize stp ks fnd (st : Int) = P at *
    generalize FD (hrK fnd) (hrF fnd) = HR at *
    generalize HD l = HL at *
    obtain ⟨f1, hre1, hR1⟩ := reach_ok (s := s1) (by omega) (by omega) ha hin hti hP hanti
    obtain ⟨f2, hre2, hR2⟩ := reach_ok (s := s2) (by omega) (by omega) ha hin hti hP hanti
    obtain ⟨l1, hlh1, hFl1⟩ := lhours_ok (s := s1) hst1 (by omega) hin hlt
    obtain ⟨l2, hlh2, hFl2⟩ := lhours_ok (s := s2) hst1 (by omega) hin hlt
    have hmt := meeting_ok hR1.len ha hre1 hre2 hti
    have hsame := meet_same hP hst3 hFl1 hFl2 hR1 hR2 hcm
    have hse1 : sortE pr (f1.map (·.1)) = sortE pr (l1.map (·.1)) := enc_pr.sort_congr ((List.perm_ext_iff_of_nodup hR1.nd hFl1.nd).mpr fun c => (due_key hP hst3 hFl1 hR1 c).symm)
    have hse2 : sortE pr (f2.map (·.1)) = sortE pr (l2.map (·.1)) := enc_pr.sort_congr ((List.perm_ext_iff_of_nodup hR2.nd hFl2.nd).mpr fun c => (due_key hP hst3 hFl2 hR2 c).symm)
    have hc1 := fun y2 y8 (Q : Out → Prop) => c1_ok (ns' := ns') (ds := ds) (a := a8) (y2 := y2) (y8 := y8) (Q := Q) hcl hcp hmt hsame hse1 hse2 hFl1.len61 hR1.len hR2.len
    have e1 : (f__law_hours [FD ks f, HL, pr s1, .int (st : Int), .int 60]).getD .none = ED l1 := by rw [hlh1]; rfl
    have e2 : (f__law_hours [FD ks f, HL, pr s2, .int (st : Int), .int 60]).getD .none = ED l2 := by rw [hlh2]; rfl
    generalize FD ks f = G at *
    simp [hst, hla]
    refine ⟨by omega, ?_⟩
    refine w_compA (F := pr) (xs := [s1, s2]) (fun s => (f__law_hours [G, HL, pr s, .int (st : Int), .int 60]).getD .none) (fun c hc => ?_) ?_
    · rw [List.mem_cons, List.mem_singleton] at hc
      rcases hc with rfl | rfl
      · simp [hlh1]
      · simp [hlh2]
    simp only [List.map_cons, List.map_nil, e1, e2]
    generalize ED l1 = E1 at *
    generalize ED l2 = E2 at *
    simp
    refine hc1 _ _ _ fun y11 y12 y13 => ?_
    simp
    exact ⟨_, rfl⟩
  · simp
end DL
open PySem PySem.W PyProof.Rows
set_option maxHeartbeats 0 in
theorem PySem.Challenge.cw_forewarned_k94_meeting_ahead_of_the_fire_holds : PySem.Challenge.rw_forewarned_k94_meeting_ahead_of_the_fire.Holds := by
  w_on; o_law; k_head; (case hw => w_witness2)
  k_fill
  refine L2.walk_of (l := PySem.Challenge.rw_forewarned_k94_meeting_ahead_of_the_fire) (n := 63) (k := 7) (x := "script") (CX := fun _ => L2.CX0) (sp := fun w => DL.spLaw _) rfl (by decide) rfl ⟨rfl, by decide, by decide⟩ (fun w h Y => PySem.W.kIn_of Y) ?F (fun _ _ a ns hl _ hS => ⟨a, ns, rfl, hS, hl, fun _ => rfl⟩) (fun _ _ _ _ _ h => h)
  case F =>
    intro w mg fa h KX G hmg
    refine' DL.all_mk KX G hmg DL.law_true ?a0 ?l0 ?c0 ?k0 ?a1 ?l1 ?c1 ?k1 ?a2 ?l2 ?c2 ?k2 ?a3 ?l3 ?c3 ?k3 ?a4 ?l4 ?c4 ?k4 ?a5 ?l5 ?c5 ?k5 ?a6 ?l6 ?c6 ?k6 ?a7 ?l7 ?c7 ?k7 ?a8 ?l8 ?c8 ?k8 ?a9 ?l9 ?c9 ?k9 ?a10 ?l10 ?c10 ?k10 ?a11 ?l11 ?c11 ?k11 ?a12 ?l12 ?c12 ?k12 ?a13 ?l13 ?c13 ?k13 ?a14 ?l14 ?c14 ?k14 ?a15 ?l15 ?c15 ?k15 ?z_abs ?z_bool ?z_dict ?z_int ?z_isinstance ?z_len ?z_max ?z_min ?z_range ?z_set ?z_sorted ?z_str ?z_tuple
    (case a0 => k_is); (case l0 => k_is); (case c0 => k_is); (case k0 => k_is); (case a1 => k_is); (case l1 => k_is); (case c1 => k_is); (case k1 => k_is); (case a2 => k_is); (case l2 => k_is); (case c2 => k_is); (case k2 => k_is); (case a3 => k_is); (case l3 => k_is); (case c3 => k_is); (case k3 => k_is); (case a4 => k_is); (case l4 => k_is); (case c4 => k_is); (case k4 => k_is); (case a5 => k_is); (case l5 => k_is); (case c5 => k_is); (case k5 => k_is); (case a6 => k_is); (case l6 => k_is); (case c6 => k_is); (case k6 => k_is); (case a7 => k_is); (case l7 => k_is); (case c7 => k_is); (case k7 => k_is); (case a8 => k_is); (case l8 => k_is); (case c8 => k_is); (case k8 => k_is); (case a9 => k_is); (case l9 => k_is); (case c9 => k_is); (case k9 => k_is); (case a10 => k_is); (case l10 => k_is); (case c10 => k_is); (case k10 => k_is); (case a11 => k_is); (case l11 => k_is); (case c11 => k_is); (case k11 => k_is); (case a12 => k_is); (case l12 => k_is); (case c12 => k_is); (case k12 => k_is); (case a13 => k_is); (case l13 => k_is); (case c13 => k_is); (case k13 => k_is); (case a14 => k_is); (case l14 => k_is); (case c14 => k_is); (case k14 => k_is); (case a15 => k_is); (case l15 => k_is); (case c15 => k_is); (case k15 => k_is); (case z_abs => k_is); (case z_bool => k_is); (case z_dict => k_is); (case z_int => k_is); (case z_isinstance => k_is); (case z_len => k_is); (case z_max => k_is); (case z_min => k_is); (case z_range => k_is); (case z_set => k_is); (case z_sorted => k_is); (case z_str => k_is); (case z_tuple => k_is)
