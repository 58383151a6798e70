import PyProof.Rows.All
import HandS.ForMost
import HandS.Deep
import HandS.TupAny
import HandS.TupMul
import HandS.TupLen
import HandS.Flow
import HandS.Style
import HandS.Conv
import HandS.Zip
import HandS.Walk
import KE.SortData
import KE.DataEq
import KE.DataCmp
import KE.DataMinMax
import KE.DataFind
import KE.DataIsa
import KE.DataAny
import KE.Datum
import KE.DatumMore
import KE.KTupSum
import HandS.IsInst
import HandS.ExcOwn
import HandS.ExcValue
import HandS.TupSets
import HandS.SetFor
import HandS.Set
import PySem.Challenge.RW_forewarned_k86_reports_that_lie_near
set_option Elab.async false
set_option linter.all false
set_option maxRecDepth 100000
namespace DL
open PySem PySem.Spec L2

abbrev AdP := Addr → Prop

def keyD : Key → PyData
  | .inl i => .int i
  | .inr x => .str x
def keyT (ks : List Key) : PyData := .tuple (ks.map keyD)

mutual
inductive At (H : Hp) (L : AdP) : V → PyData → Prop
  | non : At H L .non .none
  | bl (b : Bool) : At H L (.bl b) (.bool b)
  | int (i : Int) : At H L (.int i) (.int i)
  | str (x : Str) : At H L (.str x) (.str x)
  | lst {a : Addr} {xs : List V} {ds : List PyData} : ¬ L a → H a = some (.lst xs) → AtL H L xs ds → At H L (.ref a) (.list ds)
  | tup {a : Addr} {xs : List V} {ds : List PyData} : ¬ L a → H a = some (.tup xs) → AtL H L xs ds → At H L (.ref a) (.tuple ds)
  | dK {a : Addr} {kvs : List (Key × V)} {dd : List (PyData × PyData)} : ¬ L a → Rd H a (.dK kvs) → dd.map (·.1) = kvs.map (fun p => keyD p.1) → AtL H L (kvs.map (·.2)) (dd.map (·.2)) → At H L (.ref a) (.dict dd)
  | dT {a : Addr} {kvs : List (List Key × V)} {dd : List (PyData × PyData)} : ¬ L a → Rd H a (.dT kvs) → dd.map (·.1) = kvs.map (fun p => keyT p.1) → AtL H L (kvs.map (·.2)) (dd.map (·.2)) → At H L (.ref a) (.dict dd)
inductive AtL (H : Hp) (L : AdP) : List V → List PyData → Prop
  | nil : AtL H L [] []
  | cons {v : V} {vs : List V} {d : PyData} {ds : List PyData} : At H L v d → AtL H L vs ds → AtL H L (v :: vs) (d :: ds)
end

/-- same at a, up to a lock -/
def SmAt (H H' : Hp) (a : Addr) : Prop := (∀ xs, H a = some (.lst xs) → H' a = some (.lst xs)) ∧ (∀ xs, H a = some (.tup xs) → H' a = some (.tup xs)) ∧ (∀ u, Rd H a u → Rd H' a u) ∧ ∀ o u, H a = some (.frz o u) → H' a = some (.frz o u)
theorem SmAt.of {H H' : Hp} {a : Addr} (h : ∀ o, H a = some o → H' a = some o) : SmAt H H' a :=
  ⟨fun xs q => h _ q, fun xs q => h _ q, fun u q => q.elim (fun z => .inl (h _ z)) fun ⟨o, z⟩ => .inr ⟨o, h _ z⟩, fun o u q => h _ q⟩
/-- .. also where a lock is taken off -/
def SmW (H H' : Hp) (a : Addr) : Prop := (∀ xs, H a = some (.lst xs) → H' a = some (.lst xs)) ∧ (∀ xs, H a = some (.tup xs) → H' a = some (.tup xs)) ∧ (∀ kvs, Rd H a (.dK kvs) → Rd H' a (.dK kvs)) ∧ ∀ kvs, Rd H a (.dT kvs) → Rd H' a (.dT kvs)
def TrW (H : Hp) (L : AdP) (H' : Hp) (L' : AdP) : Prop := ∀ a, H a ≠ none → ¬ L a → SmW H H' a ∧ ¬ L' a
def Tr (H : Hp) (L : AdP) (H' : Hp) (L' : AdP) : Prop := ∀ a, H a ≠ none → ¬ L a → SmAt H H' a ∧ ¬ L' a
theorem Tr.refl {H : Hp} {L : AdP} : Tr H L H L := fun a _ h => ⟨.of fun _ q => q, h⟩
theorem SmAt.trans {H H1 H2 : Hp} {a : Addr} (x : SmAt H H1 a) (y : SmAt H1 H2 a) : SmAt H H2 a := ⟨fun xs q => y.1 xs (x.1 xs q), fun xs q => y.2.1 xs (x.2.1 xs q), fun u q => y.2.2.1 u (x.2.2.1 u q), fun o u q => y.2.2.2 o u (x.2.2.2 o u q)⟩
theorem rd_some {H : Hp} {a : Addr} {u : HO} (h : Rd H a u) : H a ≠ none := by
  rcases h with h | ⟨o, h⟩ <;> rw [h] <;> exact fun z => nomatch z

theorem SmAt.there {H H1 : Hp} {a : Addr} (x : SmAt H H1 a) (h : H a ≠ none) : H1 a ≠ none := by
  cases q : H a with
  | none => exact absurd q h
  | some o => exact rd_some (x.2.2.1 o (.inl q))
theorem Tr.trans {H H1 H2 : Hp} {L L1 L2 : AdP} (x : Tr H L H1 L1) (y : Tr H1 L1 H2 L2) : Tr H L H2 L2 := fun a h n => by
  obtain ⟨s1, n1⟩ := x a h n
  obtain ⟨s2, n2⟩ := y a (s1.there h) n1
  exact ⟨s1.trans s2, n2⟩
mutual
theorem At.trW {H H' : Hp} {L L' : AdP} (t : TrW H L H' L') : ∀ {v : V} (d : PyData), At H L v d → At H' L' v d
  | _, .none, h => by cases h; exact .non
  | _, .bool b, h => by cases h; exact .bl b
  | _, .int i, h => by cases h; exact .int i
  | _, .str x, h => by cases h; exact .str x
  | _, .list ds, h => by
    cases h with
    | lst n e r =>
      have q := t _ (by rw [e]; exact fun z => nomatch z) n
      exact .lst q.2 (q.1.1 _ e) (AtL.trW t ds r)
  | _, .tuple ds, h => by
    cases h with
    | tup n e r =>
      have q := t _ (by rw [e]; exact fun z => nomatch z) n
      exact .tup q.2 (q.1.2.1 _ e) (AtL.trW t ds r)
  | _, .dict dd, h => by
    cases h with
    | dK n e k r =>
      have q := t _ (rd_some e) n
      exact .dK q.2 (q.1.2.2.1 _ e) k (AtL.trW2 t dd r)
    | dT n e k r =>
      have q := t _ (rd_some e) n
      exact .dT q.2 (q.1.2.2.2 _ e) k (AtL.trW2 t dd r)
theorem AtL.trW {H H' : Hp} {L L' : AdP} (t : TrW H L H' L') : ∀ {vs : List V} (ds : List PyData), AtL H L vs ds → AtL H' L' vs ds
  | _, [], h => by cases h; exact .nil
  | _, d :: ds, h => by
    cases h with
    | cons a b => exact .cons (At.trW t d a) (AtL.trW t ds b)
theorem AtL.trW2 {H H' : Hp} {L L' : AdP} (t : TrW H L H' L') : ∀ {vs : List V} (dd : List (PyData × PyData)), AtL H L vs (dd.map (·.2)) → AtL H' L' vs (dd.map (·.2))
  | _, [], h => by cases h; exact .nil
  | _, (k, d) :: dd, h => by
    cases h with
    | cons a b => exact .cons (At.trW t d a) (AtL.trW2 t dd b)
end

theorem Tr.w {H H' : Hp} {L L' : AdP} (t : Tr H L H' L') : TrW H L H' L' := fun a h n => let ⟨s, n'⟩ := t a h n; ⟨⟨s.1, s.2.1, fun kvs q => s.2.2.1 _ q, fun kvs q => s.2.2.1 _ q⟩, n'⟩
theorem At.tr {H H' : Hp} {L L' : AdP} (t : Tr H L H' L') {v : V} (d : PyData) (h : At H L v d) : At H' L' v d := At.trW t.w d h
theorem AtL.tr {H H' : Hp} {L L' : AdP} (t : Tr H L H' L') {vs : List V} (ds : List PyData) (h : AtL H L vs ds) : AtL H' L' vs ds := AtL.trW t.w ds h
theorem AtL.tr2 {H H' : Hp} {L L' : AdP} (t : Tr H L H' L') {vs : List V} (dd : List (PyData × PyData)) (h : AtL H L vs (dd.map (·.2))) : AtL H' L' vs (dd.map (·.2)) := AtL.trW2 t.w dd h

theorem AtL.length {H : Hp} {L : AdP} : ∀ {vs : List V} {ds : List PyData}, AtL H L vs ds → vs.length = ds.length
  | _, _, .nil => rfl
  | _, _, .cons _ t => congrArg (· + 1) (AtL.length t)
theorem AtL.get {H : Hp} {L : AdP} : ∀ {vs : List V} {ds : List PyData} {i : Nat} {d : PyData}, AtL H L vs ds → ds[i]? = some d → ∃ v, vs[i]? = some v ∧ At H L v d
  | _, _, _, _, .nil, e => by simp at e
  | _, _, 0, _, .cons r _, e => by simp at e; subst e; exact ⟨_, rfl, r⟩
  | _, _, i + 1, x, .cons _ t, e => by
    obtain ⟨u, h1, h2⟩ := AtL.get (i := i) t (by simpa using e)
    exact ⟨u, by simpa using h1, h2⟩
theorem AtL.get' {H : Hp} {L : AdP} : ∀ {vs : List V} {ds : List PyData} {i : Nat} {v : V}, AtL H L vs ds → vs[i]? = some v → ∃ d, ds[i]? = some d ∧ At H L v d
  | _, _, _, _, .nil, e => by simp at e
  | _, _, 0, _, .cons r _, e => by simp at e; subst e; exact ⟨_, rfl, r⟩
  | _, _, i + 1, x, .cons _ t, e => by
    obtain ⟨u, h1, h2⟩ := AtL.get' (i := i) t (by simpa using e)
    exact ⟨u, by simpa using h1, h2⟩
theorem AtL.append {H : Hp} {L : AdP} : ∀ {xs ys : List V} {us ws : List PyData}, AtL H L xs us → AtL H L ys ws → AtL H L (xs ++ ys) (us ++ ws)
  | _, _, _, _, .nil, s => s
  | _, _, _, _, .cons r t, s => .cons r (AtL.append t s)
theorem AtL.set {H : Hp} {L : AdP} {x : V} {u : PyData} (r : At H L x u) : ∀ {xs : List V} {us : List PyData} (i : Nat), AtL H L xs us → AtL H L (xs.set i x) (us.set i u)
  | _, _, _, .nil => .nil
  | _, _, 0, .cons _ t => .cons r t
  | _, _, i + 1, .cons q t => .cons q (AtL.set r i t)
theorem AtL.take {H : Hp} {L : AdP} : ∀ {xs : List V} {us : List PyData} (n : Nat), AtL H L xs us → AtL H L (xs.take n) (us.take n)
  | _, _, 0, _ => .nil
  | _, _, _ + 1, .nil => .nil
  | _, _, n + 1, .cons r t => .cons r (AtL.take n t)
theorem AtL.drop {H : Hp} {L : AdP} : ∀ {xs : List V} {us : List PyData} (n : Nat), AtL H L xs us → AtL H L (xs.drop n) (us.drop n)
  | _, _, 0, r => r
  | _, _, _ + 1, .nil => .nil
  | _, _, n + 1, .cons _ t => AtL.drop n t
theorem AtL.inj_int {H : Hp} {L : AdP} : ∀ {vs : List V} {ns : List Int}, AtL H L vs (ns.map .int) → vs = ns.map V.int
  | _, [], h => by cases h; rfl
  | _, n :: ns, h => by
    cases h with
    | cons a b => cases a; rw [AtL.inj_int b]; rfl
theorem AtL.of_ints {H : Hp} {L : AdP} : ∀ (ns : List Int), AtL H L (ns.map V.int) (ns.map .int)
  | [] => .nil
  | n :: ns => .cons (.int n) (AtL.of_ints ns)
theorem AtL.of_get {H : Hp} {L : AdP} : ∀ {vs : List V} {ds : List PyData}, vs.length = ds.length → (∀ (i : Nat) (v : V) (d : PyData), vs[i]? = some v → ds[i]? = some d → At H L v d) → AtL H L vs ds
  | [], [], _, _ => .nil
  | [], _ :: _, e, _ => by simp at e
  | _ :: _, [], e, _ => by simp at e
  | v :: vs, d :: ds, e, h => .cons (h 0 v d rfl rfl) (AtL.of_get (by simpa using e) fun i v' d' h1 h2 => h (i + 1) v' d' (by simpa using h1) (by simpa using h2))

/-! ### to the layer's Dp -/
mutual
theorem AtL.dp {K : PySem.W.Frag} {H : Hp} {L : AdP} : ∀ {vs : List V} (ds : List PyData), AtL H L vs ds → PyData.plainAll ds = true → DpAll K H vs ds
  | _, [], h, _ => by cases h; exact .nil
  | _, d :: ds, h, s => by
    cases h with
    | cons a b =>
      have s1 : PyData.plain d = true ∧ PyData.plainAll ds = true := by simpa [PyData.plainAll] using s
      exact .cons (At.dp d a s1.1) (AtL.dp ds b s1.2)
theorem At.dp {K : PySem.W.Frag} {H : Hp} {L : AdP} : ∀ {v : V} (d : PyData), At H L v d → PyData.plain d = true → Dp K H v d
  | _, .none, h, _ => by cases h; exact .non
  | _, .bool b, h, _ => by cases h; exact .bl b
  | _, .int i, h, _ => by cases h; exact .int i
  | _, .str x, h, _ => by cases h; exact .str x
  | _, .list ds, h, s => by
    cases h with
    | lst n e r => exact .lst (.of e) (AtL.dp ds r (by simpa [PyData.plain] using s))
  | _, .tuple ds, h, s => by
    cases h with
    | tup n e r => exact .tup (.of e) (AtL.dp ds r (by simpa [PyData.plain] using s))
  | _, .dict dd, h, s => by simp [PyData.plain] at s
end
/-- no dict within, at most n deep -/
def fitN : Nat → PyData → Bool
  | _, .none => true
  | _, .bool _ => true
  | _, .int _ => true
  | _, .str _ => true
  | n + 1, .list xs => xs.all (fitN n)
  | n + 1, .tuple xs => xs.all (fitN n)
  | _, _ => false
abbrev fit (d : PyData) : Bool := fitN 20 d
theorem fitN_all {n : Nat} (ih : ∀ d, fitN n d = true → PyData.plain d = true ∧ d.depth ≤ n) : ∀ xs : List PyData, xs.all (fitN n) = true → PyData.plainAll xs = true ∧ PyData.depthAll xs ≤ n
  | [], _ => ⟨rfl, by simp [PyData.depthAll]⟩
  | x :: xs, h => by
    rw [List.all_cons, Bool.and_eq_true] at h
    obtain ⟨a1, a2⟩ := ih x h.1
    obtain ⟨b1, b2⟩ := fitN_all ih xs h.2
    refine ⟨by rw [PyData.plainAll, a1, b1]; rfl, ?_⟩
    rw [PyData.depthAll]
    omega
theorem fitN_ok : ∀ (n : Nat) (d : PyData), fitN n d = true → PyData.plain d = true ∧ d.depth ≤ n
  | n, .none, _ => ⟨rfl, by simp [PyData.depth]⟩
  | n, .bool _, _ => ⟨rfl, by simp [PyData.depth]⟩
  | n, .int _, _ => ⟨rfl, by simp [PyData.depth]⟩
  | n, .str _, _ => ⟨rfl, by simp [PyData.depth]⟩
  | 0, .list xs, h => by simp [fitN] at h
  | 0, .tuple xs, h => by simp [fitN] at h
  | n + 1, .list xs, h => by
    obtain ⟨a, b⟩ := fitN_all (fitN_ok n) xs (by simpa [fitN] using h)
    exact ⟨by rw [PyData.plain, a], by rw [PyData.depth]; omega⟩
  | n + 1, .tuple xs, h => by
    obtain ⟨a, b⟩ := fitN_all (fitN_ok n) xs (by simpa [fitN] using h)
    exact ⟨by rw [PyData.plain, a], by rw [PyData.depth]; omega⟩
  | 0, .dict xs, h => by simp [fitN] at h
  | n + 1, .dict xs, h => by simp [fitN] at h
theorem fitL_ok {xs : List PyData} (h : xs.all fit = true) : PyData.plainAll xs = true ∧ PyData.depthAll xs ≤ 20 := fitN_all (fitN_ok 20) xs h
end DL
namespace DL
open PySem PySem.Spec L2

/-- what a slot holds: data; a cell of the store; an object of the slot's own; what is only read -/
inductive D where
  | p (d : PyData) | c (k : Nat) | o (m : PyData) | f (m : PyData)
/-- what a cell holds -/
inductive MO where
  | d (m : PyData) | ls (ds : List D) | dc (kvs : List (PyData × D)) | ins (n : Str) (fs : List (Str × D))
abbrev Env' := List (Option D)
abbrev Sto := List (Option MO)

/-! ### the context -/
structure Cxt where
  P : Program
  w : World
  K : PySem.W.Frag
  mg : Str → Option Value
  base : Heap
  N : List Str
  sc : Scope
  k : Nat
  fn : Str → Bool
structure InC (c : Cxt) (X : Cx) : Prop where
  prog : X.prog = c.P
  w : X.w = c.w
  K : X.K = c.K
  mg : X.mg = c.mg
  base : X.base = c.base
  N : X.N = c.N
  sc : X.env.scope = c.sc
  fn : X.fn = c.fn
  calm : X.calm = true
  room : Room c.k X.A
  xe : X.xe = fun _ _ => False

/-! ### objects in the heap -/
/-- the object at a holds m (a list, a dict), not locked -/
def Ob (H : Hp) (L : AdP) (a : Addr) : PyData → Prop
  | .list ds => ∃ xs, H a = some (.lst xs) ∧ AtL H L xs ds
  | .dict dd => (∃ kvs, H a = some (.dK kvs) ∧ dd.map (·.1) = kvs.map (fun p => keyD p.1) ∧ AtL H L (kvs.map (·.2)) (dd.map (·.2))) ∨
      (∃ kvs, H a = some (.dT kvs) ∧ dd.map (·.1) = kvs.map (fun p => keyT p.1) ∧ AtL H L (kvs.map (·.2)) (dd.map (·.2)))
  | _ => False
/-- .. at most read: perhaps locked, or of the module -/
def ObR (K : PySem.W.Frag) (H : Hp) (L : AdP) (a : Addr) : PyData → Prop
  | .list ds => ∃ xs, SqL K H a xs ∧ AtL H L xs ds
  | .dict dd => (∃ kvs, Rd H a (.dK kvs) ∧ dd.map (·.1) = kvs.map (fun p => keyD p.1) ∧ AtL H L (kvs.map (·.2)) (dd.map (·.2))) ∨
      (∃ kvs, Rd H a (.dT kvs) ∧ dd.map (·.1) = kvs.map (fun p => keyT p.1) ∧ AtL H L (kvs.map (·.2)) (dd.map (·.2)))
  | _ => False
def WrL (K : PySem.W.Frag) (a : Addr) (xs : List V) : Prop := ∃ (o : Obj) (its : Array Value) (n : Nat), K.lookup a = some o ∧ o.cls = .type "list" ∧ o.dict = none ∧ o.data = .seq its n ∧ its.size ≤ sizeLine ∧ Vals xs its.toList
def WrT (K : PySem.W.Frag) (a : Addr) (xs : List V) : Prop := ∃ (o : Obj) (its : Array Value) (n : Nat), K.lookup a = some o ∧ o.cls = .type "tuple" ∧ o.data = .seq its n ∧ its.size ≤ sizeLine ∧ Vals xs its.toList
/-- .. and no live cell (C) -/
def ObF (K : PySem.W.Frag) (H : Hp) (L C : AdP) (a : Addr) : PyData → Prop
  | .list ds => ∃ xs, ((¬ C a ∧ Rd H a (.lst xs)) ∨ WrL K a xs) ∧ AtL H L xs ds
  | .dict dd => ¬ C a ∧ ((∃ kvs, Rd H a (.dK kvs) ∧ dd.map (·.1) = kvs.map (fun p => keyD p.1) ∧ AtL H L (kvs.map (·.2)) (dd.map (·.2))) ∨
      (∃ kvs, Rd H a (.dT kvs) ∧ dd.map (·.1) = kvs.map (fun p => keyT p.1) ∧ AtL H L (kvs.map (·.2)) (dd.map (·.2))))
  | _ => False
theorem ObF.r {K : PySem.W.Frag} {H : Hp} {L C : AdP} {a : Addr} : ∀ {m : PyData}, ObF K H L C a m → ObR K H L a m
  | .list ds, ⟨xs, h, r⟩ => ⟨xs, h.imp And.right id, r⟩
  | .dict dd, ⟨_, h⟩ => h
theorem Ob.r {K : PySem.W.Frag} {H : Hp} {L : AdP} {a : Addr} : ∀ {m : PyData}, Ob H L a m → ObR K H L a m
  | .list ds, ⟨xs, h, r⟩ => ⟨xs, .of h, r⟩
  | .dict dd, .inl ⟨kvs, h, r⟩ => .inl ⟨kvs, .inl h, r⟩
  | .dict dd, .inr ⟨kvs, h, r⟩ => .inr ⟨kvs, .inl h, r⟩
theorem Ob.some {H : Hp} {L : AdP} {a : Addr} : ∀ {m : PyData}, Ob H L a m → H a ≠ none
  | .list ds, ⟨xs, h, r⟩ => by rw [h]; exact fun z => nomatch z
  | .dict dd, .inl ⟨kvs, h, r⟩ => by rw [h]; exact fun z => nomatch z
  | .dict dd, .inr ⟨kvs, h, r⟩ => by rw [h]; exact fun z => nomatch z
theorem Ob.trW {H H' : Hp} {L L' : AdP} {a : Addr} (t : TrW H L H' L') (k : ∀ o, H a = Option.some o → H' a = Option.some o) : ∀ {m : PyData}, Ob H L a m → Ob H' L' a m
  | .list ds, ⟨xs, h, r⟩ => ⟨xs, k _ h, AtL.trW t _ r⟩
  | .dict dd, .inl ⟨kvs, h, e, r⟩ => .inl ⟨kvs, k _ h, e, AtL.trW2 t _ r⟩
  | .dict dd, .inr ⟨kvs, h, e, r⟩ => .inr ⟨kvs, k _ h, e, AtL.trW2 t _ r⟩
theorem Ob.tr {H H' : Hp} {L L' : AdP} {a : Addr} (t : Tr H L H' L') (k : ∀ o, H a = Option.some o → H' a = Option.some o) {m : PyData} (h : Ob H L a m) : Ob H' L' a m := Ob.trW t.w k h
theorem sqL_tr {K : PySem.W.Frag} {H H' : Hp} {a : Addr} {xs : List V} (k : ∀ u, Rd H a u → Rd H' a u) (h : SqL K H a xs) : SqL K H' a xs := h.imp (k _) id
theorem sqT_tr {K : PySem.W.Frag} {H H' : Hp} {a : Addr} {xs : List V} (k : ∀ u, Rd H a u → Rd H' a u) (h : SqT K H a xs) : SqT K H' a xs := h.imp (k _) id
theorem ObR.tr {K : PySem.W.Frag} {H H' : Hp} {L L' : AdP} {a : Addr} (t : Tr H L H' L') (k : ∀ u, Rd H a u → Rd H' a u) : ∀ {m : PyData}, ObR K H L a m → ObR K H' L' a m
  | .list ds, ⟨xs, h, r⟩ => ⟨xs, sqL_tr k h, r.tr t⟩
  | .dict dd, .inl ⟨kvs, h, e, r⟩ => .inl ⟨kvs, k _ h, e, AtL.tr2 t _ r⟩
  | .dict dd, .inr ⟨kvs, h, e, r⟩ => .inr ⟨kvs, k _ h, e, AtL.tr2 t _ r⟩

/-- what is read as data -/
inductive Vw (K : PySem.W.Frag) (H : Hp) (L : AdP) : V → PyData → Prop
  | dat {v : V} {d : PyData} : At H L v d → Vw K H L v d
  | ob {a : Addr} {m : PyData} : ObR K H L a m → Vw K H L (.ref a) m

/-! ### the store -/
def LvC (adr : Nat → Addr) (S : Sto) : AdP := fun a => ∃ k mo, S[k]? = some (some mo) ∧ adr k = a
def Lvv (Lf : AdP) (adr : Nat → Addr) (S : Sto) : AdP := fun a => Lf a ∨ LvC adr S a
/-- a value v for d; L: what data avoids, Lf: the owned, C: the live cells, n: how many cells -/
def DR (K : PySem.W.Frag) (H : Hp) (L Lf C : AdP) (adr : Nat → Addr) (n : Nat) (v : V) : D → Prop
  | .p d => At H L v d
  | .c k => v = .ref (adr k) ∧ k < n
  | .o m => ∃ a, v = .ref a ∧ Lf a ∧ Ob H L a m
  | .f m => ∃ a, v = .ref a ∧ ObF K H L C a m
inductive DRL (K : PySem.W.Frag) (H : Hp) (L Lf C : AdP) (adr : Nat → Addr) (n : Nat) : List V → List D → Prop
  | nil : DRL K H L Lf C adr n [] []
  | cons {v : V} {vs : List V} {d : D} {ds : List D} : DR K H L Lf C adr n v d → DRL K H L Lf C adr n vs ds → DRL K H L Lf C adr n (v :: vs) (d :: ds)
/-- what a cell holds: data, cells -/
def DRc (H : Hp) (L : AdP) (adr : Nat → Addr) (n : Nat) (v : V) : D → Prop
  | .p d => At H L v d
  | .c k => v = .ref (adr k) ∧ k < n
  | _ => False
inductive DRcL (H : Hp) (L : AdP) (adr : Nat → Addr) (n : Nat) : List V → List D → Prop
  | nil : DRcL H L adr n [] []
  | cons {v : V} {vs : List V} {d : D} {ds : List D} : DRc H L adr n v d → DRcL H L adr n vs ds → DRcL H L adr n (v :: vs) (d :: ds)
theorem DRc.dr {K : PySem.W.Frag} {H : Hp} {L Lf C : AdP} {adr : Nat → Addr} {n : Nat} {v : V} {d : D} (h : DRc H L adr n v d) : DR K H L Lf C adr n v d := by
  cases d with
  | p d => exact h
  | c k => exact h
  | o m => exact h.elim
  | f m => exact h.elim
/-- the cell at address a -/
def MOb (c : Cxt) (H : Hp) (L : AdP) (adr : Nat → Addr) (n : Nat) (a : Addr) : MO → Prop
  | .d m => Ob H L a m
  | .ls ds => ∃ xs, H a = some (.lst xs) ∧ DRcL H L adr n xs ds
  | .dc kvs => (∃ es, H a = some (.dK es) ∧ kvs.map (·.1) = es.map (fun p => keyD p.1) ∧ DRcL H L adr n (es.map (·.2)) (kvs.map (·.2))) ∨
      (∃ es, H a = some (.dT es) ∧ kvs.map (·.1) = es.map (fun p => keyT p.1) ∧ DRcL H L adr n (es.map (·.2)) (kvs.map (·.2)))
  | .ins x fs => ∃ C' dx gs, c.mg x = some (.ref C') ∧ H a = some (.ins C' dx gs) ∧ gs.map (·.1) = fs.map (·.1) ∧ DRcL H L adr n (gs.map (·.2)) (fs.map (·.2))
/-- there, and no tuple -/
def Nt (H : Hp) (a : Addr) : Prop := ∃ o, H a = some o ∧ ∀ xs, o ≠ .tup xs
theorem Nt.ne {H : Hp} {a : Addr} (h : Nt H a) : H a ≠ none := by obtain ⟨o, e, _⟩ := h; rw [e]; exact fun z => nomatch z
theorem Nt.keep {H H' : Hp} {a : Addr} (h : Nt H a) (k : ∀ o, H a = some o → H' a = some o) : Nt H' a := let ⟨o, e, n⟩ := h; ⟨o, k o e, n⟩
theorem Nt.upd {H : Hp} {p a : Addr} {o : HO} (h : Nt H a) (ho : ∀ xs, o ≠ .tup xs) : Nt (upd H p o) a := by
  by_cases e : a = p
  · subst e; exact ⟨o, upd_same, ho⟩
  · obtain ⟨o', e', n⟩ := h
    exact ⟨o', by rw [upd_ne e]; exact e', n⟩
structure StOk (c : Cxt) (Lf : AdP) (adr : Nat → Addr) (S : Sto) (H : Hp) : Prop where
  inj : ∀ j k mo mo', S[j]? = some (some mo) → S[k]? = some (some mo') → adr j = adr k → j = k
  ob : ∀ k mo, S[k]? = some (some mo) → MOb c H (Lvv Lf adr S) adr S.length (adr k) mo
  disj : ∀ a, LvC adr S a → ¬ Lf a
  lfo : ∀ a, Lf a → Nt H a
theorem StOk.lf {c : Cxt} {Lf : AdP} {adr : Nat → Addr} {S : Sto} {H : Hp} (s : StOk c Lf adr S H) (a : Addr) (h : Lf a) : H a ≠ none := (s.lfo a h).ne
structure Ext (adr : Nat → Addr) (S : Sto) (H : Hp) (adr' : Nat → Addr) (S' : Sto) (H' : Hp) : Prop where
  len : S.length ≤ S'.length
  ad : ∀ k, k < S.length → adr' k = adr k
  keep : ∀ a o, H a = some o → ¬ LvC adr S a → H' a = some o
  trk : ∀ a, H a ≠ none → H' a ≠ none
  live : ∀ a, LvC adr' S' a → LvC adr S a ∨ H a = none
theorem Ext.refl {adr : Nat → Addr} {S : Sto} {H : Hp} : Ext adr S H adr S H := ⟨Nat.le_refl _, fun _ _ => rfl, fun _ _ h _ => h, fun _ h => h, fun _ h => .inl h⟩
theorem Ext.trans {a1 a2 a3 : Nat → Addr} {S1 S2 S3 : Sto} {H1 H2 H3 : Hp} (x : Ext a1 S1 H1 a2 S2 H2) (y : Ext a2 S2 H2 a3 S3 H3) : Ext a1 S1 H1 a3 S3 H3 where
  len := Nat.le_trans x.len y.len
  ad := fun k h => (y.ad k (Nat.lt_of_lt_of_le h x.len)).trans (x.ad k h)
  keep := fun a o h n => y.keep a o (x.keep a o h n) fun z => (x.live a z).elim n fun q => by rw [h] at q; cases q
  trk := fun a h => y.trk a (x.trk a h)
  live := fun a h => by
    rcases y.live a h with z | z
    · exact x.live a z
    · by_cases q : H1 a = none
      · exact .inr q
      · exact absurd z (x.trk a q)
/-- the heap has grown -/
theorem Ext.grow {adr : Nat → Addr} {S : Sto} {H H' : Hp} (h : ∀ a o, H a = some o → H' a = some o) : Ext adr S H adr S H' :=
  ⟨Nat.le_refl _, fun _ _ => rfl, fun a o q _ => h a o q, fun a q => (by
    cases e : H a with
    | none => exact absurd e q
    | some o => rw [h a o e]; exact fun z => nomatch z), fun _ h => Or.inl h⟩
theorem Ext.tr {Lf Lf' : AdP} {adr adr' : Nat → Addr} {S S' : Sto} {H H' : Hp} (x : Ext adr S H adr' S' H') (hl : ∀ a, Lf' a → Lf a ∨ H a = none) : Tr H (Lvv Lf adr S) H' (Lvv Lf' adr' S') := fun a h n => by
  have n1 : ¬ Lf a := fun z => n (.inl z)
  have n2 : ¬ LvC adr S a := fun z => n (.inr z)
  refine ⟨.of fun o q => x.keep a o q n2, fun z => ?_⟩
  rcases z with z | z
  · exact (hl a z).elim n1 h
  · exact (x.live a z).elim n2 h
theorem rd_keep {H H' : Hp} {a : Addr} (k : ∀ o, H a = some o → H' a = some o) {u : HO} (h : Rd H a u) : Rd H' a u := h.imp (k _) fun ⟨o, z⟩ => ⟨o, k _ z⟩
theorem ObF.ext {K : PySem.W.Frag} {Lf Lf' : AdP} {adr adr' : Nat → Addr} {S S' : Sto} {H H' : Hp} {a : Addr} (x : Ext adr S H adr' S' H') (hl : ∀ a, Lf' a → Lf a ∨ H a = none) :
    ∀ {m : PyData}, ObF K H (Lvv Lf adr S) (LvC adr S) a m → ObF K H' (Lvv Lf' adr' S') (LvC adr' S') a m := by
  have t := x.tr hl
  have nc : ∀ u, ¬ LvC adr S a → Rd H a u → ¬ LvC adr' S' a ∧ Rd H' a u := fun u n r =>
    ⟨fun z => (x.live a z).elim n (rd_some r), rd_keep (fun o q => x.keep a o q n) r⟩
  intro m h
  cases m with
  | list ds =>
    obtain ⟨xs, h, r⟩ := h
    exact ⟨xs, h.imp (fun q => nc _ q.1 q.2) id, r.tr t⟩
  | tuple ds => exact h.elim
  | dict dd =>
    obtain ⟨n, h | h⟩ := h
    · obtain ⟨kvs, h, e, r⟩ := h
      exact ⟨(nc _ n h).1, .inl ⟨kvs, (nc _ n h).2, e, AtL.tr2 t _ r⟩⟩
    · obtain ⟨kvs, h, e, r⟩ := h
      exact ⟨(nc _ n h).1, .inr ⟨kvs, (nc _ n h).2, e, AtL.tr2 t _ r⟩⟩
  | none => exact h.elim
  | bool => exact h.elim
  | int => exact h.elim
  | str => exact h.elim
/-- values stay -/
theorem DR.ext {K : PySem.W.Frag} {Lf Lf' : AdP} {adr adr' : Nat → Addr} {S S' : Sto} {H H' : Hp} (x : Ext adr S H adr' S' H') (hl : ∀ a, Lf' a → Lf a ∨ H a = none) (hs : ∀ a, Lf a → Lf' a) (hd : ∀ a, LvC adr S a → ¬ Lf a) {v : V} :
    ∀ {d : D}, DR K H (Lvv Lf adr S) Lf (LvC adr S) adr S.length v d → DR K H' (Lvv Lf' adr' S') Lf' (LvC adr' S') adr' S'.length v d
  | .p d, h => At.tr (x.tr hl) d h
  | .c k, ⟨h1, h2⟩ => ⟨h1.trans (by rw [x.ad k h2]), Nat.lt_of_lt_of_le h2 x.len⟩
  | .o m, ⟨a, e, l, h⟩ => ⟨a, e, hs a l, h.tr (x.tr hl) fun o q => x.keep a o q fun z => hd a z l⟩
  | .f m, ⟨a, e, h⟩ => ⟨a, e, h.ext x hl⟩
theorem DRL.ext {K : PySem.W.Frag} {Lf Lf' : AdP} {adr adr' : Nat → Addr} {S S' : Sto} {H H' : Hp} (x : Ext adr S H adr' S' H') (hl : ∀ a, Lf' a → Lf a ∨ H a = none) (hs : ∀ a, Lf a → Lf' a) (hd : ∀ a, LvC adr S a → ¬ Lf a) {vs : List V} :
    ∀ {ds : List D}, DRL K H (Lvv Lf adr S) Lf (LvC adr S) adr S.length vs ds → DRL K H' (Lvv Lf' adr' S') Lf' (LvC adr' S') adr' S'.length vs ds
  | _, .nil => .nil
  | _, .cons a b => .cons (a.ext x hl hs hd) (DRL.ext x hl hs hd b)
/-! ### the slots -/
structure EOk (c : Cxt) (Lf : AdP) (adr : Nat → Addr) (S : Sto) (σ : St) (H : Hp) (ρ : Env') : Prop where
  slot : ∀ (i : Nat) (d : D), ρ[i]? = some (some d) → ∃ v, σ[i]? = some (some v) ∧ DR c.K H (Lvv Lf adr S) Lf (LvC adr S) adr S.length v d
  sto : StOk c Lf adr S H
  len : σ.length = ρ.length
theorem EOk.ext {c : Cxt} {Lf : AdP} {adr adr' : Nat → Addr} {S S' : Sto} {σ : St} {H H' : Hp} {ρ : Env'} (I : EOk c Lf adr S σ H ρ) (x : Ext adr S H adr' S' H') (s : StOk c Lf adr' S' H') : EOk c Lf adr' S' σ H' ρ :=
  ⟨fun i d h => let ⟨v, h1, h2⟩ := I.slot i d h; ⟨v, h1, h2.ext x (fun _ z => .inl z) (fun _ z => z) I.sto.disj⟩, s, I.len⟩
/-- .. and something new is owned -/
theorem EOk.ext' {c : Cxt} {Lf Lf' : AdP} {adr adr' : Nat → Addr} {S S' : Sto} {σ : St} {H H' : Hp} {ρ : Env'} (I : EOk c Lf adr S σ H ρ) (x : Ext adr S H adr' S' H') (s : StOk c Lf' adr' S' H') (hl : ∀ a, Lf' a → Lf a ∨ H a = none) (hs : ∀ a, Lf a → Lf' a) : EOk c Lf' adr' S' σ H' ρ :=
  ⟨fun i d h => let ⟨v, h1, h2⟩ := I.slot i d h; ⟨v, h1, h2.ext x hl hs I.sto.disj⟩, s, I.len⟩
theorem MOb.there {c : Cxt} {H : Hp} {L : AdP} {adr : Nat → Addr} {n : Nat} {a : Addr} {mo : MO} (q : MOb c H L adr n a mo) : H a ≠ none := by
  cases mo with
  | d m => exact Ob.some q
  | ls ds => obtain ⟨xs, q, _⟩ := q; rw [q]; exact fun z => nomatch z
  | dc kvs => rcases q with ⟨es, q, _⟩ | ⟨es, q, _⟩ <;> (rw [q]; exact fun z => nomatch z)
  | ins n fs => obtain ⟨C', dx, gs, _, q, _⟩ := q; rw [q]; exact fun z => nomatch z
/-- the store's objects stand -/
theorem MOb.trW {c : Cxt} {H H' : Hp} {L L' : AdP} {adr adr' : Nat → Addr} {n n' : Nat} (t : TrW H L H' L') (hn : n ≤ n') (ha : ∀ k, k < n → adr' k = adr k) {a : Addr} (k : ∀ o, H a = some o → H' a = some o) :
    ∀ {mo : MO}, MOb c H L adr n a mo → MOb c H' L' adr' n' a mo := by
  have drl : ∀ {vs : List V} {ds : List D}, DRcL H L adr n vs ds → DRcL H' L' adr' n' vs ds := fun {vs ds} h => by
    induction h with
    | nil => exact .nil
    | @cons v vs d ds a b ih =>
      refine .cons ?_ ih
      cases d with
      | p d => exact At.trW t d a
      | c k => exact ⟨a.1.trans (by rw [ha k a.2]), Nat.lt_of_lt_of_le a.2 hn⟩
      | o m => exact a.elim
      | f m => exact a.elim
  intro mo h
  cases mo with
  | d m => exact Ob.trW t k h
  | ls ds => obtain ⟨xs, h, r⟩ := h; exact ⟨xs, k _ h, drl r⟩
  | dc kvs =>
    rcases h with ⟨es, h, e, r⟩ | ⟨es, h, e, r⟩
    · exact .inl ⟨es, k _ h, e, drl r⟩
    · exact .inr ⟨es, k _ h, e, drl r⟩
  | ins n fs => obtain ⟨C', dx, gs, h1, h2, e, r⟩ := h; exact ⟨C', dx, gs, h1, k _ h2, e, drl r⟩
theorem MOb.tr {c : Cxt} {H H' : Hp} {L L' : AdP} {adr adr' : Nat → Addr} {n n' : Nat} (t : Tr H L H' L') (hn : n ≤ n') (ha : ∀ k, k < n → adr' k = adr k) {a : Addr} (k : ∀ o, H a = some o → H' a = some o) {mo : MO} (h : MOb c H L adr n a mo) : MOb c H' L' adr' n' a mo := MOb.trW t.w hn ha k h
theorem MOb.ext {c : Cxt} {Lf Lf' : AdP} {adr adr' : Nat → Addr} {S S' : Sto} {H H' : Hp} (x : Ext adr S H adr' S' H') (hl : ∀ a, Lf' a → Lf a ∨ H a = none) {a : Addr} (k : ∀ o, H a = some o → H' a = some o)
    {mo : MO} (h : MOb c H (Lvv Lf adr S) adr S.length a mo) : MOb c H' (Lvv Lf' adr' S') adr' S'.length a mo := MOb.tr (x.tr hl) x.len x.ad k h
/-- the heap has grown, the store is as it was -/
theorem StOk.grow {c : Cxt} {Lf Lf' : AdP} {adr : Nat → Addr} {S : Sto} {H H' : Hp} (s : StOk c Lf adr S H) (h : ∀ a o, H a = some o → H' a = some o) (hl : ∀ a, Lf' a → (Lf a ∨ H a = none) ∧ Nt H' a) : StOk c Lf' adr S H' := by
  have x : Ext adr S H adr S H' := .grow h
  have ne : ∀ k mo, S[k]? = some (some mo) → H (adr k) ≠ none := fun k mo e => (s.ob k mo e).there
  refine ⟨s.inj, fun k mo e => MOb.ext x (fun a z => (hl a z).1) (fun o q => h _ o q) (s.ob k mo e), fun a z1 z2 => ?_, fun a z => (hl a z).2⟩
  rcases (hl a z2).1 with z | z
  · exact s.disj a z1 z
  · obtain ⟨k, mo, e1, e2⟩ := z1
    exact ne k mo e1 (by rw [e2]; exact z)
theorem StOk.weak {c : Cxt} {Lf Lf' : AdP} {adr : Nat → Addr} {S : Sto} {H : Hp} (s : StOk c Lf adr S H) (h : ∀ a, Lf' a → Lf a) : StOk c Lf' adr S H :=
  ⟨s.inj, fun k mo e => MOb.ext .refl (fun a z => .inl (h a z)) (fun o q => q) (s.ob k mo e), fun a z q => s.disj a z (h a q), fun a q => s.lfo a (h a q)⟩
theorem StOk.ne {c : Cxt} {Lf : AdP} {adr : Nat → Addr} {S : Sto} {H : Hp} (s : StOk c Lf adr S H) {a : Addr} (h : LvC adr S a) : H a ≠ none := by
  obtain ⟨k, mo, e, rfl⟩ := h
  exact (s.ob k mo e).there
/-- what is owned is written -/
theorem StOk.updO {c : Cxt} {Lf : AdP} {adr : Nat → Addr} {S : Sto} {H : Hp} {p : Addr} {o : HO} (s : StOk c Lf adr S H) (hp : Lf p) (ho : ∀ xs, o ≠ .tup xs := by exact fun _ z => nomatch z) : StOk c Lf adr S (upd H p o) := by
  have t : Tr H (Lvv Lf adr S) (upd H p o) (Lvv Lf adr S) := fun a h n => ⟨.of fun u q => by rw [upd_ne (fun z => n (.inl (by rw [z]; exact hp)))]; exact q, n⟩
  refine ⟨s.inj, fun k mo e => MOb.tr t (Nat.le_refl _) (fun _ _ => rfl) (fun u q => ?_) (s.ob k mo e), s.disj, fun a z => ?_⟩
  · rw [upd_ne fun z => s.disj _ ⟨k, mo, e, rfl⟩ (by rw [z]; exact hp)]
    exact q
  · exact (s.lfo a z).upd ho
theorem Ob.nt {H : Hp} {L : AdP} {a : Addr} : ∀ {m : PyData}, Ob H L a m → Nt H a
  | .list ds, ⟨xs, h, r⟩ => ⟨_, h, fun _ z => nomatch z⟩
  | .dict dd, .inl ⟨kvs, h, r⟩ => ⟨_, h, fun _ z => nomatch z⟩
  | .dict dd, .inr ⟨kvs, h, r⟩ => ⟨_, h, fun _ z => nomatch z⟩
theorem MOb.nt {c : Cxt} {H : Hp} {L : AdP} {adr : Nat → Addr} {n : Nat} {a : Addr} {mo : MO} (h : MOb c H L adr n a mo) : Nt H a := by
  cases mo with
  | d m => exact Ob.nt h
  | ls ds => obtain ⟨xs, h, _⟩ := h; exact ⟨_, h, fun _ z => nomatch z⟩
  | dc kvs => rcases h with ⟨es, h, _⟩ | ⟨es, h, _⟩ <;> exact ⟨_, h, fun _ z => nomatch z⟩
  | ins n fs => obtain ⟨C', dx, gs, _, h, _⟩ := h; exact ⟨_, h, fun _ z => nomatch z⟩
/-- a tuple is data: not owned, no cell -/
theorem StOk.tup {c : Cxt} {Lf : AdP} {adr : Nat → Addr} {S : Sto} {H : Hp} (s : StOk c Lf adr S H) {a : Addr} {xs : List V} (h : H a = some (.tup xs)) : ¬ Lvv Lf adr S a := fun z => by
  have : Nt H a := z.elim (s.lfo a) fun ⟨k, mo, e, q⟩ => by rw [← q]; exact (s.ob k mo e).nt
  obtain ⟨o, e, n⟩ := this
  rw [h] at e
  cases e
  exact n _ rfl
theorem StOk.lvo {c : Cxt} {Lf : AdP} {adr : Nat → Addr} {S : Sto} {H : Hp} (s : StOk c Lf adr S H) {a : Addr} (h : Lvv Lf adr S a) : Nt H a := h.elim (s.lfo a) fun ⟨k, mo, e, q⟩ => by rw [← q]; exact (s.ob k mo e).nt
theorem StOk.lvv {c : Cxt} {Lf : AdP} {adr : Nat → Addr} {S : Sto} {H : Hp} (s : StOk c Lf adr S H) {a : Addr} (h : Lvv Lf adr S a) : H a ≠ none := h.elim (s.lf a) s.ne
end DL
namespace DL
open PySem PySem.Spec L2

/-! ### operators by data -/
section
variable {X : Cx} {pins : List (Addr × Obj)} {σ : L2.St} {H : Hp} {s : Shared} {L : AdP}
theorem ObR.dp {K : PySem.W.Frag} {H : Hp} {L : AdP} {a : Addr} : ∀ {m : PyData}, ObR K H L a m → m.plain = true → Dp K H (.ref a) m
  | .list ds, ⟨xs, h, r⟩, p => .lst h (AtL.dp ds r (by simpa [PyData.plain] using p))
  | .dict dd, _, p => by simp [PyData.plain] at p
theorem Vw.dp {K : PySem.W.Frag} {v : V} {d : PyData} (h : Vw K H L v d) (p : d.plain = true) : Dp K H v d := by
  cases h with
  | dat h => exact h.dp d p
  | ob h => exact h.dp p
theorem Vw.reads (I : Inv X pins σ H s) {v : V} {u : Value} {d : PyData} (h : Vw X.K H L v d) (r : RelV v u) (p : d.plain = true) : ∃ as, Reads s.heap u d as := Dp.reads I d v u (h.dp p) r

/-- the wish of a result as data: the heap has grown, the result is data -/
abbrev Gr (H : Hp) (L : AdP) (Q : VK) (r : PyData) : Prop := ∀ w' H', (∀ a o, H a = some o → H' a = some o) → At H' L w' r → Q w' H'
def rD (K : PySem.W.Frag) (op : PyData → PyData → Option PyData) : R2 := fun x y H Q => ∃ (L : AdP) (a b r : PyData), (∀ z, L z → H z ≠ none) ∧ Vw K H L x a ∧ Vw K H L y b ∧ op a b = some r ∧ Gr H L Q r

theorem Vw.int_inv {K : PySem.W.Frag} {v : V} {i : Int} (h : Vw K H L v (.int i)) : v = .int i := by
  cases h with
  | dat h => cases h; rfl
  | ob h => exact h.elim
theorem Vw.str_inv {K : PySem.W.Frag} {v : V} {i : Str} (h : Vw K H L v (.str i)) : v = .str i := by
  cases h with
  | dat h => cases h; rfl
  | ob h => exact h.elim
theorem Vw.bl_inv {K : PySem.W.Frag} {v : V} {i : Bool} (h : Vw K H L v (.bool i)) : v = .bl i := by
  cases h with
  | dat h => cases h; rfl
  | ob h => exact h.elim
theorem Vw.none_inv {K : PySem.W.Frag} {v : V} (h : Vw K H L v .none) : v = .non := by
  cases h with
  | dat h => cases h; rfl
  | ob h => exact h.elim
theorem Vw.list_inv {K : PySem.W.Frag} {v : V} {ds : List PyData} (h : Vw K H L v (.list ds)) : ∃ a xs, v = .ref a ∧ SqL K H a xs ∧ AtL H L xs ds := by
  cases h with
  | dat h => cases h with | lst n e r => exact ⟨_, _, rfl, .of e, r⟩
  | ob h => obtain ⟨xs, h, r⟩ := h; exact ⟨_, _, rfl, h, r⟩
theorem Vw.tuple_at {K : PySem.W.Frag} {v : V} {ds : List PyData} (h : Vw K H L v (.tuple ds)) : At H L v (.tuple ds) := by
  cases h with
  | dat h => exact h
  | ob h => exact h.elim
theorem Vw.tuple_inv {K : PySem.W.Frag} {v : V} {ds : List PyData} (h : Vw K H L v (.tuple ds)) : ∃ a xs, v = .ref a ∧ SqT K H a xs ∧ AtL H L xs ds := by
  cases h.tuple_at with
  | tup n e r => exact ⟨_, _, rfl, .of e, r⟩
theorem Vw.dict_inv {K : PySem.W.Frag} {v : V} {dd : List (PyData × PyData)} (h : Vw K H L v (.dict dd)) : ∃ a, v = .ref a ∧ ((∃ kvs, Rd H a (.dK kvs) ∧ dd.map (·.1) = kvs.map (fun p => keyD p.1) ∧ AtL H L (kvs.map (·.2)) (dd.map (·.2))) ∨
      (∃ kvs, Rd H a (.dT kvs) ∧ dd.map (·.1) = kvs.map (fun p => keyT p.1) ∧ AtL H L (kvs.map (·.2)) (dd.map (·.2)))) := by
  cases h with
  | dat h => cases h with
    | dK n e k r => exact ⟨_, rfl, .inl ⟨_, e, k, r⟩⟩
    | dT n e k r => exact ⟨_, rfl, .inr ⟨_, e, k, r⟩⟩
  | ob h => exact ⟨_, rfl, h⟩
theorem At.of_int (i : Int) : At H L (.int i) (.int i) := .int i

/-! ints -/
/-- an operator of two ints, by its rule -/
theorem opInt {f : Value → Value → Sem Value} {C : Int → Int → Prop} [∀ i j, Decidable (C i j)] {g : Int → Int → V} {g' : Int → Int → PyData} (hg : ∀ i j (H : Hp) (L : AdP), At H L (g i j) (g' i j)) (h : OpR X f (rI C g)) :
    OpR X f (rD X.K fun a b => match a, b with | .int i, .int j => if C i j then some (g' i j) else none | _, _ => none) := by
  intro pins s σ H x y v u Q I rx ry hq
  obtain ⟨L, a, b, r, hl, ha, hb, e, q⟩ := hq
  cases a <;> cases b <;> simp at e
  rename_i i j
  obtain ⟨c, e⟩ := e
  subst e
  have e1 := ha.int_inv
  have e2 := hb.int_inv
  subst e1; subst e2
  exact h pins s σ H _ _ v u Q I rx ry ⟨i, j, rfl, rfl, c, q _ _ (fun _ _ z => z) (hg i j H L)⟩
theorem opInt0 {f : Value → Value → Sem Value} {g : Int → Int → V} {g' : Int → Int → PyData} (hg : ∀ i j (H : Hp) (L : AdP), At H L (g i j) (g' i j)) (h : OpR X f (rI0 g)) :
    OpR X f (rD X.K fun a b => match a, b with | .int i, .int j => some (g' i j) | _, _ => none) := by
  intro pins s σ H x y v u Q I rx ry hq
  obtain ⟨L, a, b, r, hl, ha, hb, e, q⟩ := hq
  cases a <;> cases b <;> simp at e
  rename_i i j
  subst e
  have e1 := ha.int_inv
  have e2 := hb.int_inv
  subst e1; subst e2
  exact h pins s σ H _ _ v u Q I rx ry ⟨i, j, rfl, rfl, q _ _ (fun _ _ z => z) (hg i j H L)⟩
/-- the one or the other -/
theorem opOr {f : Value → Value → Sem Value} {op op' : PyData → PyData → Option PyData} (h : OpR X f (rD X.K op)) (h' : OpR X f (rD X.K op')) {op2 : PyData → PyData → Option PyData}
    (e : ∀ a b r, op2 a b = some r → op a b = some r ∨ op' a b = some r) : OpR X f (rD X.K op2) := by
  intro pins s σ H x y v u Q I rx ry hq
  obtain ⟨L, a, b, r, hl, ha, hb, q, w⟩ := hq
  rcases e a b r q with q | q
  · exact h pins s σ H x y v u Q I rx ry ⟨L, a, b, r, hl, ha, hb, q, w⟩
  · exact h' pins s σ H x y v u Q I rx ry ⟨L, a, b, r, hl, ha, hb, q, w⟩

abbrev big : Nat := 16777216
def subD : PyData → PyData → Option PyData
  | .int i, .int j => some (.int (i - j))
  | _, _ => none
def mulI : PyData → PyData → Option PyData
  | .int i, .int j => if (i.natAbs < 2 ^ 64 ∨ j.natAbs < 2 ^ 64) then some (.int (i * j)) else none
  | _, _ => none
def fdivD : PyData → PyData → Option PyData
  | .int i, .int j => if (j ≠ 0 ∧ j.natAbs < 340282366920938463463374607431768211456) then some (.int (i.fdiv j)) else none
  | _, _ => none
def modD : PyData → PyData → Option PyData
  | .int i, .int j => if j ≠ 0 then some (.int (i.fmod j)) else none
  | _, _ => none
def powD : PyData → PyData → Option PyData
  | .int i, .int j => if (0 ≤ j ∧ j ≤ 1000000 ∧ i.natAbs < 2 ^ 64) then some (.int (i ^ j.toNat)) else none
  | _, _ => none
def shlD : PyData → PyData → Option PyData
  | .int i, .int j => if (0 ≤ j ∧ j ≤ 1000000 ∧ i.natAbs < 2 ^ 64) then some (.int (i * 2 ^ j.toNat)) else none
  | _, _ => none
def shrD : PyData → PyData → Option PyData
  | .int i, .int j => if 0 ≤ j then some (.int (i / 2 ^ j.toNat)) else none
  | _, _ => none
def andD : PyData → PyData → Option PyData
  | .int i, .int j => some (.int (Builtin.bitAnd i j))
  | _, _ => none
def xorD : PyData → PyData → Option PyData
  | .int i, .int j => some (.int (Builtin.bitXor i j))
  | _, _ => none
theorem opEq {f : Value → Value → Sem Value} {op op' : PyData → PyData → Option PyData} (h : OpR X f (rD X.K op)) (e : ∀ a b r, op' a b = some r → op a b = some r) : OpR X f (rD X.K op') := opOr h h fun a b r q => .inl (e a b r q)
theorem ho_sub : OpR X (binaryOp .Sub) (rD X.K subD) := opEq (opInt0 (g' := fun i j => .int (i - j)) (fun i j H L => .int _) op_sub) fun a b r q => by cases a <;> cases b <;> first | exact q | cases q
theorem ho_mulI : OpR X (binaryOp .Mult) (rD X.K mulI) := opEq (opInt (C := fun i j => (-(2 ^ 64) < i ∧ i < 2 ^ 64) ∨ (-(2 ^ 64) < j ∧ j < 2 ^ 64)) (g' := fun i j => .int (i * j)) (fun i j H L => .int _) op_mul) fun a b r q => by
  cases a <;> cases b <;> simp [mulI] at q ⊢
  refine ⟨?_, q.2⟩
  rcases q.1 with h | h
  · left; omega
  · right; omega
theorem op_fdivX : OpR X (binaryOp .FloorDiv) (rI (fun _ j => j ≠ 0 ∧ j.natAbs < 340282366920938463463374607431768211456) fun i j => .int (i.fdiv j)) := opI fun _ j _ _ _ _ _ hc q => PyProof.Rows.floordiv_int hc.1 q (.inl (PyProof.noPylong_of_log2 (Nat.lt_trans (PySem.Flt.log2_lt_of (k := 128) (by omega) (Nat.lt_of_lt_of_eq hc.2 (by decide))) (by omega))))
theorem ho_fdiv : OpR X (binaryOp .FloorDiv) (rD X.K fdivD) := opEq (opInt (C := fun i j => j ≠ 0 ∧ j.natAbs < 340282366920938463463374607431768211456) (g' := fun i j => .int (i.fdiv j)) (fun i j H L => .int _) op_fdivX) fun a b r q => by
  cases a <;> cases b <;> first | exact q | cases q
theorem ho_mod : OpR X (binaryOp .Mod) (rD X.K modD) := opEq (opInt (C := fun i j => j ≠ 0) (g' := fun i j => .int (i.fmod j)) (fun i j H L => .int _) op_modN) fun a b r q => by
  cases a <;> cases b <;> first | exact q | cases q
theorem ho_pow : OpR X (binaryOp .Pow) (rD X.K powD) := opEq (opInt (C := fun i j => 0 ≤ j ∧ j ≤ 1000000 ∧ i.natAbs < 2 ^ 64) (g' := fun i j => .int (i ^ j.toNat)) (fun i j H L => .int _) op_pow) fun a b r q => by
  cases a <;> cases b <;> first | exact q | cases q
theorem ho_shl : OpR X (binaryOp .LShift) (rD X.K shlD) := opEq (opInt (C := fun i j => 0 ≤ j ∧ j ≤ 1000000 ∧ i.natAbs < 2 ^ 64) (g' := fun i j => .int (i * 2 ^ j.toNat)) (fun i j H L => .int _) op_shl) fun a b r q => by
  cases a <;> cases b <;> first | exact q | cases q
theorem ho_shr : OpR X (binaryOp .RShift) (rD X.K shrD) := opEq (opInt (C := fun i j => 0 ≤ j) (g' := fun i j => .int (i / 2 ^ j.toNat)) (fun i j H L => .int _) op_shr) fun a b r q => by
  cases a <;> cases b <;> first | exact q | cases q
theorem ho_and : OpR X (binaryOp .BitAnd) (rD X.K andD) := opEq (opInt0 (g' := fun i j => .int (Builtin.bitAnd i j)) (fun i j H L => .int _) op_and) fun a b r q => by cases a <;> cases b <;> first | exact q | cases q
theorem ho_xor : OpR X (binaryOp .BitXor) (rD X.K xorD) := opEq (opInt0 (g' := fun i j => .int (Builtin.bitXor i j)) (fun i j H L => .int _) op_xor) fun a b r q => by cases a <;> cases b <;> first | exact q | cases q

/-! + -/
def addI : PyData → PyData → Option PyData
  | .int i, .int j => some (.int (i + j))
  | _, _ => none
def addS : PyData → PyData → Option PyData
  | .str i, .str j => if i.length + j.length ≤ sizeLine then some (.str (i ++ j)) else none
  | _, _ => none
def addT : PyData → PyData → Option PyData
  | .tuple xs, .tuple ys => if xs.length + ys.length ≤ sizeLine then some (.tuple (xs ++ ys)) else none
  | _, _ => none
theorem ho_addI : OpR X (binaryOp .Add) (rD X.K addI) := opEq (opInt0 (g' := fun i j => .int (i + j)) (fun i j H L => .int _) op_add) fun a b r q => by cases a <;> cases b <;> first | exact q | cases q
theorem ho_addS : OpR X (binaryOp .Add) (rD X.K addS) := by
  intro pins s σ H x y v u Q I rx ry hq
  obtain ⟨L, a, b, r, hl, ha, hb, e, q⟩ := hq
  cases a <;> cases b <;> simp [addS] at e
  rename_i i j
  obtain ⟨c, e⟩ := e
  subst e
  have e1 := ha.str_inv
  have e2 := hb.str_inv
  subst e1; subst e2
  exact op_add_str pins s σ H _ _ v u Q I rx ry ⟨i, j, rfl, rfl, c, q _ _ (fun _ _ z => z) (.str _)⟩
theorem upd_grow {p : Addr} {o : HO} (h : H p = none) : ∀ a u, H a = some u → upd H p o a = some u := fun a u e => by rw [upd_ne (ne_of_none e h)]; exact e
theorem grow_tr {H H' : Hp} {L : AdP} (k : ∀ a o, H a = some o → H' a = some o) : Tr H L H' L := fun a h n => ⟨.of fun o q => k a o q, n⟩
theorem AtL.grow {H H' : Hp} {L : AdP} (k : ∀ a o, H a = some o → H' a = some o) {vs : List V} {ds : List PyData} (h : AtL H L vs ds) : AtL H' L vs ds := h.tr (grow_tr k)
theorem At.grow {H H' : Hp} {L : AdP} (k : ∀ a o, H a = some o → H' a = some o) {vs : V} {ds : PyData} (h : At H L vs ds) : At H' L vs ds := h.tr (grow_tr k)
theorem At.newT {p : Addr} {xs : List V} {ds : List PyData} (hl : ∀ z, L z → H z ≠ none) (h : H p = none) (r : AtL H L xs ds) : At (upd H p (.tup xs)) L (.ref p) (.tuple ds) :=
  .tup (fun z => hl p z h) upd_same (r.grow (upd_grow h))
theorem At.newL {p : Addr} {xs : List V} {ds : List PyData} (hl : ∀ z, L z → H z ≠ none) (h : H p = none) (r : AtL H L xs ds) : At (upd H p (.lst xs)) L (.ref p) (.list ds) :=
  .lst (fun z => hl p z h) upd_same (r.grow (upd_grow h))
theorem ho_addT : OpR X (binaryOp .Add) (rD X.K addT) := by
  intro pins s σ H x y v u Q I rx ry hq
  obtain ⟨L, a, b, r, hl, ha, hb, e, q⟩ := hq
  cases a <;> cases b <;> simp [addT] at e
  rename_i ds es
  obtain ⟨c, e⟩ := e
  subst e
  obtain ⟨a1, xs, rfl, h1, r1⟩ := ha.tuple_inv
  obtain ⟨b1, ys, rfl, h2, r2⟩ := hb.tuple_inv
  have l1 := r1.length
  have l2 := r2.length
  refine op_catA pins s σ H _ _ v u Q I rx ry ⟨a1, b1, xs, ys, rfl, rfl, h1, h2, by omega, fun e => ?_, fun _ e => ?_, fun _ _ p hp => ?_⟩
  · subst e
    cases r1
    exact q _ _ (fun _ _ z => z) (by simpa using hb.tuple_at)
  · subst e
    cases r2
    exact q _ _ (fun _ _ z => z) (by simpa using ha.tuple_at)
  · exact q _ _ (upd_grow hp) (.newT hl hp (r1.append r2))
def addD : PyData → PyData → Option PyData
  | .int i, .int j => some (.int (i + j))
  | .str i, .str j => addS (.str i) (.str j)
  | .tuple i, .tuple j => addT (.tuple i) (.tuple j)
  | _, _ => none
theorem ho_add : OpR X (binaryOp .Add) (rD X.K addD) := opOr (opOr ho_addI ho_addS (op2 := fun a b => (addI a b).or (addS a b)) fun a b r q => by
    cases h : addI a b with
    | none => rw [h] at q; exact .inr (by simpa using q)
    | some z => rw [h] at q; exact .inl (by simpa using q)) ho_addT fun a b r q => by
  cases a <;> cases b <;> first | (exact .inl (by simpa [addI, addS, addD] using q)) | exact .inr q | cases q

/-! ==, !=, <, in -/
def eqD (a b : PyData) : Option PyData := if fit a = true ∧ fit b = true then some (.bool (PyData.eqv a b)) else none
def neD (a b : PyData) : Option PyData := if fit a = true ∧ fit b = true then some (.bool (!PyData.eqv a b)) else none
theorem ho_eq (hu : X.A.units + 100 < cLine) : OpR X (compareOp .Eq) (rD X.K eqD) := by
  intro pins s σ H x y v u Q I rx ry hq
  obtain ⟨L, a, b, r, hl, ha, hb, e, q⟩ := hq
  unfold eqD at e
  split at e
  · rename_i hc
    cases e
    obtain ⟨pa, da⟩ := fitN_ok 20 a hc.1
    obtain ⟨pb, db⟩ := fitN_ok 20 b hc.2
    obtain ⟨as, r1⟩ := ha.reads I rx pa
    obtain ⟨bs, r2⟩ := hb.reads I ry pb
    exact PySem.SeqAt.eq_plain r1 r2 pa pb (by omega) ⟨.bl _, H, I, rfl, q _ _ (fun _ _ z => z) (.bl _)⟩
  · cases e
theorem ho_ne (hu : X.A.units + 100 < cLine) : OpR X (compareOp .NotEq) (rD X.K neD) := by
  intro pins s σ H x y v u Q I rx ry hq
  obtain ⟨L, a, b, r, hl, ha, hb, e, q⟩ := hq
  unfold neD at e
  split at e
  · rename_i hc
    cases e
    obtain ⟨pa, da⟩ := fitN_ok 20 a hc.1
    obtain ⟨pb, db⟩ := fitN_ok 20 b hc.2
    obtain ⟨as, r1⟩ := ha.reads I rx pa
    obtain ⟨bs, r2⟩ := hb.reads I ry pb
    exact PySem.SeqAt.ne_plain r1 r2 pa pb (by omega) ⟨.bl _, H, I, rfl, q _ _ (fun _ _ z => z) (.bl _)⟩
  · cases e
/-- alike and no None: may be compared -/
def cmpOk (a b : PyData) : Bool := fit a && fit b && PySem.W.alike a b && (match a with | .none => false | _ => true)
def ltG (a b : PyData) : Option PyData := if cmpOk a b = true then some (.bool (PySem.W.dataLt a b)) else none
def gtG (a b : PyData) : Option PyData := if cmpOk a b = true then some (.bool (PySem.W.dataLt b a)) else none
def leG (a b : PyData) : Option PyData := if cmpOk a b = true then some (.bool (!PySem.W.dataLt b a)) else none
def geG (a b : PyData) : Option PyData := if cmpOk a b = true then some (.bool (!PySem.W.dataLt a b)) else none
def ltD : PyData → PyData → Option PyData
  | .int i, .int j => some (.bool (decide (i < j)))
  | a, b => ltG a b
def gtD : PyData → PyData → Option PyData
  | .int i, .int j => some (.bool (decide (j < i)))
  | a, b => gtG a b
def leD : PyData → PyData → Option PyData
  | .int i, .int j => some (.bool (decide (i ≤ j)))
  | a, b => leG a b
def geD : PyData → PyData → Option PyData
  | .int i, .int j => some (.bool (decide (j ≤ i)))
  | a, b => geG a b
theorem cmpOk_out {a b : PyData} (h : cmpOk a b = true) : fit a = true ∧ fit b = true ∧ PySem.W.alike a b = true ∧ a ≠ .none := by
  unfold cmpOk at h
  rw [Bool.and_eq_true, Bool.and_eq_true, Bool.and_eq_true] at h
  obtain ⟨⟨⟨h1, h2⟩, h3⟩, h4⟩ := h
  refine ⟨h1, h2, h3, ?_⟩
  rintro rfl
  cases h4
theorem ho_cmpG {op : CmpOp} {g : PyData → PyData → Bool} (hu : X.A.units + 100 < cLine)
    (rule : ∀ {a b : Value} {da db : PyData} {as bs : List Addr} {s : Shared} {Q : Value → Shared → Prop}, PySem.Reads s.heap a da as → PySem.Reads s.heap b db bs → PySem.W.alike da db = true → da ≠ .none → X.A.units + min da.depth db.depth < cLine → Q (.bool (g da db)) s →
      wpAny (model X.prog X.w) X.A (compareOp op a b) Q X.xe s) : OpR X (compareOp op) (rD X.K fun a b => if cmpOk a b = true then some (.bool (g a b)) else none) := by
  intro pins s σ H x y v u Q I rx ry hq
  obtain ⟨L, a, b, r, hl, ha, hb, e, q⟩ := hq
  simp only at e
  split at e
  · rename_i hc
    cases e
    obtain ⟨f1, f2, al, nn⟩ := cmpOk_out hc
    obtain ⟨pa, da⟩ := fitN_ok 20 a f1
    obtain ⟨pb, db⟩ := fitN_ok 20 b f2
    obtain ⟨as, r1⟩ := ha.reads I rx pa
    obtain ⟨bs, r2⟩ := hb.reads I ry pb
    exact rule r1 r2 al nn (by omega) ⟨.bl _, H, I, rfl, q _ _ (fun _ _ z => z) (.bl _)⟩
  · cases e
theorem cmp_cases {fi : Int → Int → PyData} {g op : PyData → PyData → Option PyData} (h1 : ∀ i j, op (.int i) (.int j) = some (fi i j)) (h2 : ∀ a b, (∃ i j, a = .int i ∧ b = .int j) ∨ op a b = g a b) :
    ∀ a b r, op a b = some r → (match a, b with | .int i, .int j => some (fi i j) | _, _ => none) = some r ∨ g a b = some r := by
  intro a b r q
  rcases h2 a b with ⟨i, j, rfl, rfl⟩ | e
  · exact .inl (by rw [← q, h1])
  · exact .inr (by rw [← e]; exact q)
theorem ho_lt (hu : X.A.units + 100 < cLine) : OpR X (compareOp .Lt) (rD X.K ltD) := opOr (opInt0 (g' := fun i j => .bool (decide (i < j))) (fun i j H L => .bl _) op_lt) (ho_cmpG (g := PySem.W.dataLt) hu fun r1 r2 al nn du q => PySem.W.lt_data r1 r2 al nn du q)
  (cmp_cases (fun _ _ => rfl) fun a b => by cases a <;> cases b <;> first | exact .inl ⟨_, _, rfl, rfl⟩ | exact .inr rfl)
theorem ho_gt (hu : X.A.units + 100 < cLine) : OpR X (compareOp .Gt) (rD X.K gtD) := opOr (opInt0 (g' := fun i j => .bool (decide (j < i))) (fun i j H L => .bl _) op_gt) (ho_cmpG (g := fun a b => PySem.W.dataLt b a) hu fun r1 r2 al nn du q => PySem.W.gt_data r1 r2 al nn du q)
  (cmp_cases (fun _ _ => rfl) fun a b => by cases a <;> cases b <;> first | exact .inl ⟨_, _, rfl, rfl⟩ | exact .inr rfl)
theorem ho_le (hu : X.A.units + 100 < cLine) : OpR X (compareOp .LtE) (rD X.K leD) := opOr (opInt0 (g' := fun i j => .bool (decide (i ≤ j))) (fun i j H L => .bl _) op_le) (ho_cmpG (g := fun a b => !PySem.W.dataLt b a) hu fun r1 r2 al nn du q => PySem.W.le_data r1 r2 al nn du q)
  (cmp_cases (fun _ _ => rfl) fun a b => by cases a <;> cases b <;> first | exact .inl ⟨_, _, rfl, rfl⟩ | exact .inr rfl)
theorem ho_ge (hu : X.A.units + 100 < cLine) : OpR X (compareOp .GtE) (rD X.K geD) := opOr (opInt0 (g' := fun i j => .bool (decide (j ≤ i))) (fun i j H L => .bl _) op_ge) (ho_cmpG (g := fun a b => !PySem.W.dataLt a b) hu fun r1 r2 al nn du q => PySem.W.ge_data r1 r2 al nn du q)
  (cmp_cases (fun _ _ => rfl) fun a b => by cases a <;> cases b <;> first | exact .inl ⟨_, _, rfl, rfl⟩ | exact .inr rfl)
end
end DL
namespace DL
open PySem PySem.Spec L2
section
variable {X : Cx} {pins : List (Addr × Obj)} {σ : L2.St} {H : Hp} {s : Shared} {L : AdP}

/-! ### in, not in -/
def keyK : PyData → Option Key
  | .int i => some (.inl i)
  | .str x => some (.inr x)
  | _ => none
def keysK : List PyData → Option (List Key)
  | [] => some []
  | d :: ds => match keyK d, keysK ds with | some k, some ks => some (k :: ks) | _, _ => none
theorem keyK_eq {d : PyData} {k : Key} (h : keyK d = some k) : d = keyD k := by
  cases d <;> simp [keyK] at h <;> subst h <;> rfl
theorem keysK_eq : ∀ {ds : List PyData} {ks : List Key}, keysK ds = some ks → ds = ks.map keyD
  | [], ks, h => by cases h; rfl
  | d :: ds, ks, h => by
    unfold keysK at h
    split at h
    · rename_i h1 h2
      cases h
      rw [keyK_eq h1, keysK_eq h2]; rfl
    · cases h
theorem keyD_inj {a b : Key} (h : keyD a = keyD b) : a = b := by
  cases a <;> cases b <;> simp [keyD] at h <;> rw [h]
theorem keyDs_inj : ∀ {a b : List Key}, a.map keyD = b.map keyD → a = b
  | [], [], _ => rfl
  | [], _ :: _, h => by simp at h
  | _ :: _, [], h => by simp at h
  | x :: xs, y :: ys, h => by
    simp only [List.map_cons, List.cons.injEq] at h
    rw [keyD_inj h.1, keyDs_inj h.2]
theorem keyT_inj {a b : List Key} (h : keyT a = keyT b) : a = b := by
  injection h with h
  exact keyDs_inj h
theorem at_key {v : V} {k : Key} (h : At H L v (keyD k)) : v = kV k := by
  cases k with
  | inl i => cases h; rfl
  | inr x => cases h; rfl
theorem at_keys : ∀ {vs : List V} {ks : List Key}, AtL H L vs (ks.map keyD) → vs = ks.map kV
  | _, [], h => by cases h; rfl
  | _, k :: ks, h => by
    cases h with
    | cons a b => rw [at_key a, at_keys b]; rfl
/-- look up; equal keys are the same -/
def getK (dd : List (PyData × PyData)) (k : PyData) : Option PyData := (dd.find? fun p => PyData.eqv p.1 k).map (·.2)
/-- plain keys: ints, texts; tuples of these -/
def isKey : PyData → Bool
  | .int _ => true
  | .str _ => true
  | .tuple xs => (keysK xs).isSome
  | _ => false
theorem eqv_keyD (a b : Key) : PyData.eqv (keyD a) (keyD b) = decide (a = b) := by
  cases a with
  | inl i =>
    cases b with
    | inl j =>
      show (i == j) = _
      rw [key_ll]
    | inr y => rw [key_lr]; rfl
  | inr x =>
    cases b with
    | inl j => rw [key_rl]; rfl
    | inr y =>
      show (x == y) = _
      rw [key_rr, Bool.beq_eq_decide_eq]
theorem eqv_keyT : ∀ (a b : List Key), PyData.eqvAll (a.map keyD) (b.map keyD) = decide (a = b)
  | [], [] => by simp [PyData.eqvAll]
  | [], _ :: _ => by simp [PyData.eqvAll]
  | _ :: _, [] => by simp [PyData.eqvAll]
  | x :: xs, y :: ys => by
    rw [List.map_cons, List.map_cons, PyData.eqvAll, eqv_keyD, eqv_keyT xs ys]
    by_cases h : x = y <;> by_cases h' : xs = ys <;> simp [h, h']
theorem getK_dK : ∀ {kvs : List (Key × V)} {dd : List (PyData × PyData)} (k : Key), dd.map (·.1) = kvs.map (fun p => keyD p.1) → AtL H L (kvs.map (·.2)) (dd.map (·.2)) →
    match getK dd (keyD k) with | none => valV kvs k = none | some d => ∃ v, valV kvs k = some v ∧ At H L v d
  | [], [], _, _, _ => rfl
  | [], _ :: _, _, h, _ => by simp at h
  | _ :: _, [], _, h, _ => by simp at h
  | (k', v) :: kvs, (e, d) :: dd, k, h, r => by
    simp only [List.map_cons, List.cons.injEq] at h
    obtain ⟨rfl, h⟩ := h
    have ih := getK_dK (kvs := kvs) (dd := dd) k h
    cases r with
    | cons r1 r2 =>
      unfold getK
      rw [List.find?_cons]
      simp only [eqv_keyD]
      by_cases e : k' = k
      · subst e
        simp only [decide_true, Option.map_some]
        exact ⟨v, valV_pos rfl, r1⟩
      · rw [decide_eq_false e, valV_neg e]
        exact ih r2
theorem getK_dT : ∀ {kvs : List (List Key × V)} {dd : List (PyData × PyData)} (k : List Key), dd.map (·.1) = kvs.map (fun p => keyT p.1) → AtL H L (kvs.map (·.2)) (dd.map (·.2)) →
    match getK dd (keyT k) with | none => valV kvs k = none | some d => ∃ v, valV kvs k = some v ∧ At H L v d
  | [], [], _, _, _ => rfl
  | [], _ :: _, _, h, _ => by simp at h
  | _ :: _, [], _, h, _ => by simp at h
  | (k', v) :: kvs, (e, d) :: dd, k, h, r => by
    simp only [List.map_cons, List.cons.injEq] at h
    obtain ⟨rfl, h⟩ := h
    have ih := getK_dT (kvs := kvs) (dd := dd) k h
    cases r with
    | cons r1 r2 =>
      unfold getK
      rw [List.find?_cons]
      have q : PyData.eqv (keyT k') (keyT k) = decide (k' = k) := eqv_keyT k' k
      simp only [q]
      by_cases e : k' = k
      · subst e
        simp only [decide_true, Option.map_some]
        exact ⟨v, valV_pos rfl, r1⟩
      · rw [decide_eq_false e, valV_neg e]
        exact ih r2
/-- a dict and a key of its kind -/
def keyFor (dd : List (PyData × PyData)) (k : PyData) : Bool := match k with
  | .int _ => dd.all fun p => match p.1 with | .tuple _ => false | _ => true
  | .str _ => dd.all fun p => match p.1 with | .tuple _ => false | _ => true
  | .tuple xs => (keysK xs).isSome && dd.all fun p => match p.1 with | .tuple _ => true | _ => false
  | _ => false

theorem dK_emptyH {a : Addr} (I : Inv X pins σ H s) (e : Rd H a (.dK [])) : s.heap.DictOfH (tupleKind (mixKind X.prog X.w)) a [] := by
  obtain ⟨_, _, vs, r, o, es, ep, h1, h2, h3, h4, h5, h6⟩ := dk_rd I.hok e
  cases r
  have e0 : es.toList = [] := by
    generalize es.toList = l at h5
    cases h5
    rfl
  exact ⟨o, es, ep, h1, h2, h3, by rw [e0]; rfl, fun x hx => (nomatch hx), List.nodup_nil⟩
theorem dT_emptyO {a : Addr} (I : Inv X pins σ H s) (e : Rd H a (.dT [])) : s.heap.DictOf (mixKind X.prog X.w) a [] := by
  obtain ⟨_, _, vs, r, o, es, ep, h1, h2, h3, h4, _, h6⟩ := dt_rd I.hok e
  cases r
  have e0 : es.toList = [] := by rw [h4]; rfl
  refine ⟨o, es, ep, h1, h2, h3, fun x hx => ?_, by rw [e0]; exact .nil, List.nodup_nil⟩
  have : x ∈ es.toList := by simpa using hx
  rw [e0] at this
  exact nomatch this
/-- a key as a value, by its kind -/
def isKK : PyData → Bool
  | .int _ => true
  | .str _ => true
  | _ => false
def isKT : PyData → Bool
  | .tuple xs => (keysK xs).isSome
  | _ => false
def keyOk (dd : List (PyData × PyData)) (k : PyData) : Bool := (isKK k && dd.all fun p => isKK p.1) || (isKT k && dd.all fun p => isKT p.1)
theorem isKK_key {d : PyData} (h : isKK d = true) : ∃ k, d = keyD k := by
  cases d <;> first | exact ⟨.inl _, rfl⟩ | exact ⟨.inr _, rfl⟩ | cases h
theorem isKT_key {d : PyData} (h : isKT d = true) : ∃ k, d = keyT k := by
  cases d <;> first | cases h | skip
  rename_i xs
  unfold isKT at h
  obtain ⟨ks, e⟩ := Option.isSome_iff_exists.mp h
  exact ⟨ks, by rw [keysK_eq e]; rfl⟩
theorem kk_not_kt {k : Key} : isKT (keyD k) = false := by cases k <;> rfl
theorem kt_not_kk {k : List Key} : isKK (keyT k) = false := rfl
/-- what a dict's look-up gives, whichever kind it began as -/
inductive DLook (H : Hp) (L : AdP) (a : Addr) (y : V) : Option PyData → Prop
  | none : DGet H a y none → DLook H L a y none
  | some {v : V} {d : PyData} : DGet H a y (some v) → At H L v d → DLook H L a y (some d)
  | emK {b : Addr} {k : List Key} : Rd H a (.dK []) → y = .ref b → H b = some (.tup (k.map kV)) → DLook H L a y none
  | emT {k : Key} : Rd H a (.dT []) → y = kV k → DLook H L a y none
theorem dlook {K : PySem.W.Frag} {x y : V} {dd : List (PyData × PyData)} {k : PyData} (h1 : Vw K H L x (.dict dd)) (h2 : Vw K H L y k) (h3 : keyOk dd k = true) : ∃ a, x = .ref a ∧ DLook H L a y (getK dd k) := by
  obtain ⟨a, rfl, h⟩ := h1.dict_inv
  refine ⟨a, rfl, ?_⟩
  have yk : ∀ key, k = keyD key → y = kV key := fun key e => by
    subst e
    cases key with
    | inl i => exact h2.int_inv
    | inr x => exact h2.str_inv
  have yt : ∀ key, k = keyT key → ∃ b, y = .ref b ∧ H b = some (.tup (key.map kV)) := fun key e => by
    subst e
    cases h2.tuple_at with
    | tup n e r => exact ⟨_, rfl, by rw [e, at_keys r]⟩
  unfold keyOk at h3
  rw [Bool.or_eq_true, Bool.and_eq_true, Bool.and_eq_true] at h3
  rcases h with ⟨kvs, e, ks, r⟩ | ⟨kvs, e, ks, r⟩
  · rcases h3 with ⟨k1, k2⟩ | ⟨k1, k2⟩
    · obtain ⟨key, rfl⟩ := isKK_key k1
      have g := getK_dK key ks r
      have ey := yk key rfl
      cases q : getK dd (keyD key) with
      | none => rw [q] at g; exact .none (.inl ⟨kvs, key, e, ey, g.symm⟩)
      | some d =>
        rw [q] at g
        obtain ⟨v, g1, g2⟩ := g
        exact .some (.inl ⟨kvs, key, e, ey, g1.symm⟩) g2
    · obtain ⟨key, rfl⟩ := isKT_key k1
      obtain ⟨b, ey, eb⟩ := yt key rfl
      cases dd with
      | nil =>
        have : kvs = [] := by
          cases kvs with
          | nil => rfl
          | cons p q => simp at ks
        subst this
        exact .emK e ey eb
      | cons p dd =>
        rw [List.all_cons, Bool.and_eq_true] at k2
        cases kvs with
        | nil => simp at ks
        | cons q kvs =>
          simp only [List.map_cons, List.cons.injEq] at ks
          rw [ks.1, kk_not_kt] at k2
          cases k2.1
  · rcases h3 with ⟨k1, k2⟩ | ⟨k1, k2⟩
    · obtain ⟨key, rfl⟩ := isKK_key k1
      have ey := yk key rfl
      cases dd with
      | nil =>
        have : kvs = [] := by
          cases kvs with
          | nil => rfl
          | cons p q => simp at ks
        subst this
        exact .emT e ey
      | cons p dd =>
        rw [List.all_cons, Bool.and_eq_true] at k2
        cases kvs with
        | nil => simp at ks
        | cons q kvs =>
          simp only [List.map_cons, List.cons.injEq] at ks
          rw [ks.1, kt_not_kk] at k2
          cases k2.1
    · obtain ⟨key, rfl⟩ := isKT_key k1
      have g := getK_dT key ks r
      obtain ⟨b, ey, eb⟩ := yt key rfl
      cases q : getK dd (keyT key) with
      | none => rw [q] at g; exact .none (.inr ⟨kvs, key, b, e, ey, eb, g.symm⟩)
      | some d =>
        rw [q] at g
        obtain ⟨v, g1, g2⟩ := g
        exact .some (.inr ⟨kvs, key, b, e, ey, eb, g1.symm⟩) g2
theorem look_in {a : Addr} {y : V} {u : Value} {o : Option PyData} {A : Around} {E : Value → Shared → Prop} {Q : Value → Shared → Prop} (hu : A.units + 1 < cLine) (I : Inv X pins σ H s) (g : DLook H L a y o) (ry : RelV y u) (h : ∀ s', Inv X pins σ H s' → Q (.bool o.isSome) s') :
    wpAny (model X.prog X.w) A (compareOp .In u (.ref a)) Q E s := by
  cases g with
  | none g => exact d_in hu I g ry h
  | some g _ => exact d_in hu I g ry h
  | emK e ey eb =>
    subst ey
    cases (show u = Value.ref _ from ry)
    obtain ⟨_, hd, _⟩ := dk_rd I.hok e
    exact wpAny_in_heap (tupleKind_room_in1 hu) (key_of I.hok eb) hd (dK_emptyH I e) (h _ (I.tok _))
  | emT e ey =>
    subst ey
    obtain ⟨_, hd, _⟩ := dt_rd I.hok e
    exact wpAny_in_of (kV_is ry) hd (dT_emptyO I e).mapOf (h _ (I.tok _))
theorem look_notIn {a : Addr} {y : V} {u : Value} {o : Option PyData} {A : Around} {E : Value → Shared → Prop} {Q : Value → Shared → Prop} (hu : A.units + 1 < cLine) (I : Inv X pins σ H s) (g : DLook H L a y o) (ry : RelV y u) (h : ∀ s', Inv X pins σ H s' → Q (.bool (!o.isSome)) s') :
    wpAny (model X.prog X.w) A (compareOp .NotIn u (.ref a)) Q E s := by
  cases g with
  | none g => exact d_notIn hu I g ry h
  | some g _ => exact d_notIn hu I g ry h
  | emK e ey eb =>
    subst ey
    cases (show u = Value.ref _ from ry)
    obtain ⟨_, hd, _⟩ := dk_rd I.hok e
    exact PyProof.Rows.wpAny_notIn_heap (tupleKind_room_in1 hu) (key_of I.hok eb) hd (dK_emptyH I e) (h _ (I.tok _))
  | emT e ey =>
    subst ey
    obtain ⟨_, hd, _⟩ := dt_rd I.hok e
    exact wpAny_notIn_of (kV_is ry) hd (dT_emptyO I e).mapOf (h _ (I.tok _))
/-- the data in of a place that is walked: whether some item is equal -/
def anyEq (xs : List PyData) (d : PyData) : Bool := xs.any fun y => PyData.eqv y d
def inD (x c : PyData) : Option PyData := match c with
  | .list xs => if xs.all fit = true ∧ fit x = true then some (.bool (anyEq xs x)) else none
  | .tuple xs => if xs.all fit = true ∧ fit x = true then some (.bool (anyEq xs x)) else none
  | .dict dd => if keyOk dd x = true then some (.bool (getK dd x).isSome) else none
  | .str z => match x with | .str y => some (.bool (!(Builtin.Str.occurrences z y 0 z.length 1).isEmpty)) | _ => none
  | _ => none
def notInD (x c : PyData) : Option PyData := match c with
  | .list xs => if xs.all fit = true ∧ fit x = true then some (.bool (!anyEq xs x)) else none
  | .tuple xs => if xs.all fit = true ∧ fit x = true then some (.bool (!anyEq xs x)) else none
  | .dict dd => if keyOk dd x = true then some (.bool (!(getK dd x).isSome)) else none
  | .str z => match x with | .str y => some (.bool (!(!(Builtin.Str.occurrences z y 0 z.length 1).isEmpty))) | _ => none
  | _ => none
theorem fit_list {xs : List PyData} (h : xs.all fit = true) : PyData.plain (.list xs) = true ∧ PyData.plain (.tuple xs) = true := by
  obtain ⟨a, _⟩ := fitL_ok h
  exact ⟨by rw [PyData.plain, a], by rw [PyData.plain, a]⟩
theorem ho_in (hu : X.A.units + 100 < cLine) : OpR X (compareOp .In) (rD X.K inD) := by
  intro pins s σ H x y v u Q I rx ry hq
  obtain ⟨L, a, b, r, hl, ha, hb, e, q⟩ := hq
  unfold inD at e
  split at e
  · split at e
    · rename_i xs hc
      cases e
      obtain ⟨pa, da⟩ := fitN_ok 20 a hc.2
      obtain ⟨pb, db⟩ := fitL_ok hc.1
      obtain ⟨as, r1⟩ := ha.reads I rx pa
      obtain ⟨bs, r2⟩ := hb.reads I ry (fit_list hc.1).1
      exact PySem.SeqAt.in_list_data r2 r1 pb pa (by omega) ⟨.bl _, H, I, rfl, q _ _ (fun _ _ z => z) (.bl _)⟩
    · cases e
  · split at e
    · rename_i xs hc
      cases e
      obtain ⟨pa, da⟩ := fitN_ok 20 a hc.2
      obtain ⟨pb, db⟩ := fitL_ok hc.1
      obtain ⟨as, r1⟩ := ha.reads I rx pa
      obtain ⟨bs, r2⟩ := hb.reads I ry (fit_list hc.1).2
      exact PySem.SeqAt.in_tuple_data r2 r1 pb pa (by omega) ⟨.bl _, H, I, rfl, q _ _ (fun _ _ z => z) (.bl _)⟩
    · cases e
  · split at e
    · rename_i dd hc
      cases e
      obtain ⟨p, rfl, g⟩ := dlook hb ha hc
      cases ry
      exact look_in (by omega) I g rx fun s' I' => ⟨.bl _, H, I', rfl, q _ _ (fun _ _ z => z) (.bl _)⟩
    · cases e
  · split at e
    · cases e
      have e1 := ha.str_inv
      have e2 := hb.str_inv
      subst e1; subst e2
      exact op_in_str pins s σ H _ _ v u Q I rx ry ⟨_, _, rfl, rfl, q _ _ (fun _ _ z => z) (.bl _)⟩
    · cases e
  · cases e
theorem ho_notIn (hu : X.A.units + 100 < cLine) : OpR X (compareOp .NotIn) (rD X.K notInD) := by
  intro pins s σ H x y v u Q I rx ry hq
  obtain ⟨L, a, b, r, hl, ha, hb, e, q⟩ := hq
  unfold notInD at e
  split at e
  · split at e
    · rename_i xs hc
      cases e
      obtain ⟨pa, da⟩ := fitN_ok 20 a hc.2
      obtain ⟨pb, db⟩ := fitL_ok hc.1
      obtain ⟨as, r1⟩ := ha.reads I rx pa
      obtain ⟨bs, r2⟩ := hb.reads I ry (fit_list hc.1).1
      exact PySem.SeqAt.notIn_list_data r2 r1 pb pa (by omega) ⟨.bl _, H, I, rfl, q _ _ (fun _ _ z => z) (.bl _)⟩
    · cases e
  · split at e
    · rename_i xs hc
      cases e
      obtain ⟨pa, da⟩ := fitN_ok 20 a hc.2
      obtain ⟨pb, db⟩ := fitL_ok hc.1
      obtain ⟨as, r1⟩ := ha.reads I rx pa
      obtain ⟨bs, r2⟩ := hb.reads I ry (fit_list hc.1).2
      exact PySem.SeqAt.notIn_tuple_data r2 r1 pb pa (by omega) ⟨.bl _, H, I, rfl, q _ _ (fun _ _ z => z) (.bl _)⟩
    · cases e
  · split at e
    · rename_i dd hc
      cases e
      obtain ⟨p, rfl, g⟩ := dlook hb ha hc
      cases ry
      exact look_notIn (by omega) I g rx fun s' I' => ⟨.bl _, H, I', rfl, q _ _ (fun _ _ z => z) (.bl _)⟩
    · cases e
  · split at e
    · cases e
      have e1 := ha.str_inv
      have e2 := hb.str_inv
      subst e1; subst e2
      exact op_notin_str pins s σ H _ _ v u Q I rx ry ⟨_, _, rfl, rfl, q _ _ (fun _ _ z => z) (.bl _)⟩
    · cases e
  · cases e
/-! is None -/
def isND (x : PyData) : Bool := match x with | .none => true | _ => false
def isD (x y : PyData) : Option PyData := match y with
  | .none => some (.bool (isND x))
  | .bool b => (match x with | .bool a => some (.bool (decide (a = b))) | _ => none)
  | _ => none
def isNotD (x y : PyData) : Option PyData := match y with
  | .none => some (.bool (!isND x))
  | .bool b => (match x with | .bool a => some (.bool (!decide (a = b))) | _ => none)
  | _ => none
theorem Vw.isN {K : PySem.W.Frag} {v : V} {d : PyData} (h : Vw K H L v d) : decide (v = .non) = isND d := by
  cases h with
  | dat h => cases h <;> first | rfl | exact decide_eq_false (fun z => nomatch z)
  | ob h =>
    rw [decide_eq_false (fun z => nomatch z)]
    cases d <;> first | rfl | exact h.elim
theorem ho_is : OpR X (compareOp .Is) (rD X.K isD) := by
  intro pins s σ H x y v u Q I rx ry hq
  obtain ⟨L, a, b, r, hl, ha, hb, e, q⟩ := hq
  cases b with
  | none =>
    cases e
    have e2 := hb.none_inv
    subst e2
    exact op_isN pins s σ H _ _ v u Q I rx ry ⟨rfl, by rw [ha.isN]; exact q _ _ (fun _ _ z => z) (.bl _)⟩
  | bool b =>
    cases a with
    | bool a =>
      cases e
      have e2 := hb.bl_inv
      have e1 := ha.bl_inv
      subst e1 e2
      exact op_isBl pins s σ H _ _ v u Q I rx ry ⟨a, b, rfl, rfl, q _ _ (fun _ _ z => z) (.bl _)⟩
    | _ => cases e
  | _ => cases e
theorem ho_isNot : OpR X (compareOp .IsNot) (rD X.K isNotD) := by
  intro pins s σ H x y v u Q I rx ry hq
  obtain ⟨L, a, b, r, hl, ha, hb, e, q⟩ := hq
  cases b with
  | none =>
    cases e
    have e2 := hb.none_inv
    subst e2
    exact op_notN pins s σ H _ _ v u Q I rx ry ⟨rfl, by rw [ha.isN]; exact q _ _ (fun _ _ z => z) (.bl _)⟩
  | bool b =>
    cases a with
    | bool a =>
      cases e
      have e2 := hb.bl_inv
      have e1 := ha.bl_inv
      subst e1 e2
      exact op_notBl pins s σ H _ _ v u Q I rx ry ⟨a, b, rfl, rfl, q _ _ (fun _ _ z => z) (.bl _)⟩
    | _ => cases e
  | _ => cases e
end
end DL
namespace DL
open PySem PySem.Spec L2
open PyProof.Rows hiding St
section
variable {X : Cx} {pins : List (Addr × Obj)} {σ : L2.St} {H : Hp} {s : Shared} {L : AdP}
/-! ### a[b] -/
def ixD (c k : PyData) : Option PyData := match c with
  | .list xs => match k with | .int i => atI xs i | _ => none
  | .tuple xs => match k with | .int i => atI xs i | _ => none
  | .str z => match k with | .int i => if z.length ≤ sizeLine then (atI z.cps.toList i).map fun c => .str ⟨#[c]⟩ else none | _ => none
  | .dict dd => if keyOk dd k = true then getK dd k else none
  | _ => none
theorem atI_at {xs : List V} {ds : List PyData} {i : Int} {d : PyData} (r : AtL H L xs ds) (h : atI ds i = some d) : ∃ v, atI xs i = some v ∧ At H L v d := by
  unfold atI at h ⊢
  rw [r.length]
  cases e : ixN ds.length i with
  | none => rw [e] at h; cases h
  | some j =>
    rw [e] at h
    exact r.get h
theorem ix_dict (hu : X.A.units + 1 < cLine) : IxR X (fun x y H Q => ∃ a v, x = .ref a ∧ DGet H a y (some v) ∧ Q v H) := by
  intro value slice pins s σ H x y v u Q I rx ry h hs
  obtain ⟨a, z, rfl, g, q⟩ := h
  cases rx
  have hT := dict_typeIs I g
  unfold subscriptTail
  refine wpAny_bind ?_
  rw [getitemInPython_of_ne hT.not_modules]
  refine wpAny_bind (wpAny_specialOf hT PySem.F.slot_dict_getitem.lookup ?_)
  have fin : wpAny (model X.prog X.w) X.A (subscripted slice false (.ref a) u) (fun r s₃ => wpAny (model X.prog X.w) X.A (letTemporaryGo value (.ref a) r >>= fun _ => pure r) (EP X pins σ Q) X.xe s₃) X.xe s := by
    rw [hs]
    exact wpAny_operating (d_getItem hu I g ry fun w' s' I' rw' => wpAny_bind (wpAny_letTemporaryGo (wpAny_pure ⟨z, H, I', rw', q⟩)))
  first
    | exact wpAny_pure (wpAny_bind fin)
    | exact wpAny_bind (wpAny_pure (wpAny_bind fin))
    | exact wpAny_bind fin
theorem hx_ix (hu : X.A.units + 100 < cLine) : IxR X (rD X.K ixD) := by
  intro value slice pins s σ H x y v u Q I rx ry h hs
  obtain ⟨L, a, b, r, hl, ha, hb, e, q⟩ := h
  unfold ixD at e
  split at e
  · split at e
    · obtain ⟨p, xs, rfl, h1, r1⟩ := ha.list_inv
      have e2 := hb.int_inv
      subst e2
      obtain ⟨w, g1, g2⟩ := atI_at r1 e
      exact ix_list value slice pins s σ H _ _ v u Q I rx ry ⟨p, xs, _, w, rfl, rfl, h1, g1, q _ _ (fun _ _ z => z) g2⟩ hs
    · cases e
  · split at e
    · obtain ⟨p, xs, rfl, h1, r1⟩ := ha.tuple_inv
      have e2 := hb.int_inv
      subst e2
      obtain ⟨w, g1, g2⟩ := atI_at r1 e
      exact ix_tup value slice pins s σ H _ _ v u Q I rx ry ⟨p, xs, _, w, rfl, rfl, h1, g1, q _ _ (fun _ _ z => z) g2⟩ hs
    · cases e
  · split at e
    · split at e
      · rename_i hz
        obtain ⟨c, e1, e2⟩ := Option.map_eq_some_iff.mp e
        subst e2
        have e3 := ha.str_inv
        have e4 := hb.int_inv
        subst e3; subst e4
        exact ix_str value slice pins s σ H _ _ v u Q I rx ry ⟨_, _, c, rfl, rfl, hz, e1, q _ _ (fun _ _ z => z) (.str _)⟩ hs
      · cases e
    · cases e
  · split at e
    · rename_i dd hk
      obtain ⟨p, rfl, g⟩ := dlook ha hb hk
      rw [e] at g
      cases g with
      | some g g2 => exact ix_dict (by omega) value slice pins s σ H _ _ v u Q I rx ry ⟨p, _, rfl, g, q _ _ (fun _ _ z => z) g2⟩ hs
    · cases e
  · cases e

/-! ### slices -/
def sliceD (c : PyData) (lo hi : Option Int) : Option PyData := match c with
  | .tuple xs => some (.tuple ((xs.drop (HT.sIx xs.length 0 lo)).take (HT.sIx xs.length xs.length hi - HT.sIx xs.length 0 lo)))
  | _ => none
def sliceL (c : PyData) (lo hi : Option Int) : Option (List PyData) := match c with
  | .list xs => some ((xs.drop (HT.sIx xs.length 0 lo)).take (HT.sIx xs.length xs.length hi - HT.sIx xs.length 0 lo))
  | _ => none
theorem AtL.cut {xs : List V} {ds : List PyData} (r : AtL H L xs ds) (lo hi : Option Int) : AtL H L (cutV xs lo hi) ((ds.drop (HT.sIx ds.length 0 lo)).take (HT.sIx ds.length ds.length hi - HT.sIx ds.length 0 lo)) := by
  unfold cutV
  rw [r.length]
  exact (r.drop _).take _

/-! ### truth -/
def truthD (d : PyData) : Option Bool := match d with
  | .none => some false
  | .bool b => some b
  | .int i => some (i != 0)
  | .str x => if x.length ≤ sizeLine then some ((x.length : Int) != 0) else none
  | .list xs => some (!xs.isEmpty)
  | .tuple xs => some (!xs.isEmpty)
  | .dict _ => none
theorem isEmpty_len {α β : Type} {xs : List α} {ys : List β} (h : xs.length = ys.length) : xs.isEmpty = ys.isEmpty := by
  cases xs <;> cases ys <;> first | rfl | simp at h
theorem truth_ok {K : PySem.W.Frag} {v : V} {d : PyData} {b : Bool} (h : Vw K H L v d) (e : truthD d = some b) : TruV K v H b := by
  cases d with
  | none => cases h.none_inv; cases e; exact rfl
  | bool => cases h.bl_inv; cases e; exact rfl
  | int => cases h.int_inv; cases e; exact rfl
  | str x =>
    cases h.str_inv
    have e : (if x.length ≤ sizeLine then some ((x.length : Int) != 0) else none) = some b := e
    split at e
    · rename_i hz
      cases e
      exact ⟨hz, rfl⟩
    · cases e
  | list xs =>
    cases e
    obtain ⟨p, ys, rfl, h1, r1⟩ := h.list_inv
    exact .inl ⟨ys, h1, by rw [isEmpty_len r1.length]⟩
  | tuple xs =>
    cases e
    obtain ⟨p, ys, rfl, h1, r1⟩ := h.tuple_inv
    exact .inr (.inl ⟨ys, h1, by rw [isEmpty_len r1.length]⟩)
  | dict => cases e
end
end DL
namespace DL
open PySem PySem.Spec L2
open PyProof.Rows hiding St
section
variable {X : Cx} {pins : List (Addr × Obj)} {σ : L2.St} {H : Hp} {s : Shared} {L : AdP}
inductive VwL (K : PySem.W.Frag) (H : Hp) (L : AdP) : List V → List PyData → Prop
  | nil : VwL K H L [] []
  | cons {v : V} {vs : List V} {d : PyData} {ds : List PyData} : Vw K H L v d → VwL K H L vs ds → VwL K H L (v :: vs) (d :: ds)
abbrev GrL (H : Hp) (L : AdP) (Q : VK) (rs : List PyData) : Prop := ∀ p ws H', H p = none → (∀ a o, H a = some o → H' a = some o) → H' p = some (.lst ws) → AtL H L ws rs → Q (.ref p) H'
def rCD (K : PySem.W.Frag) (op : List PyData → Option PyData) : List V → Hp → VK → Prop := fun vs H Q => ∃ (L : AdP) (ds : List PyData) (r : PyData), (∀ z, L z → H z ≠ none) ∧ VwL K H L vs ds ∧ op ds = some r ∧ Gr H L Q r
def rCL (K : PySem.W.Frag) (op : List PyData → Option (List PyData)) : List V → Hp → VK → Prop := fun vs H Q => ∃ (L : AdP) (ds rs : List PyData), (∀ z, L z → H z ≠ none) ∧ VwL K H L vs ds ∧ op ds = some rs ∧ GrL H L Q rs
theorem VwL.one {K : PySem.W.Frag} {vs : List V} {d : PyData} (h : VwL K H L vs [d]) : ∃ v, vs = [v] ∧ Vw K H L v d := by
  cases h with | cons a b => cases b; exact ⟨_, rfl, a⟩
theorem VwL.two {K : PySem.W.Frag} {vs : List V} {d e : PyData} (h : VwL K H L vs [d, e]) : ∃ v w, vs = [v, w] ∧ Vw K H L v d ∧ Vw K H L w e := by
  cases h with | cons a b => cases b with | cons b c => cases c; exact ⟨_, _, rfl, a, b⟩
theorem Vw.isList (I : Inv X pins σ H s) {v : V} {ds : List PyData} (h : Vw X.K H L v (.list ds)) : ∃ a xs its, v = .ref a ∧ Vals xs its ∧ s.heap.IsList a its.toArray ∧ SqL X.K H a xs ∧ AtL H L xs ds ∧ its.length = ds.length ∧ ds.length ≤ sizeLine := by
  obtain ⟨a, xs, rfl, h1, r1⟩ := h.list_inv
  obtain ⟨its, rv, pl, hz⟩ := I.list h1
  have e1 := rv.length
  have e2 := r1.length
  exact ⟨a, xs, its, rfl, rv, pl.isList, h1, r1, by omega, by omega⟩
theorem Vw.isTup (I : Inv X pins σ H s) {v : V} {ds : List PyData} (h : Vw X.K H L v (.tuple ds)) : ∃ a xs its, v = .ref a ∧ Vals xs its ∧ s.heap.IsTuple a its.toArray ∧ SqT X.K H a xs ∧ AtL H L xs ds ∧ its.length = ds.length ∧ ds.length ≤ sizeLine := by
  obtain ⟨a, xs, rfl, h1, r1⟩ := h.tuple_inv
  obtain ⟨its, rv, pl, hz⟩ := I.tuple h1
  have e1 := rv.length
  have e2 := r1.length
  exact ⟨a, xs, its, rfl, rv, pl, h1, r1, by omega, by omega⟩
theorem AtL.reads (I : Inv X pins σ H s) {xs : List V} {its : List Value} {ds : List PyData} (r : AtL H L xs ds) (rv : Vals xs its) (p : PyData.plainAll ds = true) : ∃ as, ReadsAll s.heap its ds as := Dp.readsAll I ds xs its (AtL.dp ds r p) rv

/-! len -/
def lenD : List PyData → Option PyData
  | [.str x] => if x.length ≤ sizeLine then some (.int (x.length : Nat)) else none
  | [.list xs] => some (.int (xs.length : Nat))
  | [.tuple xs] => some (.int (xs.length : Nat))
  | [.dict dd] => some (.int (dd.length : Nat))
  | _ => none
theorem dT_len {Q : Value → Shared → Prop} {a : Addr} {kvs : List (List Key × V)} {A : Around} {E : Value → Shared → Prop} (I : Inv X pins σ H s) (e : Rd H a (.dT kvs)) (h : ∀ t s', Inv X pins σ H s' → Q (.int kvs.length t) s') : wpAny (model X.prog X.w) A (call (.builtin "len") [.ref a]) Q E s := by
  obtain ⟨hz, hd, xs, rel, dd⟩ := dt_rd I.hok e
  have hl : kvs.length = xs.length := Paired.length rel
  refine call_len_dictH hd dd (by rw [← hl]; rw [sizeLine_eq] at hz; omega) ?_
  rw [← hl]
  exact h _ _ (I.tok _)
theorem hc_len : CallR X (.builtin "len") (rCD X.K lenD) := by
  intro pins s σ H vs us Q I rs h
  obtain ⟨L, ds, r, hl, hv, e, q⟩ := h
  unfold lenD at e
  split at e
  · obtain ⟨v, rfl, h1⟩ := hv.one
    split at e
    · rename_i hz
      cases e
      have e1 := h1.str_inv
      subst e1
      exact call_len pins s σ H _ us Q I rs ⟨_, _, rfl, ⟨hz, rfl⟩, q _ _ (fun _ _ z => z) (.int _)⟩
    · cases e
  · obtain ⟨v, rfl, h1⟩ := hv.one
    cases e
    obtain ⟨a, xs, rfl, h2, r2⟩ := h1.list_inv
    exact call_len pins s σ H _ us Q I rs ⟨_, _, rfl, .inl ⟨xs, h2, rfl⟩, by rw [r2.length]; exact q _ _ (fun _ _ z => z) (.int _)⟩
  · obtain ⟨v, rfl, h1⟩ := hv.one
    cases e
    obtain ⟨a, xs, rfl, h2, r2⟩ := h1.tuple_inv
    exact call_len pins s σ H _ us Q I rs ⟨_, _, rfl, .inr ⟨xs, h2, rfl⟩, by rw [r2.length]; exact q _ _ (fun _ _ z => z) (.int _)⟩
  · obtain ⟨v, rfl, h1⟩ := hv.one
    cases e
    obtain ⟨a, rfl, ⟨kvs, h2, k, r2⟩ | ⟨kvs, h2, k, r2⟩⟩ := h1.dict_inv
    · obtain ⟨u, rfl, ru⟩ := vals1 rs
      cases ru
      have e := congrArg List.length k
      simp only [List.length_map] at e
      refine d_len I h2 fun t s' I' => ⟨.int kvs.length, H, I', ⟨t, rfl⟩, ?_⟩
      rw [← e]
      exact q _ _ (fun _ _ z => z) (.int _)
    · obtain ⟨u, rfl, ru⟩ := vals1 rs
      cases ru
      have e := congrArg List.length k
      simp only [List.length_map] at e
      refine dT_len I h2 fun t s' I' => ⟨.int kvs.length, H, I', ⟨t, rfl⟩, ?_⟩
      rw [← e]
      exact q _ _ (fun _ _ z => z) (.int _)
  · cases e
/-! abs, int, str -/
def absD : List PyData → Option PyData
  | [.int i] => some (.int (if i < 0 then -i else i))
  | _ => none
theorem hc_abs : CallR X (.builtin "abs") (rCD X.K absD) := by
  intro pins s σ H vs us Q I rs h
  obtain ⟨L, ds, r, hl, hv, e, q⟩ := h
  unfold absD at e
  split at e
  · obtain ⟨v, rfl, h1⟩ := hv.one
    cases e
    have e1 := h1.int_inv
    subst e1
    exact call_abs pins s σ H _ us Q I rs ⟨_, rfl, q _ _ (fun _ _ z => z) (.int _)⟩
  · cases e
def intD : List PyData → Option PyData
  | [.int i] => some (.int i)
  | [.bool b] => some (.int (if b then 1 else 0))
  | _ => none
theorem hc_int : CallR X (.type "int") (rCD X.K intD) := by
  intro pins s σ H vs us Q I rs h
  obtain ⟨L, ds, r, hl, hv, e, q⟩ := h
  unfold intD at e
  split at e
  · obtain ⟨v, rfl, h1⟩ := hv.one
    cases e
    have e1 := h1.int_inv
    subst e1
    exact call_int1 pins s σ H _ us Q I rs (.inl ⟨_, rfl, q _ _ (fun _ _ z => z) (.int _)⟩)
  · obtain ⟨v, rfl, h1⟩ := hv.one
    cases e
    have e1 := h1.bl_inv
    subst e1
    exact call_int1 pins s σ H _ us Q I rs (.inr ⟨_, rfl, q _ _ (fun _ _ z => z) (.int _)⟩)
  · cases e
def strD : List PyData → Option PyData
  | [.int i] => if i.natAbs.log2 < 1920 then some (.str (toString i)) else none
  | _ => none
theorem hc_str : CallR X (.type "str") (rCD X.K strD) := by
  intro pins s σ H vs us Q I rs h
  obtain ⟨L, ds, r, hl, hv, e, q⟩ := h
  unfold strD at e
  split at e
  · obtain ⟨v, rfl, h1⟩ := hv.one
    split at e
    · rename_i hz
      cases e
      have e1 := h1.int_inv
      subst e1
      exact call_str_int pins s σ H _ us Q I rs ⟨_, rfl, hz, q _ _ (fun _ _ z => z) (.str _)⟩
    · cases e
  · cases e
/-! sum, any, all -/
def intsD : List PyData → Option (List Int)
  | [] => some []
  | .int i :: ds => (intsD ds).map (i :: ·)
  | _ :: _ => none
theorem intsD_eq : ∀ {ds : List PyData} {ns : List Int}, intsD ds = some ns → ds = ns.map .int
  | [], ns, h => by cases h; rfl
  | d :: ds, ns, h => by
    cases d <;> simp [intsD] at h
    obtain ⟨ms, h1, h2⟩ := h
    subst h2
    rw [intsD_eq h1]; rfl
def bolsD : List PyData → Option (List Bool)
  | [] => some []
  | .bool i :: ds => (bolsD ds).map (i :: ·)
  | _ :: _ => none
theorem bolsD_eq : ∀ {ds : List PyData} {ns : List Bool}, bolsD ds = some ns → ds = ns.map .bool
  | [], ns, h => by cases h; rfl
  | d :: ds, ns, h => by
    cases d <;> simp [bolsD] at h
    obtain ⟨ms, h1, h2⟩ := h
    subst h2
    rw [bolsD_eq h1]; rfl
theorem AtL.inj_bl {H : Hp} {L : AdP} : ∀ {vs : List V} {ns : List Bool}, AtL H L vs (ns.map .bool) → vs = ns.map V.bl
  | _, [], h => by cases h; rfl
  | _, n :: ns, h => by
    cases h with
    | cons a b => cases a; rw [AtL.inj_bl b]; rfl
def sumD : List PyData → Option PyData
  | [.list ds] => (intsD ds).map fun ns => .int ns.sum
  | [.tuple ds] => (intsD ds).map fun ns => .int ns.sum
  | _ => none
theorem sum_rawT {prog : Program} {w : World} {A : Around} {E : Value → Shared → Prop} {s : Shared} {l : Addr} {its : List Value} {ns : List Int} {Q : Value → Shared → Prop} (hh : A.handled = none) (hl : s.heap.IsTuple l its.toArray) (hi : IntsAre its ns)
    (h : ∀ h' tk t', (∀ b o, s.heap.get? b = some o → h'.get? b = some o) → Q (.int ns.sum t') { s with heap := h', toks := tk }) : wpAny (model prog w) A (call (.builtin "sum") [.ref l]) Q E s := by
  obtain ⟨xs, e⟩ := hi.allInts.items
  have hn : PySem.numsOf (intItems xs).toList = ns := by rw [← e]; exact hi.numsOf
  rw [nums_intItems] at hn
  rw [e] at hl
  refine PySem.W.ktm_sumG hh hl fun h' tk t' hk => ?_
  have := h h' tk t' hk
  rw [preSum_eq, List.take_of_length_le (by simp), hn]; exact this
theorem hc_sum (hc : X.calm = true) : CallR X (.builtin "sum") (rCD X.K sumD) := by
  intro pins s σ H vs us Q I rs h
  obtain ⟨L, ds, r, hl, hv, e, q⟩ := h
  unfold sumD at e
  split at e
  · obtain ⟨v, rfl, h1⟩ := hv.one
    obtain ⟨ns, e1, e2⟩ := Option.map_eq_some_iff.mp e
    subst e2
    obtain ⟨a, xs, rfl, h2, r2⟩ := h1.list_inv
    rw [intsD_eq e1] at r2
    rw [r2.inj_int] at h2
    exact cr_sum hc pins s σ H _ us Q I rs ⟨a, ns, rfl, h2, q _ _ (fun _ _ z => z) (.int _)⟩
  · obtain ⟨v, rfl, h1⟩ := hv.one
    obtain ⟨ns, e1, e2⟩ := Option.map_eq_some_iff.mp e
    subst e2
    obtain ⟨a, xs, rfl, h2, r2⟩ := h1.tuple_inv
    rw [intsD_eq e1] at r2
    rw [r2.inj_int] at h2
    obtain ⟨its, rv, hl, _⟩ := I.tuple h2
    rw [Vals.ref1 rs]
    exact sum_rawT (I.ok.hd hc) hl rv.ints fun h' tk t' hk => ⟨.int _, H, I.kept hk, ⟨_, rfl⟩, q _ _ (fun _ _ z => z) (.int _)⟩
  · cases e
def anyD : List PyData → Option PyData
  | [.list ds] => (bolsD ds).map fun ns => .bool (ns.any id)
  | _ => none
theorem hc_any (hc : X.calm = true) : CallR X (.builtin "any") (rCD X.K anyD) := by
  intro pins s σ H vs us Q I rs h
  obtain ⟨L, ds, r, hl, hv, e, q⟩ := h
  unfold anyD at e
  split at e
  · obtain ⟨v, rfl, h1⟩ := hv.one
    obtain ⟨ns, e1, e2⟩ := Option.map_eq_some_iff.mp e
    subst e2
    obtain ⟨a, xs, rfl, h2, r2⟩ := h1.list_inv
    rw [bolsD_eq e1] at r2
    rw [r2.inj_bl] at h2
    exact cr_any hc pins s σ H _ us Q I rs ⟨a, ns, rfl, h2, q _ _ (fun _ _ z => z) (.bl _)⟩
  · cases e
def allD : List PyData → Option PyData
  | [.list ds] => (bolsD ds).map fun ns => .bool (ns.all id)
  | _ => none
theorem hc_all (hc : X.calm = true) : CallR X (.builtin "all") (rCD X.K allD) := by
  intro pins s σ H vs us Q I rs h
  obtain ⟨L, ds, r, hl, hv, e, q⟩ := h
  unfold allD at e
  split at e
  · obtain ⟨v, rfl, h1⟩ := hv.one
    obtain ⟨ns, e1, e2⟩ := Option.map_eq_some_iff.mp e
    subst e2
    obtain ⟨a, xs, rfl, h2, r2⟩ := h1.list_inv
    rw [bolsD_eq e1] at r2
    rw [r2.inj_bl] at h2
    exact cr_all hc pins s σ H _ us Q I rs ⟨a, ns, rfl, h2, q _ _ (fun _ _ z => z) (.bl _)⟩
  · cases e
/-! tuple, list -/
def tupleD : List PyData → Option PyData
  | [.list ds] => some (.tuple ds)
  | [.tuple ds] => some (.tuple ds)
  | _ => none
theorem hc_tuple : CallR X (.type "tuple") (rCD X.K tupleD) := by
  intro pins s σ H vs us Q I rs h
  obtain ⟨L, ds, r, hl, hv, e, q⟩ := h
  unfold tupleD at e
  split at e
  · obtain ⟨v, rfl, h1⟩ := hv.one
    cases e
    obtain ⟨a, xs, rfl, h2, r2⟩ := h1.list_inv
    exact call_tuple_of pins s σ H _ us Q I rs ⟨a, xs, rfl, .inl ⟨h2, fun p hp => q _ _ (upd_grow hp) (.newT hl hp r2)⟩⟩
  · obtain ⟨v, rfl, h1⟩ := hv.one
    cases e
    obtain ⟨a, xs, rfl, h2, r2⟩ := h1.tuple_inv
    exact call_tuple_of pins s σ H _ us Q I rs ⟨a, xs, rfl, .inr ⟨h2, q _ _ (fun _ _ z => z) h1.tuple_at⟩⟩
  · cases e
def listL : List PyData → Option (List PyData)
  | [.list ds] => some ds
  | [.tuple ds] => some ds
  | _ => none
theorem hc_list : CallR X (.type "list") (rCL X.K listL) := by
  intro pins s σ H vs us Q I rs h
  obtain ⟨L, ds, r, hl, hv, e, q⟩ := h
  unfold listL at e
  split at e
  · obtain ⟨v, rfl, h1⟩ := hv.one
    cases e
    obtain ⟨a, xs, rfl, h2, r2⟩ := h1.list_inv
    exact call_list_of pins s σ H _ us Q I rs ⟨a, xs, rfl, .inl h2, fun p hp => q p xs _ hp (upd_grow hp) upd_same r2⟩
  · obtain ⟨v, rfl, h1⟩ := hv.one
    cases e
    obtain ⟨a, xs, rfl, h2, r2⟩ := h1.tuple_inv
    exact call_list_of pins s σ H _ us Q I rs ⟨a, xs, rfl, .inr h2, fun p hp => q p xs _ hp (upd_grow hp) upd_same r2⟩
  · cases e
end
end DL
namespace DL
open PySem PySem.W PySem.SeqAt PyProof.Rows
/-! sorting tuples, empty ones among them -/
def noItem : PyData → Bool
  | .tuple [] => true
  | _ => false
def Srt (ds : List PyData) : Prop := (∀ d, d ∈ ds → ∃ r, d = .tuple r) ∨ ∀ d, d ∈ ds → d ≠ .none ∧ ∀ xs, d ≠ .tuple xs
section
variable {prog : Program} {w : World} {A : Around} {E : Value → Shared → Prop} {s : Shared}
theorem call_tup_lt {Q : Value → Shared → Prop} {l b : Addr} {items items2 : Array Value} {e r : Nat → Bool} (hl : s.heap.IsTuple l items) (hb : s.heap.IsTuple b items2)
    (he : ∀ j (h1 : j < items.size) (h2 : j < items2.size), EqAt A.in1 s items[j] items2[j] (e j)) (hr : ∀ j (h1 : j < items.size) (h2 : j < items2.size), e j = false → RcLt A.in1 s items[j] items2[j] (r j))
    (h : Q (.bool (firstLt e r (decide (items.size < items2.size)) (List.range (min items.size items2.size)))) s) : wpAny (model prog w) A (call (.builtin "tuple.__lt__") [.ref l, .ref b]) Q E s := by
  obtain ⟨⟨c1, d1, t1, p1⟩, ho, e1, n, e2⟩ := id hl
  obtain ⟨⟨c2, d2, t2, p2⟩, ho2, e3, n2, e4⟩ := id hb
  simp only at e1 e2 e3 e4
  subst e1 e2 e3 e4
  exact call_meets F.slot_tuple_lt ⟨_, ho, rfl⟩ F.entry_tuple_lt (F.args_tuple_lt_2 _ _) (tuple_ltAt l b items items2 n n2 d1 d2 p1 p2 e r) ⟨ho, ho2, he, hr, h⟩
theorem oneLt_tup {xs ys : List PyData} {a b : Value} {as bs : List Addr} {Q : Bool → Shared → Prop} (ra : Reads s.heap a (.tuple xs) as) (rb : Reads s.heap b (.tuple ys) bs) (h : alikeAll xs ys = true)
    (hu : A.units + min (PyData.tuple xs).depth (PyData.tuple ys).depth < cLine) (hq : Q (dataLt (.tuple xs) (.tuple ys)) s) : wpAny (model prog w) A (oneLt' true a b) Q E s := by
  cases ra with
  | @tuple l o vs n _ as₁ h1 h2 h3 h4 =>
    cases rb with
    | @tuple l' o' vs' n' _ bs₁ k1 k2 k3 k4 =>
      have n1 : vs.size = xs.length := by simpa using ReadsAll.length _ _ _ h4
      have n2 : vs'.size = ys.length := by simpa using ReadsAll.length _ _ _ k4
      rw [dataLt_tuple, ← firstLt_toks xs ys h, ← n1, ← n2] at hq
      rw [oneLt'_eq]
      simp only [if_true]
      refine wpAny_bind (wpAny_cRoomFor (room_here hu) ?_)
      refine wpAny_bind (wpAny_callSpecialIfBound?_slot (T := "tuple") ⟨_, h1, h2⟩ F.slot_tuple_lt (call_tup_lt (e := pairEq xs ys) (r := fun j => dataLt (xs.getD j .none) (ys.getD j .none)) ⟨_, h1, h2, _, h3⟩ ⟨_, k1, k2, _, k3⟩ (fun j j1 j2 => ?_) (fun j j1 j2 hj => ?_) ?_))
      · have := eqAt_alikeAll xs ys A.in1 s vs.toList vs'.toList _ _ h4 k4 h (room_in hu) j (by simpa using j1) (by simpa using j2)
        simpa using this
      · have := rcLt_alikeAll xs ys A.in1 s vs.toList vs'.toList _ _ h4 k4 h (room_in hu) j (by simpa using j1) (by simpa using j2) hj
        simpa using this
      · exact wpAny_truthy_bool hq
theorem firsts_any : ∀ {vs : List Value} {ds : List PyData} {Q : List (Option Value) → Shared → Prop}, EachIs (fun v d => ∃ as, Reads s.heap v d as) vs ds → (∀ d, d ∈ ds → ∃ r, d = .tuple r) →
    (∀ os : List (Option Value), os.map (·.isSome) = ds.map (fun d => !noItem d) → Q os s) → wpAny (model prog w) A (vs.mapM firstOfTuple') Q E s
  | _, _, Q, .nil, _, h => by rw [List.mapM_nil]; exact wpAny_pure (h [] rfl)
  | _, _, Q, .cons (b := d) ⟨as, r⟩ t, ht, h => by
    rw [List.mapM_cons]
    obtain ⟨xs, rfl⟩ := ht _ List.mem_cons_self
    refine wpAny_bind ?_
    rw [kas_first_eq]
    cases r with
    | @tuple a o its n _ _ ho hc hd hr =>
      refine wpAny_bind (Looks.here (show Looks (model prog w) s.heap (typeOf (.ref a)) o.cls from (Looks.ld ho).andThen .now) ?_)
      rw [hc, if_neg (by first | decide | simp)]
      refine wpAny_bind (listItems_at ho hd (wpAny_pure ?_))
      refine wpAny_bind (firsts_any t (fun d hd => ht d (List.mem_cons_of_mem _ hd)) fun os ho' => wpAny_pure (h (its[0]? :: os) ?_))
      rw [List.map_cons, List.map_cons, ho']
      congr 1
      have hl := ReadsAll.length _ _ _ hr
      cases xs with
      | nil =>
        have : its.size = 0 := by simpa using hl
        simp [noItem, this]
      | cons x xs =>
        have : its.size = xs.length + 1 := by simpa using hl
        simp [noItem, this]
theorem kind_mixed {vs : List Value} {ds : List PyData} {Q : SortKind → Shared → Prop} (e : EachIs (fun v d => ∃ as, Reads s.heap v d as) vs ds) (ht : ∀ d, d ∈ ds → ∃ r, d = .tuple r) {d : PyData} {rest : List PyData} (h0 : ds = d :: rest) (hm : ∃ d, d ∈ ds ∧ noItem d = true)
    (h : Q (if noItem d = true then oneType' else general') s) : wpAny (model prog w) A (keyKind' vs.toArray) Q E s := by
  rw [keyKind'_eq, List.mapM_toArray, map_eq_pure_bind]
  refine wpAny_bind (wpAny_bind (firsts_any e ht fun os hos => wpAny_pure ?_))
  have hne : ¬ (os.toArray.all fun x => x.isSome) = true := by
    rw [List.all_toArray, List.all_eq_true]
    intro z
    obtain ⟨d', h1, h2⟩ := hm
    have : (!noItem d') ∈ os.map (·.isSome) := by rw [hos]; exact List.mem_map.mpr ⟨d', h1, rfl⟩
    obtain ⟨o, ho, e2⟩ := List.mem_map.mp this
    rw [z o ho, h2] at e2
    cases e2
  rw [if_neg hne]
  subst h0
  cases os with
  | nil => simp at hos
  | cons o os =>
    rw [List.map_cons, List.map_cons] at hos
    have ho := (List.cons.inj hos).1
    have hz : ((o :: os).toArray[0]?.bind id) = o := by simp
    rw [hz]
    cases hd : noItem d with
    | false =>
      rw [hd] at h ho
      have ho : o.isSome = true := ho
      rw [if_pos ho]
      exact wpAny_pure h
    | true =>
      rw [hd] at h ho
      have ho : o.isSome = false := ho
      rw [if_neg (by rw [ho]; exact Bool.false_ne_true)]
      rw [oneTypeOnly'_eq, List.mapM_toArray, map_eq_pure_bind]
      have hT : ∀ v ∈ vs, Looks (model prog w) s.heap (typeOf v) (.type "tuple") := fun v hv => by
        obtain ⟨d', hd', as, r⟩ := e.left v hv
        obtain ⟨r', rfl⟩ := ht d' hd'
        exact looks_reads r
      refine wpAny_bind (wpAny_bind (wpAny_bind (kas_mapM (r := Value.type "tuple") _ (fun v hv Q' hq => (hT v hv).here hq) (wpAny_pure ?_))))
      have hlen := e.length
      cases vs with
      | nil => simp at hlen
      | cons v vs =>
        have hall : ((List.map (fun _ => Value.type "tuple") (v :: vs)).toArray.all fun x => x == Value.type "tuple") = true := by
          simp only [List.all_toArray, List.all_map, List.all_eq_true]
          intro _ _
          exact beq_self_eq_true _
        have hf : (List.map (fun _ => Value.type "tuple") (v :: vs)).toArray[0]? = some (Value.type "tuple") := by simp
        rw [hf]
        simp only [hall, if_true]
        exact wpAny_pure (wpAny_pure h)
theorem srt_at {vs : List Value} {ds : List PyData} (e : EachIs (fun v d => ∃ as, Reads s.heap v d as) vs ds) (hal : AllAlike ds) (hk : Srt ds) (hu : ∀ d, d ∈ ds → A.units + d.depth < cLine) : SortsAt prog w A s (dataKind s.heap ds) vs := by
  rcases hk with ht | hn
  · by_cases hm : ∃ d, d ∈ ds ∧ noItem d = true
    · cases ds with
      | nil => obtain ⟨d, hd, _⟩ := hm; cases hd
      | cons d rest =>
        refine ⟨fun v hv => ?_, if noItem d = true then oneType' else general', ?_, fun h2 E Q hq => kind_mixed e ht rfl hm hq⟩
        · obtain ⟨d, hd, as, r⟩ := e.left v hv
          exact ⟨_, dataKind_some hal hd r⟩
        · intro E x y a b Q ha hb hq
          obtain ⟨d1, as, hd1, ra, rfl⟩ := dataKind_inv ha
          obtain ⟨d2, as', hd2, rb, rfl⟩ := dataKind_inv hb
          obtain ⟨r1, rfl⟩ := ht d1 hd1
          obtain ⟨r2, rfl⟩ := ht d2 hd2
          have hroom : A.units + min (PyData.tuple r1).depth (PyData.tuple r2).depth < cLine := Nat.lt_of_le_of_lt (Nat.add_le_add_left (Nat.min_le_left _ _) _) (hu _ hd1)
          split
          · exact oneLt_tup ra rb (by simpa [alike] using hal _ hd1 _ hd2) hroom hq
          · exact oneLt_alike (f := false) (fun z => nomatch z) ra rb (hal _ hd1 _ hd2) (fun z => nomatch z) hroom hq
    · refine SortsAt.data e hal (.inl fun d hd => ?_) hu
      obtain ⟨r, rfl⟩ := ht d hd
      cases r with
      | nil => exact absurd ⟨_, hd, rfl⟩ hm
      | cons x r => exact ⟨x, r, rfl⟩
  · exact SortsAt.data e hal (.inr hn) hu
end
end DL
namespace DL
open PySem PySem.W PySem.Calls PyProof.Rows in
theorem sorted_dataT {prog : Program} {w : World} {A : Around} {E : Value → Shared → Prop} {s : Shared} {vs : List Value} {bs : List PyData} {R : Value → PyData → Prop} {l : Addr} {Q : Value → Shared → Prop} (hl : s.heap.IsTuple l vs.toArray) (e : EachIs R vs bs) (er : EachIs (fun v b => ∃ as, Reads s.heap v b as) vs bs) (hal : AllAlike bs) (hk : Srt bs) (hL : bs.length ≤ sizeLine)
    (hu : ∀ b, b ∈ bs → A.units + 2 + b.depth < cLine) (h : ∀ D h2 out c, (∀ b o, s.heap.get? b = some o → h2.get? b = some o) → s.heap.get? D = none → h2.get? D = some (listOf (List.toArray out) c) → out.length = bs.length → EachIs R out (bs.mergeSort (dataLe false id)) → Q (.ref D) { s with heap := h2 }) :
    wpAny (model prog w) A (call (.builtin "sorted") [.ref l]) Q E s := by
  obtain ⟨o, ho, hc, n, hd⟩ := id hl
  have hlen := e.length
  refine call_function_entry kind_sorted plain_sorted entry_sorted (args_sorted1 _) ?_
  unfold Builtin.«sorted»
  refine wpAny_bind (m := checkCount "sorted" 1 1 _) (wpAny_pure ?_)
  refine wpAny_bind (wpAny_collect_seq l (T := "tuple") (.inr rfl) ho hc hd (fun h' hkp => ?_) (by rw [List.size_toArray]; omega))
  refine wpAny_bind (wpAny_newList ?_ (by simp only [List.toList_toArray]; omega))
  simp only [List.toList_toArray]
  have hD : (h'.push { cls := .type "list", data := .seq vs.toArray }).get? h'.objs.size = some (seqObj "list" vs.toArray 0) := Heap.get?_push_size _ rfl
  have hold : ∀ b o, s.heap.get? b = some o → b ≠ h'.objs.size := fun b o q => Nat.ne_of_lt (Heap.lt_size (hkp b o q))
  have hnone : s.heap.get? h'.objs.size = none := by
    cases q : s.heap.get? h'.objs.size with
    | none => rfl
    | some o => exact absurd rfl (hold _ _ q)
  have er' : EachIs (fun v b => ∃ as, Reads (sortingHeap (h'.push { cls := .type "list", data := .seq vs.toArray }) h'.objs.size vs) v b as) vs bs := er.mono fun _ _ ⟨as, r⟩ => ⟨as, PyProof.Rows.Reads.keeps (fun b o q => (sortingHeap_old (hold b o q) (Heap.get?_push_of_some _ (hkp b o q)))) r⟩
  refine wpAny_bind (wpAny_holding (wpAny_call_entry slot_list_sort ⟨_, hD, rfl⟩ entry_list_sort ?body (args_list_sort _)))
  case body =>
    refine wpAny_mono (list_sort_vals (s := { s with heap := h'.push { cls := .type "list", data := .seq vs.toArray } }) (κ := dataKind (sortingHeap (h'.push { cls := .type "list", data := .seq vs.toArray }) h'.objs.size vs) bs) (P := fun f s' => f = .done (.ret .none) ∧ Q (.ref h'.objs.size) s') hD
      (srt_at (s := { s with heap := sortingHeap (h'.push { cls := .type "list", data := .seq vs.toArray }) h'.objs.size vs }) er' hal hk (by exact hu)) (by omega) ⟨rfl, ?_⟩) (fun f s' hf => ?_) fun _ _ e => e
    · obtain ⟨c, hc2⟩ := sortedHeap_at (out := (sortVals (dataKind (sortingHeap (h'.push { cls := .type "list", data := .seq vs.toArray }) h'.objs.size vs) bs) false vs vs).toArray) hD
      refine h _ _ (sortVals _ false vs vs) c (fun b o q => ?_) hnone hc2 (by rw [sortVals_length false rfl]; exact hlen) (by have q := sortVals_data (enc := id) false e (by simpa using er'); simp only [List.map_id_fun, id] at q; exact q hal)
      rw [sortedHeap_old (hold b o q) (by rw [Heap.size_push]; exact Nat.lt_succ_of_lt (Heap.lt_size (hkp b o q)))]
      exact Heap.get?_push_of_some _ (hkp b o q)
    · obtain ⟨rfl, hq⟩ := hf
      exact ⟨_, rfl, wpAny_pure ⟨_, rfl, hq⟩⟩
open PySem PySem.W PySem.Calls PyProof.Rows in
theorem sorted_dataL {prog : Program} {w : World} {A : Around} {E : Value → Shared → Prop} {s : Shared} {vs : List Value} {bs : List PyData} {R : Value → PyData → Prop} {l : Addr} {Q : Value → Shared → Prop} (hl : s.heap.IsList l vs.toArray) (e : EachIs R vs bs) (er : EachIs (fun v b => ∃ as, Reads s.heap v b as) vs bs) (hal : AllAlike bs) (hk : Srt bs) (hL : bs.length ≤ sizeLine)
    (hu : ∀ b, b ∈ bs → A.units + 2 + b.depth < cLine) (h : ∀ out, out.length = bs.length → EachIs R out (bs.mergeSort (dataLe false id)) → Q (.ref (s.heap.objs.size + 1)) { s with heap := sortedAll s.heap vs (List.toArray out) }) :
    wpAny (model prog w) A (call (.builtin "sorted") [.ref l]) Q E s := by
  have er' : EachIs (fun v b => ∃ as, Reads (sortingHeap (copyHeap s.heap vs) (s.heap.objs.size + 1) vs) v b as) vs bs := er.mono fun _ _ ⟨as, r⟩ => ⟨as, PyProof.Rows.Reads.keeps (fun _ _ => sorting_copy_old) r⟩
  refine sorted_vals hl (srt_at (s := { s with heap := sortingHeap (copyHeap s.heap vs) (s.heap.objs.size + 1) vs }) er' hal hk (by exact hu)) (by rw [e.length]; exact hL) (h _ (by rw [sortVals_length false rfl]; exact e.length) ?_)
  have q := sortVals_data (enc := id) false e (by simpa using er')
  simp only [List.map_id_fun, id] at q
  exact q hal
open PySem PySem.Spec L2
open PyProof.Rows hiding St
section
variable {X : Cx} {pins : List (Addr × Obj)} {σ : L2.St} {H : Hp} {s : Shared} {L : AdP}
/-! min, max -/
def alikeB (ds : List PyData) : Bool := ds.all fun d => (ds.all fun e => PySem.W.alike d e) && !isND d
theorem alikeB_ok {ds : List PyData} (h : alikeB ds = true) : PySem.W.AlikeAll ds := by
  unfold alikeB at h
  rw [List.all_eq_true] at h
  refine ⟨fun x hx y hy => ?_, fun x hx e => ?_⟩
  · have := h x hx
    rw [Bool.and_eq_true, List.all_eq_true] at this
    exact this.1 y hy
  · have := h x hx
    subst e
    simp [isND] at this
theorem minD_mem (x : PyData) (xs : List PyData) : PySem.W.minD x xs ∈ x :: xs := by
  unfold PySem.W.minD
  induction xs generalizing x with
  | nil => simp
  | cons y ys ih =>
    rw [List.foldl_cons]
    have := ih (if PySem.W.dataLt y x = true then y else x)
    split at this <;> (rw [List.mem_cons] at this; rcases this with h | h) <;> simp_all
theorem maxD_mem (x : PyData) (xs : List PyData) : PySem.W.maxD x xs ∈ x :: xs := by
  unfold PySem.W.maxD
  induction xs generalizing x with
  | nil => simp
  | cons y ys ih =>
    rw [List.foldl_cons]
    have := ih (if PySem.W.dataLt x y = true then y else x)
    split at this <;> (rw [List.mem_cons] at this; rcases this with h | h) <;> simp_all
def minI : List Int → Int → Int
  | [], m => m
  | x :: xs, m => minI xs (if x < m then x else m)
def minD : List PyData → Option PyData
  | [.list (d :: ds)] => if (d :: ds).all fit = true ∧ alikeB (d :: ds) = true then some (PySem.W.minD d ds) else none
  | [.tuple (d :: ds)] => if (d :: ds).all fit = true ∧ alikeB (d :: ds) = true then some (PySem.W.minD d ds) else none
  | [.int i, .int j] => some (.int (if j < i then j else i))
  | _ => none
def maxD : List PyData → Option PyData
  | [.list (d :: ds)] => if (d :: ds).all fit = true ∧ alikeB (d :: ds) = true then some (PySem.W.maxD d ds) else none
  | [.tuple (d :: ds)] => if (d :: ds).all fit = true ∧ alikeB (d :: ds) = true then some (PySem.W.maxD d ds) else none
  | [.int i, .int j] => some (.int (if j > i then j else i))
  | _ => none
/-- an item of the values that reads as some datum of the list stands for it -/
theorem pick_at {pins : List (Addr × Obj)} {σ : L2.St} {s : Shared} (I : Inv X pins σ H s) {xs : List V} {its : List Value} {ds : List PyData} (r : AtL H L xs ds) (rv : Vals xs its) (pl : PyData.plainAll ds = true) {i : Nat} {v : Value} {h' : Heap} {d : PyData} {bs : List Addr}
    (hi : its.toArray[i]? = some v) (hk : ∀ b o, s.heap.get? b = some o → h'.get? b = some o) (hr : Reads h' v d bs) (hm : d ∈ ds) : ∃ x, RelV x v ∧ At H L x d := by
  have hi' : its[i]? = some v := by simpa using hi
  have hlt : i < xs.length := by
    have e := rv.length
    have := (List.getElem?_eq_some_iff.mp hi').1
    omega
  obtain ⟨u, hu, ru⟩ := rv.get (List.getElem?_eq_getElem hlt)
  rw [hi'] at hu
  cases hu
  obtain ⟨d', hd', ad⟩ := r.get' (List.getElem?_eq_getElem hlt)
  have pd' : d'.plain = true := PySem.W.plain_mem pl (List.mem_of_getElem? hd')
  have pd : d.plain = true := PySem.W.plain_mem pl hm
  obtain ⟨as, r'⟩ := Dp.reads I d' _ _ (ad.dp d' pd') ru
  have e1 := PySem.SeqAt.readOf_plain pd hr
  have e2 := PySem.SeqAt.readOf_plain pd' (PyProof.Rows.Reads.keeps hk r')
  rw [e1] at e2
  subst e2
  exact ⟨_, ru, ad⟩
theorem hc_min (hc : X.calm = true) (hu : X.A.units + 100 < cLine) : CallR X (.builtin "min") (rCD X.K minD) := by
  intro pins s σ H vs us Q I rs h
  obtain ⟨L, ds, r, hl, hv, e, q⟩ := h
  unfold minD at e
  split at e
  · obtain ⟨v, rfl, h1⟩ := hv.one
    split at e
    · rename_i hc2
      cases e
      obtain ⟨u, rfl, ru⟩ := vals1 rs
      obtain ⟨a, xs, its, rfl, rv, hl', h2, r2, e1, e2⟩ := h1.isList I
      cases ru
      obtain ⟨p1, p2⟩ := fitL_ok hc2.1
      obtain ⟨as, hr⟩ := r2.reads I rv p1
      refine PySem.W.min_list_data (I.ok.hd hc) hl' (by simpa using hr) (alikeB_ok hc2.2) (by omega) fun i v h' tk bs hi hr' hk => ?_
      obtain ⟨x, rx, ax⟩ := pick_at I r2 rv p1 hi hk hr' (minD_mem _ _)
      exact ⟨x, H, I.kept hk, rx, q _ _ (fun _ _ z => z) ax⟩
    · cases e
  · obtain ⟨v, rfl, h1⟩ := hv.one
    split at e
    · rename_i hc2
      cases e
      obtain ⟨u, rfl, ru⟩ := vals1 rs
      obtain ⟨a, xs, its, rfl, rv, hl', h2, r2, e1, e2⟩ := h1.isTup I
      cases ru
      obtain ⟨p1, p2⟩ := fitL_ok hc2.1
      obtain ⟨as, hr⟩ := r2.reads I rv p1
      refine PySem.W.min_tuple_data (I.ok.hd hc) hl' (by simpa using hr) (alikeB_ok hc2.2) (by omega) fun i v h' tk bs hi hr' hk => ?_
      obtain ⟨x, rx, ax⟩ := pick_at I r2 rv p1 hi hk hr' (minD_mem _ _)
      exact ⟨x, H, I.kept hk, rx, q _ _ (fun _ _ z => z) ax⟩
    · cases e
  · obtain ⟨v, w, rfl, h1, h2⟩ := hv.two
    cases e
    have e1 := h1.int_inv
    have e2 := h2.int_inv
    subst e1; subst e2
    exact call_min2 hc pins s σ H _ us Q I rs ⟨_, _, rfl, q _ _ (fun _ _ z => z) (.int _)⟩
  · cases e
theorem hc_max (hc : X.calm = true) (hu : X.A.units + 100 < cLine) : CallR X (.builtin "max") (rCD X.K maxD) := by
  intro pins s σ H vs us Q I rs h
  obtain ⟨L, ds, r, hl, hv, e, q⟩ := h
  unfold maxD at e
  split at e
  · obtain ⟨v, rfl, h1⟩ := hv.one
    split at e
    · rename_i hc2
      cases e
      obtain ⟨u, rfl, ru⟩ := vals1 rs
      obtain ⟨a, xs, its, rfl, rv, hl', h2, r2, e1, e2⟩ := h1.isList I
      cases ru
      obtain ⟨p1, p2⟩ := fitL_ok hc2.1
      obtain ⟨as, hr⟩ := r2.reads I rv p1
      refine PySem.W.max_list_data (I.ok.hd hc) hl' (by simpa using hr) (alikeB_ok hc2.2) (by omega) fun i v h' tk bs hi hr' hk => ?_
      obtain ⟨x, rx, ax⟩ := pick_at I r2 rv p1 hi hk hr' (maxD_mem _ _)
      exact ⟨x, H, I.kept hk, rx, q _ _ (fun _ _ z => z) ax⟩
    · cases e
  · obtain ⟨v, rfl, h1⟩ := hv.one
    split at e
    · rename_i hc2
      cases e
      obtain ⟨u, rfl, ru⟩ := vals1 rs
      obtain ⟨a, xs, its, rfl, rv, hl', h2, r2, e1, e2⟩ := h1.isTup I
      cases ru
      obtain ⟨p1, p2⟩ := fitL_ok hc2.1
      obtain ⟨as, hr⟩ := r2.reads I rv p1
      refine PySem.W.max_tuple_data (I.ok.hd hc) hl' (by simpa using hr) (alikeB_ok hc2.2) (by omega) fun i v h' tk bs hi hr' hk => ?_
      obtain ⟨x, rx, ax⟩ := pick_at I r2 rv p1 hi hk hr' (maxD_mem _ _)
      exact ⟨x, H, I.kept hk, rx, q _ _ (fun _ _ z => z) ax⟩
    · cases e
  · obtain ⟨v, w, rfl, h1, h2⟩ := hv.two
    cases e
    have e1 := h1.int_inv
    have e2 := h2.int_inv
    subst e1; subst e2
    exact call_max2 hc pins s σ H _ us Q I rs ⟨_, _, rfl, q _ _ (fun _ _ z => z) (.int _)⟩
  · cases e
/-! sorted -/
def tupB : PyData → Bool
  | .tuple _ => true
  | _ => false
def ntB : PyData → Bool
  | .none => false
  | .tuple _ => false
  | _ => true
/-- may be sorted -/
def sortB (ds : List PyData) : Bool := ds.all fit && alikeB ds && (ds.all tupB || ds.all ntB)
theorem sortB_ok {ds : List PyData} (h : sortB ds = true) : ds.all fit = true ∧ PySem.W.AllAlike ds ∧ Srt ds := by
  unfold sortB at h
  rw [Bool.and_eq_true, Bool.and_eq_true, Bool.or_eq_true] at h
  obtain ⟨⟨h1, h2⟩, h3⟩ := h
  refine ⟨h1, (alikeB_ok h2).1, ?_⟩
  rcases h3 with h3 | h3
  · refine .inl fun d hd => ?_
    have := List.all_eq_true.mp h3 d hd
    cases d <;> simp [tupB] at this
    exact ⟨_, rfl⟩
  · refine .inr fun d hd => ?_
    have := List.all_eq_true.mp h3 d hd
    cases d <;> simp [ntB] at this <;> exact ⟨(fun z => nomatch z), fun xs z => nomatch z⟩
def sortedL : List PyData → Option (List PyData)
  | [.list ds] => if sortB ds = true then some (ds.mergeSort (PySem.W.dataLe false id)) else none
  | [.tuple ds] => if sortB ds = true then some (ds.mergeSort (PySem.W.dataLe false id)) else none
  | _ => none
theorem each_of_at (I : Inv X pins σ H s) : ∀ {xs : List V} {its : List Value} {ds : List PyData}, AtL H L xs ds → Vals xs its → PySem.W.EachIs (fun v d => ∃ x, RelV x v ∧ At H L x d) its ds
  | _, _, _, .nil, .nil => .nil
  | _, _, _, .cons a b, .cons r t => .cons ⟨_, r, a⟩ (each_of_at I b t)
theorem each_reads (I : Inv X pins σ H s) : ∀ {xs : List V} {its : List Value} {ds : List PyData}, AtL H L xs ds → Vals xs its → PyData.plainAll ds = true → PySem.W.EachIs (fun v d => ∃ as, Reads s.heap v d as) its ds
  | _, _, _, .nil, .nil, _ => .nil
  | _, _, _, .cons a b, .cons r t, p => by
    rw [PyData.plainAll, Bool.and_eq_true] at p
    exact .cons (Dp.reads I _ _ _ (a.dp _ p.1) r) (each_reads I b t p.2)
theorem at_of_each : ∀ {its : List Value} {ds : List PyData}, PySem.W.EachIs (fun v d => ∃ x, RelV x v ∧ At H L x d) its ds → ∃ xs, Vals xs its ∧ AtL H L xs ds
  | _, _, .nil => ⟨[], .nil, .nil⟩
  | _, _, .cons ⟨x, r, a⟩ t => by
    obtain ⟨xs, rv, b⟩ := at_of_each t
    exact ⟨x :: xs, .cons r rv, .cons a b⟩
theorem hc_sorted (hu : X.A.units + 100 < cLine) : CallR X (.builtin "sorted") (rCL X.K sortedL) := by
  intro pins s σ H vs us Q I rs h
  obtain ⟨L, ds, r, hl, hv, e, q⟩ := h
  unfold sortedL at e
  split at e
  · obtain ⟨v, rfl, h1⟩ := hv.one
    split at e
    · rename_i ds hc2
      cases e
      obtain ⟨u, rfl, ru⟩ := vals1 rs
      obtain ⟨a, xs, its, rfl, rv, hl', h2, r2, e1, e2⟩ := h1.isList I
      cases ru
      obtain ⟨f1, al, so⟩ := sortB_ok hc2
      obtain ⟨p1, p2⟩ := fitL_ok f1
      refine sorted_dataL hl' (each_of_at I r2 rv) (each_reads I r2 rv p1) al so e2 (fun b hb => ?_) fun out ho eo => ?_
      · have := (fitN_ok 20 b (List.all_eq_true.mp f1 b hb)).2
        show X.A.units + 2 + b.depth < cLine
        omega
      · obtain ⟨ys, rv', r'⟩ := at_of_each eo
        obtain ⟨c, hc⟩ := PyProof.Rows.sortedAll_at s.heap its out.toArray
        have hz : ys.length ≤ sizeLine := by
          have := rv'.length
          omega
        have hn : H (s.heap.objs.size + 1) = none := I.hok.fresh (Nat.le_succ _)
        exact ⟨.ref (s.heap.objs.size + 1), _, I.laid (t' := s.toks) (fun b o e => PyProof.Rows.sortedAll_old e) (Nat.le_succ _) (show ObjOk X.prog X.w _ _ _ (.lst ys) from ⟨hz, out, c, rv', hc⟩), rfl,
          q _ ys _ hn (upd_grow hn) upd_same r'⟩
    · cases e
  · obtain ⟨v, rfl, h1⟩ := hv.one
    split at e
    · rename_i ds hc2
      cases e
      obtain ⟨u, rfl, ru⟩ := vals1 rs
      obtain ⟨a, xs, its, rfl, rv, hl', h2, r2, e1, e2⟩ := h1.isTup I
      cases ru
      obtain ⟨f1, al, so⟩ := sortB_ok hc2
      obtain ⟨p1, p2⟩ := fitL_ok f1
      refine sorted_dataT hl' (each_of_at I r2 rv) (each_reads I r2 rv p1) al so e2 (fun b hb => ?_) fun D h2 out c hk hn0 hc ho eo => ?_
      · have := (fitN_ok 20 b (List.all_eq_true.mp f1 b hb)).2
        show X.A.units + 2 + b.depth < cLine
        omega
      · obtain ⟨ys, rv', r'⟩ := at_of_each eo
        have hz : ys.length ≤ sizeLine := by
          have := rv'.length
          omega
        have hn : H D = none := I.hok.gone hn0
        exact ⟨.ref D, _, I.laidN (t' := s.toks) hk hn0 hn (show ObjOk X.prog X.w _ _ _ (.lst ys) from ⟨hz, out, c, rv', hc⟩), rfl, q _ ys _ hn (upd_grow hn) upd_same r'⟩
    · cases e
  · cases e
end
end DL
namespace DL
open PySem PySem.Spec L2
open PyProof.Rows hiding St
abbrev Ev := Env' → Sto → Option (D × Sto)
abbrev Tv := Env' → Sto → Option (Bool × Sto)
abbrev Av := Env' → Sto → Option (List D × Sto)
abbrev Lsv := Env' → Sto → Option (List PyData × Sto)
/-- read as data -/
def vw (S : Sto) : D → Option PyData
  | .p d => some d
  | .o m => some m
  | .f m => some m
  | .c k => match S[k]? with | some (some (.d m)) => some m | _ => none
def vws (S : Sto) : List D → Option (List PyData)
  | [] => some []
  | d :: ds => match vw S d, vws S ds with | some x, some xs => some (x :: xs) | _, _ => none

/-- the wish behind an expression -/
abbrev Wi (c : Cxt) (Lf : AdP) (adr : Nat → Addr) (S : Sto) (H : Hp) (Q : VK) (d : D) (S' : Sto) : Prop :=
  ∀ v adr' H', Ext adr S H adr' S' H' → StOk c Lf adr' S' H' → DR c.K H' (Lvv Lf adr' S') Lf (LvC adr' S') adr' S'.length v d → Q v H'
def EvOk (c : Cxt) (t : TE) (f : Ev) : Prop := ∀ Lf adr S σ H ρ d S' (Q : VK), EOk c Lf adr S σ H ρ → f ρ S = some (d, S') → Wi c Lf adr S H Q d S' → t σ H Q
def DE (c : Cxt) (e : Expr) (f : Ev) : Prop := ∃ t, (∀ X, InC c X → PE X e t) ∧ EvOk c t f
def TvOk (c : Cxt) (t : TT) (f : Tv) : Prop := ∀ Lf adr S σ H ρ b S' (Q : Bool → Hp → Prop), EOk c Lf adr S σ H ρ → f ρ S = some (b, S') → (∀ adr' H', Ext adr S H adr' S' H' → StOk c Lf adr' S' H' → Q b H') → t σ H Q
def DT (c : Cxt) (e : Expr) (f : Tv) : Prop := ∃ t, (∀ X, InC c X → PT X e t) ∧ TvOk c t f
def DW (c : Cxt) (e : Expr) (f : Tv) : Prop := ∃ t, (∀ X, InC c X → PW X e t) ∧ TvOk c t f
def AvOk (c : Cxt) (t : TA) (f : Av) : Prop := ∀ Lf adr S σ H ρ ds S' (Q : List V → Hp → Prop), EOk c Lf adr S σ H ρ → f ρ S = some (ds, S') →
  (∀ vs adr' H', Ext adr S H adr' S' H' → StOk c Lf adr' S' H' → DRL c.K H' (Lvv Lf adr' S') Lf (LvC adr' S') adr' S'.length vs ds → Q vs H') → t σ H Q
def DA (c : Cxt) (es : List Expr) (f : Av) : Prop := ∃ t, (∀ X, InC c X → PA X es t) ∧ AvOk c t f
/-- a fresh list -/
abbrev WiL (c : Cxt) (Lf : AdP) (adr : Nat → Addr) (S : Sto) (H : Hp) (Q : VK) (ds : List PyData) (S' : Sto) : Prop :=
  ∀ p ws adr' H', Ext adr S H adr' S' H' → StOk c (fun a => Lf a ∨ a = p) adr' S' H' → H p = none → H' p = some (.lst ws) → AtL H' (Lvv (fun a => Lf a ∨ a = p) adr' S') ws ds → Q (.ref p) H'
def LvOk (c : Cxt) (t : TE) (f : Lsv) : Prop := ∀ Lf adr S σ H ρ ds S' (Q : VK), EOk c Lf adr S σ H ρ → f ρ S = some (ds, S') → WiL c Lf adr S H Q ds S' → t σ H Q
def DLs (c : Cxt) (e : Expr) (f : Lsv) : Prop := ∃ t, (∀ X, InC c X → PE X e t) ∧ LvOk c t f

section
variable {c : Cxt} {Lf : AdP} {adr : Nat → Addr} {S : Sto} {H : Hp} {σ : L2.St} {ρ : Env'}
theorem vw_ok (s : StOk c Lf adr S H) {v : V} {d : D} {m : PyData} (r : DR c.K H (Lvv Lf adr S) Lf (LvC adr S) adr S.length v d) (e : vw S d = some m) : Vw c.K H (Lvv Lf adr S) v m := by
  cases d with
  | p d => cases e; exact .dat r
  | o m' => cases e; obtain ⟨a, rfl, _, h⟩ := r; exact .ob h.r
  | f m' => cases e; obtain ⟨a, rfl, h⟩ := r; exact .ob h.r
  | c k =>
    obtain ⟨rfl, hk⟩ := r
    have e : (match S[k]? with | some (some (.d m)) => some m | _ => none) = some m := e
    split at e
    · rename_i m' hm
      cases e
      exact .ob (Ob.r (s.ob k _ hm))
    · cases e
theorem vws_ok (s : StOk c Lf adr S H) : ∀ {vs : List V} {ds : List D} {ms : List PyData}, DRL c.K H (Lvv Lf adr S) Lf (LvC adr S) adr S.length vs ds → vws S ds = some ms → VwL c.K H (Lvv Lf adr S) vs ms
  | _, [], _, r, e => by cases e; cases r; exact .nil
  | _, d :: ds, _, r, e => by
    unfold vws at e
    split at e
    · rename_i h1 h2
      cases e
      cases r with
      | cons a b => exact .cons (vw_ok s a h1) (vws_ok s b h2)
    · cases e
/-- the heap has grown: the wish of data -/
theorem wi_gr (s : StOk c Lf adr S H) {Q : VK} {r : PyData} (w : Wi c Lf adr S H Q (.p r) S) : Gr H (Lvv Lf adr S) Q r := fun w' H' k a =>
  w w' adr H' (.grow k) (s.grow k fun z hz => ⟨.inl hz, (s.lfo z hz).keep (k z)⟩) a
theorem wi_grL (s : StOk c Lf adr S H) {Q : VK} {r : List PyData} (w : WiL c Lf adr S H Q r S) : GrL H (Lvv Lf adr S) Q r := fun p ws H' hp k e a => by
  have k' : ∀ z, H z ≠ none → H' z ≠ none := fun z h => by
    cases q : H z with
    | none => exact absurd q h
    | some o => rw [k z o q]; exact fun z => nomatch z
  refine w p ws adr H' (.grow k) (s.grow k fun z hz => ?_) hp e (a.tr fun z h1 h2 => ⟨.of fun o q => k z o q, fun h3 => ?_⟩)
  · rcases hz with hz | hz
    · exact ⟨.inl hz, (s.lfo z hz).keep (k z)⟩
    · subst hz
      exact ⟨.inr hp, _, e, fun _ z => nomatch z⟩
  · rcases h3 with (h3 | h3) | h3
    · exact h2 (.inl h3)
    · subst h3
      exact h1 hp
    · exact h2 (.inr h3)
end
end DL
namespace DL
open PySem PySem.Spec L2
open PyProof.Rows hiding St
section
variable {c : Cxt} {Lf : AdP} {adr : Nat → Addr} {S : Sto} {H : Hp} {σ : L2.St} {ρ : Env'} {a b : Expr} {fa fb : Ev} {pos : Pos}
theorem Wi.trans {adr1 : Nat → Addr} {S1 S' : Sto} {H1 : Hp} {Q : VK} {d : D} (x : Ext adr S H adr1 S1 H1) (w : Wi c Lf adr S H Q d S') : Wi c Lf adr1 S1 H1 Q d S' := fun v adr' H' x' s' r => w v adr' H' (x.trans x') s' r
theorem WiL.trans {adr1 : Nat → Addr} {S1 S' : Sto} {H1 : Hp} {Q : VK} {d : List PyData} (x : Ext adr S H adr1 S1 H1) (w : WiL c Lf adr S H Q d S') : WiL c Lf adr1 S1 H1 Q d S' := fun p ws adr' H' x' s' n e r => by
  refine w p ws adr' H' (x.trans x') s' ?_ e r
  cases q : H p with
  | none => rfl
  | some o => exact absurd n (x.trk p (by rw [q]; exact fun z => nomatch z))
theorem InC.un {X : Cx} (h : InC c X) : X.A.units + 100 < cLine := by have := h.room.un; omega
theorem DR.ext0 {adr' : Nat → Addr} {S' : Sto} {H' : Hp} (s : StOk c Lf adr S H) (x : Ext adr S H adr' S' H') {v : V} {d : D} (h : DR c.K H (Lvv Lf adr S) Lf (LvC adr S) adr S.length v d) : DR c.K H' (Lvv Lf adr' S') Lf (LvC adr' S') adr' S'.length v d :=
  h.ext x (fun _ z => .inl z) (fun _ z => z) s.disj
theorem DRL.ext0 {adr' : Nat → Addr} {S' : Sto} {H' : Hp} (s : StOk c Lf adr S H) (x : Ext adr S H adr' S' H') {v : List V} {d : List D} (h : DRL c.K H (Lvv Lf adr S) Lf (LvC adr S) adr S.length v d) : DRL c.K H' (Lvv Lf adr' S') Lf (LvC adr' S') adr' S'.length v d :=
  h.ext x (fun _ z => .inl z) (fun _ z => z) s.disj

/-! ### names, constants -/
def eVar (i : Nat) : Ev := fun ρ S => match ρ[i]? with | some (some d) => some (d, S) | _ => none
def eC (d : PyData) : Ev := fun _ S => some (.p d, S)
theorem de_var {i : Nat} {x : Str} (hN : c.N[i]? = some x) (hv : Vis c.sc x) (hd : (x == ("__debug__" : Str)) = false) (hcd : (x == ("__classdict__" : Str)) = false) : DE c (.Name x pos) (eVar i) := by
  refine ⟨tVar i, fun X hX => pe_var (by rw [hX.N]; exact hN) (by rw [hX.sc]; exact hv) hd hcd, fun Lf adr S σ H ρ d S' Q I e w => ?_⟩
  unfold eVar at e
  split at e
  · rename_i d' hd'
    cases e
    obtain ⟨v, h1, h2⟩ := I.slot i _ hd'
    exact ⟨v, h1, w v adr H .refl I.sto h2⟩
  · cases e
theorem ev_const {v : V} {d : PyData} (h : ∀ H L, At H L v d) : EvOk c (tC v) (eC d) := fun Lf adr S σ H ρ d' S' Q I e w => by
  cases e
  exact w v adr H .refl I.sto (h H _)
theorem de_int {i : Int} {j : Nat} : DE c (.Constant (.int i) j pos) (eC (.int i)) := ⟨_, fun X _ => pe_int, ev_const fun _ _ => .int _⟩
theorem de_str {i : Str} {j : Nat} : DE c (.Constant (.str i) j pos) (eC (.str i)) := ⟨_, fun X _ => pe_str, ev_const fun _ _ => .str _⟩
theorem de_bl {i : Bool} {j : Nat} : DE c (.Constant (.bool i) j pos) (eC (.bool i)) := ⟨_, fun X _ => pe_bl, ev_const fun _ _ => .bl _⟩
theorem de_non {j : Nat} : DE c (.Constant .none j pos) (eC .none) := ⟨_, fun X _ => pe_non, ev_const fun _ _ => .non⟩
/-- a global text -/
theorem de_gstr {x : Str} {z : Str} (hg : c.sc.names.lookup x = some .globalImplicit) (hm : ∃ t, c.mg x = some (.str z t)) (hd : (x == ("__debug__" : Str)) = false) : DE c (.Name x pos) (eC (.str z)) := by
  obtain ⟨t, hm⟩ := hm
  exact ⟨_, fun X hX => pe_glob (v := .str z) (by show X.env.scope.names.lookup x = _; rw [hX.sc]; exact hg) (by rw [hX.mg]; exact hm) ⟨t, rfl⟩ hd, ev_const fun _ _ => .str _⟩

/-! ### operators -/
def e2 (f : PyData → PyData → Option PyData) (fa fb : Ev) : Ev := fun ρ S => (fa ρ S).bind fun p => (fb ρ p.2).bind fun q => (vw q.2 p.1).bind fun a => (vw q.2 q.1).bind fun b => (f a b).bind fun r => some (.p r, q.2)
theorem ev_e2 {f : PyData → PyData → Option PyData} {ta tb : TE} (ha : EvOk c ta fa) (hb : EvOk c tb fb) : EvOk c (tOp (rD c.K f) ta tb) (e2 f fa fb) := fun Lf adr S σ H ρ d S' Q I e w => by
  unfold e2 at e
  simp only [Option.bind_eq_some_iff] at e
  obtain ⟨⟨x, S1⟩, e1, ⟨y, S2⟩, e2, m, e3, n, e4, r, e5, e6⟩ := e
  cases e6
  refine ha Lf adr S σ H ρ x S1 _ I e1 fun v adr1 H1 x1 s1 r1 => ?_
  refine hb Lf adr1 S1 σ H1 ρ y S2 _ (I.ext x1 s1) e2 fun u adr2 H2 x2 s2 r2 => ?_
  exact ⟨_, m, n, r, fun z => s2.lvv, vw_ok s2 (r1.ext0 s1 x2) e3, vw_ok s2 r2 e4, e5, wi_gr s2 (w.trans (x1.trans x2))⟩
theorem de_op {op : Operator} {f : PyData → PyData → Option PyData} (ho : ∀ X, InC c X → OpR X (binaryOp op) (rD X.K f)) (ha : DE c a fa) (hb : DE c b fb) : DE c (.BinOp a op b pos) (e2 f fa fb) := by
  obtain ⟨ta, pa, va⟩ := ha
  obtain ⟨tb, pb, vb⟩ := hb
  exact ⟨_, fun X hX => by have h := pe_op (pos := pos) (ho X hX) (pa X hX) (pb X hX); rw [hX.K] at h; exact h, ev_e2 va vb⟩
theorem de_cmp {op : CmpOp} {f : PyData → PyData → Option PyData} (ho : ∀ X, InC c X → OpR X (compareOp op) (rD X.K f)) (ha : DE c a fa) (hb : DE c b fb) (hm : behindInMarks op b = false) : DE c (.Compare a [op] [b] pos) (e2 f fa fb) := by
  obtain ⟨ta, pa, va⟩ := ha
  obtain ⟨tb, pb, vb⟩ := hb
  exact ⟨_, fun X hX => by have h := pe_cmpR (pos := pos) (ho X hX) (pa X hX) (pb X hX) hm; rw [hX.K] at h; exact h, ev_e2 va vb⟩
/-- a bool, as a test -/
def tB (f : Ev) : Tv := fun ρ S => (f ρ S).bind fun p => match p.1 with | .p (.bool b) => some (b, p.2) | _ => none
theorem tv_bool {t : TE} {t' : TT} {f : Ev} (h : EvOk c t f) (ht : ∀ σ H Q, (t σ H fun x H1 => ∃ k, x = .bl k ∧ Q k H1) → t' σ H Q) : TvOk c t' (tB f) := fun Lf adr S σ H ρ b S' Q I e w => by
  unfold tB at e
  simp only [Option.bind_eq_some_iff] at e
  obtain ⟨⟨x, S1⟩, e1, e2⟩ := e
  refine ht σ H Q ?_
  cases x with
  | p d =>
    cases d with
    | bool k =>
      simp only [Option.some.injEq, Prod.mk.injEq] at e2
      obtain ⟨rfl, rfl⟩ := e2
      refine h Lf adr S σ H ρ _ _ _ I e1 fun v adr1 H1 x1 s1 r1 => ?_
      have r1 : At H1 _ v (.bool k) := r1
      cases r1
      exact ⟨k, rfl, w adr1 H1 x1 s1⟩
    | _ => cases e2
  | _ => cases e2
theorem dt_cmp {op : CmpOp} {f : PyData → PyData → Option PyData} (ho : ∀ X, InC c X → OpR X (compareOp op) (rD X.K f)) (ha : DE c a fa) (hb : DE c b fb) (hm : behindInMarks op b = false) : DT c (.Compare a [op] [b] pos) (tB (e2 f fa fb)) := by
  obtain ⟨ta, pa, va⟩ := ha
  obtain ⟨tb, pb, vb⟩ := hb
  exact ⟨_, fun X hX => by have h := pt_cmpR (pos := pos) (ho X hX) (pa X hX) (pb X hX) hm; rw [hX.K] at h; exact h, tv_bool (ev_e2 va vb) fun σ H Q h => h⟩
/-- any bool expression, as a test -/
theorem dt_val {e : Expr} {f : Ev} (h : DE c e f) (he : ∀ X, InC c X → ∀ whole, isTrue e X.env whole = (do let v ← whole; standAt e.pos; holding [v] (truthy v))) : DT c e (tB f) := by
  obtain ⟨t, p, v⟩ := h
  exact ⟨_, fun X hX => pt_val (p X hX) (he X hX), tv_bool v fun σ H Q h => h⟩
/-- by its truth -/
def tTr (f : Ev) : Tv := fun ρ S => (f ρ S).bind fun p => (vw p.2 p.1).bind fun d => (truthD d).bind fun b => some (b, p.2)
theorem dt_truth {e : Expr} {f : Ev} (h : DE c e f) (he : ∀ X, InC c X → ∀ whole, isTrue e X.env whole = (do let v ← whole; standAt e.pos; holding [v] (truthy v))) : DT c e (tTr f) := by
  obtain ⟨t, p, v⟩ := h
  refine ⟨fun σ H Q => t σ H fun x H' => ∃ k, TruV c.K x H' k ∧ Q k H', fun X hX => by have h := pt_truth (p X hX) (he X hX); rw [hX.K] at h; exact h, fun Lf adr S σ H ρ b S' Q I e w => ?_⟩
  unfold tTr at e
  simp only [Option.bind_eq_some_iff] at e
  obtain ⟨⟨x, S1⟩, e1, d, e2, k, e3, e4⟩ := e
  cases e4
  refine v Lf adr S σ H ρ _ _ _ I e1 fun v adr1 H1 x1 s1 r1 => ?_
  exact ⟨_, truth_ok (vw_ok s1 r1 e2) e3, w adr1 H1 x1 s1⟩

/-! ### and, or, not, if -/
variable {tA tB' : Tv} {rest : List Expr}
def tAnd (t u : Tv) : Tv := fun ρ S => (t ρ S).bind fun p => if p.1 = true then u ρ p.2 else some (false, p.2)
def tOr (t u : Tv) : Tv := fun ρ S => (t ρ S).bind fun p => if p.1 = true then some (true, p.2) else u ρ p.2
def tNot (t : Tv) : Tv := fun ρ S => (t ρ S).bind fun p => some (!p.1, p.2)
theorem dw_and1 (h : DT c a tA) : DW c (.BoolOp .And [a] pos) tA := let ⟨t, p, v⟩ := h; ⟨t, fun X hX => pw_and1 (p X hX), v⟩
theorem dw_or1 (h : DT c a tA) : DW c (.BoolOp .Or [a] pos) tA := let ⟨t, p, v⟩ := h; ⟨t, fun X hX => pw_or1 (p X hX), v⟩
theorem dw_and (h : DT c a tA) (h' : DW c (.BoolOp .And (b :: rest) pos) tB') : DW c (.BoolOp .And (a :: b :: rest) pos) (tAnd tA tB') := by
  obtain ⟨ta, pa, va⟩ := h
  obtain ⟨tb, pb, vb⟩ := h'
  refine ⟨_, fun X hX => pw_and (pa X hX) (pb X hX), fun Lf adr S σ H ρ b S' Q I e w => ?_⟩
  unfold tAnd at e
  simp only [Option.bind_eq_some_iff] at e
  obtain ⟨⟨k, S1⟩, e1, e2⟩ := e
  refine va Lf adr S σ H ρ _ _ _ I e1 fun adr1 H1 x1 s1 => ?_
  cases k with
  | true => exact iteT (vb Lf adr1 S1 σ H1 ρ _ _ _ (I.ext x1 s1) e2 fun adr2 H2 x2 s2 => w adr2 H2 (x1.trans x2) s2)
  | false =>
    cases e2
    exact iteF (w adr1 H1 x1 s1)
theorem dw_or (h : DT c a tA) (h' : DW c (.BoolOp .Or (b :: rest) pos) tB') : DW c (.BoolOp .Or (a :: b :: rest) pos) (tOr tA tB') := by
  obtain ⟨ta, pa, va⟩ := h
  obtain ⟨tb, pb, vb⟩ := h'
  refine ⟨_, fun X hX => pw_or (pa X hX) (pb X hX), fun Lf adr S σ H ρ b S' Q I e w => ?_⟩
  unfold tOr at e
  simp only [Option.bind_eq_some_iff] at e
  obtain ⟨⟨k, S1⟩, e1, e2⟩ := e
  refine va Lf adr S σ H ρ _ _ _ I e1 fun adr1 H1 x1 s1 => ?_
  cases k with
  | false => exact iteF (vb Lf adr1 S1 σ H1 ρ _ _ _ (I.ext x1 s1) e2 fun adr2 H2 x2 s2 => w adr2 H2 (x1.trans x2) s2)
  | true =>
    cases e2
    exact iteT (w adr1 H1 x1 s1)
theorem dt_w {e : Expr} (h : DW c e tA) : DT c e tA := let ⟨t, p, v⟩ := h; ⟨t, fun X hX => (p X hX).pt, v⟩
theorem dt_not (h : DT c a tA) : DT c (.UnaryOp .Not a pos) (tNot tA) := by
  obtain ⟨ta, pa, va⟩ := h
  refine ⟨_, fun X hX => pt_not (pa X hX), fun Lf adr S σ H ρ b S' Q I e w => ?_⟩
  unfold tNot at e
  simp only [Option.bind_eq_some_iff] at e
  obtain ⟨⟨k, S1⟩, e1, e2⟩ := e
  cases e2
  exact va Lf adr S σ H ρ _ _ _ I e1 fun adr1 H1 x1 s1 => w adr1 H1 x1 s1
/-- .. as values: bools -/
def eAnd (fa fb : Ev) : Ev := fun ρ S => (fa ρ S).bind fun p => match p.1 with | .p (.bool b) => if b = true then fb ρ p.2 else some (.p (.bool false), p.2) | _ => none
def eOr (fa fb : Ev) : Ev := fun ρ S => (fa ρ S).bind fun p => match p.1 with | .p (.bool b) => if b = true then some (.p (.bool true), p.2) else fb ρ p.2 | _ => none
def eNot (fa : Ev) : Ev := fun ρ S => (fa ρ S).bind fun p => match p.1 with | .p (.bool b) => some (.p (.bool (!b)), p.2) | _ => none
theorem de_one {op : BoolOp} (h : DE c a fa) : DE c (.BoolOp op [a] pos) fa := let ⟨t, p, v⟩ := h; ⟨t, fun X hX => pe_one (p X hX), v⟩
theorem bool_at {H : Hp} {L : AdP} {v : V} {b : Bool} (h : At H L v (.bool b)) : v = .bl b := by cases h; rfl
theorem de_and (ha : DE c a fa) (hb : DE c (.BoolOp .And (b :: rest) pos) fb) : DE c (.BoolOp .And (a :: b :: rest) pos) (eAnd fa fb) := by
  obtain ⟨ta, pa, va⟩ := ha
  obtain ⟨tb, pb, vb⟩ := hb
  refine ⟨_, fun X hX => pe_and (pa X hX) (pb X hX), fun Lf adr S σ H ρ d S' Q I e w => ?_⟩
  unfold eAnd at e
  simp only [Option.bind_eq_some_iff] at e
  obtain ⟨⟨x, S1⟩, e1, e2⟩ := e
  refine va Lf adr S σ H ρ _ _ _ I e1 fun v adr1 H1 x1 s1 r1 => ?_
  cases x with
  | p d =>
    cases d with
    | bool k =>
      refine ⟨k, bool_at r1, ?_⟩
      cases k with
      | true => exact iteT (vb Lf adr1 S1 σ H1 ρ _ _ _ (I.ext x1 s1) e2 (w.trans x1))
      | false => cases e2; exact iteF (w _ adr1 H1 x1 s1 (.bl false))
    | _ => cases e2
  | _ => cases e2
theorem de_or (ha : DE c a fa) (hb : DE c (.BoolOp .Or (b :: rest) pos) fb) : DE c (.BoolOp .Or (a :: b :: rest) pos) (eOr fa fb) := by
  obtain ⟨ta, pa, va⟩ := ha
  obtain ⟨tb, pb, vb⟩ := hb
  refine ⟨_, fun X hX => pe_or (pa X hX) (pb X hX), fun Lf adr S σ H ρ d S' Q I e w => ?_⟩
  unfold eOr at e
  simp only [Option.bind_eq_some_iff] at e
  obtain ⟨⟨x, S1⟩, e1, e2⟩ := e
  refine va Lf adr S σ H ρ _ _ _ I e1 fun v adr1 H1 x1 s1 r1 => ?_
  cases x with
  | p d =>
    cases d with
    | bool k =>
      refine ⟨k, bool_at r1, ?_⟩
      cases k with
      | false => exact iteF (vb Lf adr1 S1 σ H1 ρ _ _ _ (I.ext x1 s1) e2 (w.trans x1))
      | true => cases e2; exact iteT (w _ adr1 H1 x1 s1 (.bl true))
    | _ => cases e2
  | _ => cases e2
theorem de_not (ha : DE c a fa) : DE c (.UnaryOp .Not a pos) (eNot fa) := by
  obtain ⟨ta, pa, va⟩ := ha
  refine ⟨_, fun X hX => pe_not (pa X hX), fun Lf adr S σ H ρ d S' Q I e w => ?_⟩
  unfold eNot at e
  simp only [Option.bind_eq_some_iff] at e
  obtain ⟨⟨x, S1⟩, e1, e2⟩ := e
  refine va Lf adr S σ H ρ _ _ _ I e1 fun v adr1 H1 x1 s1 r1 => ?_
  cases x with
  | p d =>
    cases d with
    | bool k =>
      cases e2
      exact ⟨k, bool_at r1, w _ adr1 H1 x1 s1 (.bl _)⟩
    | _ => cases e2
  | _ => cases e2
/-- -a -/
def eNeg (fa : Ev) : Ev := fun ρ S => (fa ρ S).bind fun p => match p.1 with | .p (.int i) => some (.p (.int (-i)), p.2) | _ => none
theorem de_neg (ha : DE c a fa) : DE c (.UnaryOp .USub a pos) (eNeg fa) := by
  obtain ⟨ta, pa, va⟩ := ha
  refine ⟨_, fun X hX => pe_un un_neg (pa X hX), fun Lf adr S σ H ρ d S' Q I e w => ?_⟩
  unfold eNeg at e
  simp only [Option.bind_eq_some_iff] at e
  obtain ⟨⟨x, S1⟩, e1, e2⟩ := e
  refine va Lf adr S σ H ρ _ _ _ I e1 fun v adr1 H1 x1 s1 r1 => ?_
  cases x with
  | p d =>
    cases d with
    | int k =>
      cases e2
      have r1 : At H1 _ v (.int k) := r1
      cases r1
      exact ⟨k, rfl, w _ adr1 H1 x1 s1 (.int _)⟩
    | _ => cases e2
  | _ => cases e2
def eIf (t : Tv) (fa fb : Ev) : Ev := fun ρ S => (t ρ S).bind fun p => if p.1 = true then fa ρ p.2 else fb ρ p.2
theorem de_if {t : Expr} (ht : DT c t tA) (ha : DE c a fa) (hb : DE c b fb) : DE c (.IfExp t a b pos) (eIf tA fa fb) := by
  obtain ⟨tt, pt, vt⟩ := ht
  obtain ⟨ta, pa, va⟩ := ha
  obtain ⟨tb, pb, vb⟩ := hb
  refine ⟨_, fun X hX => pe_ifExp (pt X hX) (pa X hX) (pb X hX), fun Lf adr S σ H ρ d S' Q I e w => ?_⟩
  unfold eIf at e
  simp only [Option.bind_eq_some_iff] at e
  obtain ⟨⟨k, S1⟩, e1, e2⟩ := e
  refine vt Lf adr S σ H ρ _ _ _ I e1 fun adr1 H1 x1 s1 => ?_
  cases k with
  | true => exact iteT (va Lf adr1 S1 σ H1 ρ _ _ _ (I.ext x1 s1) e2 (w.trans x1))
  | false => exact iteF (vb Lf adr1 S1 σ H1 ρ _ _ _ (I.ext x1 s1) e2 (w.trans x1))
/-- a test whose value is told by a bool of a value expression -/
def eT (t : Tv) : Ev := fun ρ S => (t ρ S).bind fun p => some (.p (.bool p.1), p.2)

/-! ### arguments, tuples, calls -/
def noStar : List Expr → Bool
  | [] => true
  | .Starred _ _ :: _ => false
  | _ :: r => noStar r
theorem star_cons {e : Expr} {es : List Expr} {env : Env} (h : noStar (e :: es) = true) : starEach (e :: es) env = (false, eval e env) :: starEach es env := by
  cases e <;> first | rfl | (simp [noStar] at h)
theorem star_tl {e : Expr} {es : List Expr} (h : noStar (e :: es) = true) : noStar es = true := by
  cases e <;> first | exact h | (simp [noStar] at h)
theorem star_any {pos : Pos} {env : Env} : ∀ {es : List Expr}, noStar es = true → (backTo pos (starEach es env)).any (·.1) = false
  | [], _ => rfl
  | e :: es, h => by
    rw [star_cons h]
    have := star_any (pos := pos) (env := env) (star_tl h)
    simpa [backTo] using this
variable {es : List Expr} {fs : Av}
def aNil : Av := fun _ S => some ([], S)
def aCons (fa : Ev) (fs : Av) : Av := fun ρ S => (fa ρ S).bind fun p => (fs ρ p.2).bind fun q => some (p.1 :: q.1, q.2)
theorem da_nil : DA c [] aNil := ⟨_, fun X _ => pa_nil, fun Lf adr S σ H ρ ds S' Q I e w => by cases e; exact w [] adr H .refl I.sto .nil⟩
theorem da_cons (ha : DE c a fa) (hs : DA c es fs) (hst : noStar (a :: es) = true) : DA c (a :: es) (aCons fa fs) := by
  obtain ⟨ta, pa, va⟩ := ha
  obtain ⟨ts, ps, vs⟩ := hs
  refine ⟨_, fun X hX => pa_cons (pa X hX) (ps X hX) (star_cons hst), fun Lf adr S σ H ρ ds S' Q I e w => ?_⟩
  unfold aCons at e
  simp only [Option.bind_eq_some_iff] at e
  obtain ⟨⟨x, S1⟩, e1, ⟨y, S2⟩, e2, e3⟩ := e
  cases e3
  refine va Lf adr S σ H ρ _ _ _ I e1 fun v adr1 H1 x1 s1 r1 => ?_
  refine vs Lf adr1 S1 σ H1 ρ _ _ _ (I.ext x1 s1) e2 fun us adr2 H2 x2 s2 r2 => ?_
  exact w _ adr2 H2 (x1.trans x2) s2 (.cons (r1.ext0 s1 x2) r2)
/-- all are data -/
def pvs : List D → Option (List PyData)
  | [] => some []
  | .p d :: ds => (pvs ds).map (d :: ·)
  | _ :: _ => none
theorem pvs_ok {K : PySem.W.Frag} {L C : AdP} {n : Nat} : ∀ {vs : List V} {ds : List D} {ms : List PyData}, DRL K H L Lf C adr n vs ds → pvs ds = some ms → AtL H L vs ms
  | _, [], _, r, e => by cases e; cases r; exact .nil
  | _, d :: ds, _, r, e => by
    cases r with
    | cons a b =>
      cases d with
      | p d =>
        obtain ⟨ms, e1, e2⟩ := Option.map_eq_some_iff.mp (show (pvs ds).map (d :: ·) = _ from e)
        subst e2
        exact .cons a (pvs_ok b e1)
      | _ => cases e
def eTup (fs : Av) : Ev := fun ρ S => (fs ρ S).bind fun p => (pvs p.1).bind fun ds => if ds.length ≤ 10000 then some (.p (.tuple ds), p.2) else none
theorem de_tup {k : Nat} (hs : DA c es fs) : DE c (.Tuple es k pos) (eTup fs) := by
  obtain ⟨ts, ps, vs⟩ := hs
  refine ⟨_, fun X hX => pe_tup (ps X hX), fun Lf adr S σ H ρ d S' Q I e w => ?_⟩
  unfold eTup at e
  simp only [Option.bind_eq_some_iff] at e
  obtain ⟨⟨x, S1⟩, e1, ds, e2, e3⟩ := e
  split at e3
  · rename_i hz
    cases e3
    refine vs Lf adr S σ H ρ _ _ _ I e1 fun us adr1 H1 x1 s1 r1 => ?_
    have r := pvs_ok r1 e2
    refine ⟨by rw [r.length, sizeLine_eq]; omega, fun p hp => ?_⟩
    exact wi_gr s1 (w.trans x1) _ _ (upd_grow hp) (.newT (fun z => s1.lvv) hp r)
  · cases e3
/-- a built-in by data -/
def eB (f : List PyData → Option PyData) (fs : Av) : Ev := fun ρ S => (fs ρ S).bind fun p => (vws p.2 p.1).bind fun ds => (f ds).bind fun r => some (.p r, p.2)
theorem ev_cb {f : List PyData → Option PyData} {t : TA} (h : AvOk c t fs) : EvOk c (tCB (rCD c.K f) t) (eB f fs) := fun Lf adr S σ H ρ d S' Q I e w => by
  unfold eB at e
  simp only [Option.bind_eq_some_iff] at e
  obtain ⟨⟨x, S1⟩, e1, ds, e2, r, e3, e4⟩ := e
  cases e4
  refine h Lf adr S σ H ρ _ _ _ I e1 fun us adr1 H1 x1 s1 r1 => ?_
  exact ⟨_, ds, r, fun z => s1.lvv, vws_ok s1 r1 e2, e3, wi_gr s1 (w.trans x1)⟩
theorem de_callB {id : String} {f : List PyData → Option PyData} {x : Str} {p : Pos} {e : Expr} (hc : ∀ X, InC c X → CallR X (.builtin id) (rCD X.K f)) (hg : c.sc.names.lookup x = some .globalImplicit) (hm : c.mg x = none) (hv : bootBuiltins x = some (.builtin id)) (ha : DA c (e :: es) fs)
    (hn : x ≠ "__name__") (hdb : (x == ("__debug__" : Str)) = false) (hst : noStar (e :: es) = true) : DE c (.Call (.Name x p) (e :: es) [] pos) (eB f fs) := by
  obtain ⟨t, pa, va⟩ := ha
  exact ⟨_, fun X hX => by
    have h := pe_callB (p := p) (pos := pos) (hc X hX) (show Gl X x by show X.env.scope.names.lookup x = _; rw [hX.sc]; exact hg) (by rw [hX.mg]; exact hm) hv (pa X hX) hn hdb (star_cons hst) (star_any (star_tl hst))
    rw [hX.K] at h
    exact h, ev_cb va⟩
theorem de_callTy {T : String} {f : List PyData → Option PyData} {x : Str} {p : Pos} {e : Expr} (hc : ∀ X, InC c X → CallR X (.type T) (rCD X.K f)) (hg : c.sc.names.lookup x = some .globalImplicit) (hm : c.mg x = none) (hv : bootBuiltins x = some (.type T)) (ha : DA c (e :: es) fs)
    (hn : x ≠ "__name__") (hdb : (x == ("__debug__" : Str)) = false) (hst : noStar (e :: es) = true) : DE c (.Call (.Name x p) (e :: es) [] pos) (eB f fs) := by
  obtain ⟨t, pa, va⟩ := ha
  exact ⟨_, fun X hX => by
    have h := pe_callTy (p := p) (pos := pos) (hc X hX) (show Gl X x by show X.env.scope.names.lookup x = _; rw [hX.sc]; exact hg) (by rw [hX.mg]; exact hm) hv (pa X hX) hn hdb (star_cons hst) (star_any (star_tl hst))
    rw [hX.K] at h
    exact h, ev_cb va⟩
end
end DL
namespace DL
open PySem PySem.Spec L2
open PyProof.Rows hiding St
section
variable {c : Cxt} {Lf : AdP} {adr : Nat → Addr} {S : Sto} {H : Hp} {σ : L2.St} {ρ : Env'} {a b d' : Expr} {fa fb fd : Ev} {pos : Pos} {es : List Expr} {fs : Av}
/-! ### a < b < c -/
def e3 (f g : PyData → PyData → Option PyData) (fa fb fc : Ev) : Ev := fun ρ S => (fa ρ S).bind fun p => (fb ρ p.2).bind fun q => (vw q.2 p.1).bind fun a => (vw q.2 q.1).bind fun b => (f a b).bind fun r =>
  match r with
  | .bool k => if k = true then (fc ρ q.2).bind fun w => (vw w.2 q.1).bind fun b' => (vw w.2 w.1).bind fun c => (g b' c).bind fun r => some (.p r, w.2) else some (.p (.bool false), q.2)
  | _ => none
theorem grow_ok {H' : Hp} (s : StOk c Lf adr S H) (k : ∀ a o, H a = some o → H' a = some o) : StOk c Lf adr S H' := s.grow k fun z hz => ⟨.inl hz, (s.lfo z hz).keep (k z)⟩
theorem ev_e3 {f g : PyData → PyData → Option PyData} {ta tb td : TE} (va : EvOk c ta fa) (vb : EvOk c tb fb) (vd : EvOk c td fd) : EvOk c (tChain (rD c.K f) (rD c.K g) ta tb td) (e3 f g fa fb fd) := fun Lf adr S σ H ρ d S' Q I e w => by
  unfold e3 at e
  simp only [Option.bind_eq_some_iff] at e
  obtain ⟨⟨x, S1⟩, e1, ⟨y, S2⟩, e2, m, e3, n, e4, r, e5, e6⟩ := e
  refine va Lf adr S σ H ρ x S1 _ I e1 fun v adr1 H1 x1 s1 r1 => ?_
  have I1 := I.ext x1 s1
  refine vb Lf adr1 S1 σ H1 ρ y S2 _ I1 e2 fun u adr2 H2 x2 s2 r2 => ?_
  refine ⟨_, m, n, r, fun z => s2.lvv, vw_ok s2 (r1.ext0 s1 x2) e3, vw_ok s2 r2 e4, e5, fun z H3 k3 a3 => ?_⟩
  have s3 := grow_ok s2 k3
  have x3 : Ext adr2 S2 H2 adr2 S2 H3 := .grow k3
  cases r with
  | bool k =>
    refine ⟨k, bool_at a3, ?_⟩
    cases k with
    | false =>
      cases e6
      exact iteF (w _ adr2 H3 (x1.trans (x2.trans x3)) s3 (.bl false))
    | true =>
      simp only [if_pos, Option.bind_eq_some_iff] at e6
      obtain ⟨⟨z', S3⟩, e7, m', e8, n', e9, r', e10, e11⟩ := e6
      cases e11
      refine iteT (vd Lf adr2 S2 σ H3 ρ z' S3 _ ((I1.ext x2 s2).ext x3 s3) e7 fun u4 adr4 H4 x4 s4 r4 => ?_)
      exact ⟨_, m', n', r', fun z => s4.lvv, vw_ok s4 (r2.ext0 s2 (x3.trans x4)) e8, vw_ok s4 r4 e9, e10, wi_gr s4 (w.trans (x1.trans (x2.trans (x3.trans x4))))⟩
  | _ => cases e6
theorem de_chain {op op' : CmpOp} {f g : PyData → PyData → Option PyData} (ho : ∀ X, InC c X → OpR X (compareOp op) (rD X.K f)) (ho' : ∀ X, InC c X → OpR X (compareOp op') (rD X.K g)) (ha : DE c a fa) (hb : DE c b fb) (hd : DE c d' fd) (hm : lastMarks [op, op'] [b, d'] = false) :
    DE c (.Compare a [op, op'] [b, d'] pos) (e3 f g fa fb fd) := by
  obtain ⟨ta, pa, va⟩ := ha
  obtain ⟨tb, pb, vb⟩ := hb
  obtain ⟨td, pd, vd⟩ := hd
  exact ⟨_, fun X hX => by have h := pe_chain (pos := pos) (ho X hX) (ho' X hX) (pa X hX) (pb X hX) (pd X hX) hm; rw [hX.K] at h; exact h, ev_e3 va vb vd⟩
theorem dt_chain {op op' : CmpOp} {f g : PyData → PyData → Option PyData} (ho : ∀ X, InC c X → OpR X (compareOp op) (rD X.K f)) (ho' : ∀ X, InC c X → OpR X (compareOp op') (rD X.K g)) (ha : DE c a fa) (hb : DE c b fb) (hd : DE c d' fd) (hm : lastMarks [op, op'] [b, d'] = false) :
    DT c (.Compare a [op, op'] [b, d'] pos) (tB (e3 f g fa fb fd)) := by
  obtain ⟨ta, pa, va⟩ := ha
  obtain ⟨tb, pb, vb⟩ := hb
  obtain ⟨td, pd, vd⟩ := hd
  exact ⟨_, fun X hX => by have h := pt_chain (pos := pos) (ho X hX) (ho' X hX) (pa X hX) (pb X hX) (pd X hX) hm; rw [hX.K] at h; exact h, tv_bool (ev_e3 va vb vd) fun σ H Q h => h⟩

/-! ### subscripts -/
theorem de_ix (ha : DE c a fa) (hb : DE c b fb) (hs : PlainIx b) : DE c (.Subscript a b pos) (e2 ixD fa fb) := by
  obtain ⟨ta, pa, va⟩ := ha
  obtain ⟨tb, pb, vb⟩ := hb
  exact ⟨_, fun X hX => by have h := pe_ix (pos := pos) (hx_ix hX.un) (pa X hX) (pb X hX) hs; rw [hX.K] at h; exact h, ev_e2 va vb⟩
/-- a slice's end -/
abbrev Ov := Env' → Sto → Option (Option Int × Sto)
def OvOk (c : Cxt) (t : TO) (f : Ov) : Prop := ∀ Lf adr S σ H ρ o S' (Q : Option Int → Hp → Prop), EOk c Lf adr S σ H ρ → f ρ S = some (o, S') → (∀ adr' H', Ext adr S H adr' S' H' → StOk c Lf adr' S' H' → Q o H') → t σ H Q
def DO (c : Cxt) (e : Option Expr) (f : Ov) : Prop := ∃ t, (∀ X, InC c X → PO X e t) ∧ OvOk c t f
def oNone : Ov := fun _ S => some (none, S)
def oSome (fa : Ev) : Ov := fun ρ S => (fa ρ S).bind fun p => match p.1 with | .p (.int i) => some (some i, p.2) | _ => none
theorem do_none : DO c none oNone := ⟨_, fun X _ => po_none, fun Lf adr S σ H ρ o S' Q I e w => by cases e; exact w adr H .refl I.sto⟩
theorem do_some (ha : DE c a fa) : DO c (some a) (oSome fa) := by
  obtain ⟨ta, pa, va⟩ := ha
  refine ⟨_, fun X hX => po_some (pa X hX), fun Lf adr S σ H ρ o S' Q I e w => ?_⟩
  unfold oSome at e
  simp only [Option.bind_eq_some_iff] at e
  obtain ⟨⟨x, S1⟩, e1, e2⟩ := e
  refine va Lf adr S σ H ρ _ _ _ I e1 fun v adr1 H1 x1 s1 r1 => ?_
  cases x with
  | p d =>
    cases d with
    | int k =>
      cases e2
      have r1 : At H1 _ v (.int k) := r1
      cases r1
      exact ⟨k, rfl, w adr1 H1 x1 s1⟩
    | _ => cases e2
  | _ => cases e2
variable {lo hi : Option Expr} {fl fh : Ov} {p2 : Pos}
def eSl (fa : Ev) (fl fh : Ov) : Ev := fun ρ S => (fa ρ S).bind fun p => (fl ρ p.2).bind fun q => (fh ρ q.2).bind fun r => (vw r.2 p.1).bind fun d => (sliceD d q.1 r.1).bind fun z => some (.p z, r.2)
theorem de_slT (ha : DE c a fa) (hl : DO c lo fl) (hh : DO c hi fh) : DE c (.Subscript a (.Slice lo hi none p2) pos) (eSl fa fl fh) := by
  obtain ⟨ta, pa, va⟩ := ha
  obtain ⟨tl, pl, vl⟩ := hl
  obtain ⟨th, ph, vh⟩ := hh
  refine ⟨_, fun X hX => by have h := pe_slice (pos := pos) (p2 := p2) sl_tupA (pa X hX) (pl X hX) (ph X hX); rw [hX.K] at h; exact h, fun Lf adr S σ H ρ d S' Q I e w => ?_⟩
  unfold eSl at e
  simp only [Option.bind_eq_some_iff] at e
  obtain ⟨⟨x, S1⟩, e1, ⟨l, S2⟩, e2, ⟨u, S3⟩, e3, m, e4, z, e5, e6⟩ := e
  cases e6
  refine va Lf adr S σ H ρ _ _ _ I e1 fun v adr1 H1 x1 s1 r1 => ?_
  have I1 := I.ext x1 s1
  refine vl Lf adr1 S1 σ H1 ρ _ _ _ I1 e2 fun adr2 H2 x2 s2 => ?_
  have I2 := I1.ext x2 s2
  refine vh Lf adr2 S2 σ H2 ρ _ _ _ I2 e3 fun adr3 H3 x3 s3 => ?_
  have r := vw_ok s3 (r1.ext0 s1 (x2.trans x3)) e4
  cases m with
  | tuple ds =>
    cases e5
    obtain ⟨b, xs, rfl, h1, r1'⟩ := r.tuple_inv
    have g := wi_gr s3 (w.trans (x1.trans (x2.trans x3)))
    refine ⟨b, xs, rfl, h1, fun hw => ?_, fun _ p hp => ?_⟩
    · refine g _ _ (fun _ _ q => q) ?_
      have e : (ds.drop (HT.sIx ds.length 0 l)).take (HT.sIx ds.length ds.length u - HT.sIx ds.length 0 l) = ds := by
        rw [r1'.length] at hw
        rw [hw.1, hw.2]
        simp
      rw [e]
      exact r.tuple_at
    · exact g _ _ (upd_grow hp) (.newT (fun z => s3.lvv) hp (r1'.cut l u))
  | _ => cases e5
/-- a list's slice: a fresh list -/
def lSl (fa : Ev) (fl fh : Ov) : Lsv := fun ρ S => (fa ρ S).bind fun p => (fl ρ p.2).bind fun q => (fh ρ q.2).bind fun r => (vw r.2 p.1).bind fun d => (sliceL d q.1 r.1).bind fun z => some (z, r.2)
theorem dl_sl (ha : DE c a fa) (hl : DO c lo fl) (hh : DO c hi fh) : DLs c (.Subscript a (.Slice lo hi none p2) pos) (lSl fa fl fh) := by
  obtain ⟨ta, pa, va⟩ := ha
  obtain ⟨tl, pl, vl⟩ := hl
  obtain ⟨th, ph, vh⟩ := hh
  refine ⟨_, fun X hX => by have h := pe_slice (pos := pos) (p2 := p2) sl_list (pa X hX) (pl X hX) (ph X hX); rw [hX.K] at h; exact h, fun Lf adr S σ H ρ d S' Q I e w => ?_⟩
  unfold lSl at e
  simp only [Option.bind_eq_some_iff] at e
  obtain ⟨⟨x, S1⟩, e1, ⟨l, S2⟩, e2, ⟨u, S3⟩, e3, m, e4, z, e5, e6⟩ := e
  cases e6
  refine va Lf adr S σ H ρ _ _ _ I e1 fun v adr1 H1 x1 s1 r1 => ?_
  have I1 := I.ext x1 s1
  refine vl Lf adr1 S1 σ H1 ρ _ _ _ I1 e2 fun adr2 H2 x2 s2 => ?_
  have I2 := I1.ext x2 s2
  refine vh Lf adr2 S2 σ H2 ρ _ _ _ I2 e3 fun adr3 H3 x3 s3 => ?_
  have r := vw_ok s3 (r1.ext0 s1 (x2.trans x3)) e4
  cases m with
  | list ds =>
    cases e5
    obtain ⟨b, xs, rfl, h1, r1'⟩ := r.list_inv
    exact ⟨b, xs, rfl, h1, fun p hp => wi_grL s3 (w.trans (x1.trans (x2.trans x3))) p _ _ hp (upd_grow hp) upd_same (r1'.cut l u)⟩
  | _ => cases e5

/-! ### fresh lists -/
def eL (f : Lsv) : Ev := fun ρ S => (f ρ S).bind fun p => some (.p (.list p.1), p.2)
theorem ev_l {t : TE} {f : Lsv} (v : LvOk c t f) : EvOk c t (eL f) := fun Lf adr S σ H ρ d S' Q I e w => by
  unfold eL at e
  simp only [Option.bind_eq_some_iff] at e
  obtain ⟨⟨ds, S1⟩, e1, e2⟩ := e
  cases e2
  refine v Lf adr S σ H ρ _ _ _ I e1 fun p ws adr' H' x s n hp r => ?_
  have nl : ¬ Lf p := fun z => I.sto.lf p z n
  have nc : ¬ LvC adr' S1 p := fun z => s.disj p z (.inr rfl)
  refine w _ adr' H' x (s.weak fun a z => .inl z) (.lst (fun z => z.elim nl nc) hp (r.tr fun z h1 h2 => ⟨.of fun o q => q, fun h3 => ?_⟩))
  exact h2 (h3.imp .inl id)
theorem de_l {e : Expr} {f : Lsv} (h : DLs c e f) : DE c e (eL f) := let ⟨t, p, v⟩ := h; ⟨t, p, ev_l v⟩
def lDisp (fs : Av) : Lsv := fun ρ S => (fs ρ S).bind fun p => (pvs p.1).bind fun ds => if ds.length ≤ 10000 then some (ds, p.2) else none
theorem dl_disp (hs : DA c es fs) : DLs c (.List es pos) (lDisp fs) := by
  obtain ⟨ts, ps, vs⟩ := hs
  refine ⟨_, fun X hX => pe_lst (ps X hX), fun Lf adr S σ H ρ d S' Q I e w => ?_⟩
  unfold lDisp at e
  simp only [Option.bind_eq_some_iff] at e
  obtain ⟨⟨x, S1⟩, e1, ds, e2, e3⟩ := e
  split at e3
  · rename_i hz
    cases e3
    refine vs Lf adr S σ H ρ _ _ _ I e1 fun us adr1 H1 x1 s1 r1 => ?_
    have r := pvs_ok r1 e2
    exact ⟨by rw [r.length, sizeLine_eq]; omega, fun p hp => wi_grL s1 (w.trans x1) p us _ hp (upd_grow hp) upd_same r⟩
  · cases e3
def lB (f : List PyData → Option (List PyData)) (fs : Av) : Lsv := fun ρ S => (fs ρ S).bind fun p => (vws p.2 p.1).bind fun ds => (f ds).bind fun r => some (r, p.2)
theorem lv_cb {f : List PyData → Option (List PyData)} {t : TA} (h : AvOk c t fs) : LvOk c (tCB (rCL c.K f) t) (lB f fs) := fun Lf adr S σ H ρ d S' Q I e w => by
  unfold lB at e
  simp only [Option.bind_eq_some_iff] at e
  obtain ⟨⟨x, S1⟩, e1, ds, e2, r, e3, e4⟩ := e
  cases e4
  refine h Lf adr S σ H ρ _ _ _ I e1 fun us adr1 H1 x1 s1 r1 => ?_
  exact ⟨_, ds, _, fun z => s1.lvv, vws_ok s1 r1 e2, e3, wi_grL s1 (w.trans x1)⟩
theorem dl_callB {id : String} {f : List PyData → Option (List PyData)} {x : Str} {p : Pos} {e : Expr} (hc : ∀ X, InC c X → CallR X (.builtin id) (rCL X.K f)) (hg : c.sc.names.lookup x = some .globalImplicit) (hm : c.mg x = none) (hv : bootBuiltins x = some (.builtin id)) (ha : DA c (e :: es) fs)
    (hn : x ≠ "__name__") (hdb : (x == ("__debug__" : Str)) = false) (hst : noStar (e :: es) = true) : DLs c (.Call (.Name x p) (e :: es) [] pos) (lB f fs) := by
  obtain ⟨t, pa, va⟩ := ha
  exact ⟨_, fun X hX => by
    have h := pe_callB (p := p) (pos := pos) (hc X hX) (show Gl X x by show X.env.scope.names.lookup x = _; rw [hX.sc]; exact hg) (by rw [hX.mg]; exact hm) hv (pa X hX) hn hdb (star_cons hst) (star_any (star_tl hst))
    rw [hX.K] at h
    exact h, lv_cb va⟩
theorem dl_callTy {T : String} {f : List PyData → Option (List PyData)} {x : Str} {p : Pos} {e : Expr} (hc : ∀ X, InC c X → CallR X (.type T) (rCL X.K f)) (hg : c.sc.names.lookup x = some .globalImplicit) (hm : c.mg x = none) (hv : bootBuiltins x = some (.type T)) (ha : DA c (e :: es) fs)
    (hn : x ≠ "__name__") (hdb : (x == ("__debug__" : Str)) = false) (hst : noStar (e :: es) = true) : DLs c (.Call (.Name x p) (e :: es) [] pos) (lB f fs) := by
  obtain ⟨t, pa, va⟩ := ha
  exact ⟨_, fun X hX => by
    have h := pe_callTy (p := p) (pos := pos) (hc X hX) (show Gl X x by show X.env.scope.names.lookup x = _; rw [hX.sc]; exact hg) (by rw [hX.mg]; exact hm) hv (pa X hX) hn hdb (star_cons hst) (star_any (star_tl hst))
    rw [hX.K] at h
    exact h, lv_cb va⟩
end
end DL
namespace DL
open PySem PySem.Spec L2
open PyProof.Rows hiding St
/-! ### targets -/
abbrev Gv := PyData → Env' → Option Env'
/-- only the slots at is change; nothing new is owned -/
structure Chg (is : List Nat) (σ σ' : L2.St) (ρ ρ' : Env') : Prop where
  lenσ : σ'.length = σ.length
  lenρ : ρ'.length = ρ.length
  eσ : ∀ (i : Nat), i ∉ is → σ'[i]? = σ[i]?
  eρ : ∀ (i : Nat), i ∉ is → ρ'[i]? = ρ[i]?
  no : ∀ (i : Nat) (m : PyData), ρ'[i]? = some (some (.o m)) → ρ[i]? = some (some (.o m)) ∧ σ'[i]? = σ[i]?
theorem Chg.refl {is : List Nat} {σ : L2.St} {ρ : Env'} : Chg is σ σ ρ ρ := ⟨rfl, rfl, fun _ _ => rfl, fun _ _ => rfl, fun _ _ h => ⟨h, rfl⟩⟩
theorem Chg.trans {is js : List Nat} {σ σ1 σ2 : L2.St} {ρ ρ1 ρ2 : Env'} (x : Chg is σ σ1 ρ ρ1) (y : Chg js σ1 σ2 ρ1 ρ2) : Chg (is ++ js) σ σ2 ρ ρ2 where
  lenσ := y.lenσ.trans x.lenσ
  lenρ := y.lenρ.trans x.lenρ
  eσ := fun i h => (y.eσ i fun z => h (List.mem_append_right _ z)).trans (x.eσ i fun z => h (List.mem_append_left _ z))
  eρ := fun i h => (y.eρ i fun z => h (List.mem_append_right _ z)).trans (x.eρ i fun z => h (List.mem_append_left _ z))
  no := fun i m h => let ⟨a, b⟩ := y.no i m h; let ⟨c, d⟩ := x.no i m a; ⟨c, b.trans d⟩
def GvOk (c : Cxt) (is : List Nat) (g : TG) (f : Gv) : Prop := ∀ Lf adr S σ H ρ v d ρ' (Q : L2.St → Hp → Prop), EOk c Lf adr S σ H ρ → At H (Lvv Lf adr S) v d → f d ρ = some ρ' →
  (∀ σ', EOk c Lf adr S σ' H ρ' → Chg is σ σ' ρ ρ' → Q σ' H) → g v σ H Q
def DG (c : Cxt) (is : List Nat) (e : Expr) (f : Gv) : Prop := ∃ g, (∀ X, InC c X → PG X e g) ∧ GvOk c is g f
abbrev Gsv := List PyData → Env' → Option Env'
def GsvOk (c : Cxt) (is : List Nat) (g : TGs) (f : Gsv) : Prop := ∀ Lf adr S σ H ρ vs ds ρ' (Q : L2.St → Hp → Prop), EOk c Lf adr S σ H ρ → AtL H (Lvv Lf adr S) vs ds → f ds ρ = some ρ' →
  (∀ σ', EOk c Lf adr S σ' H ρ' → Chg is σ σ' ρ ρ' → Q σ' H) → g vs σ H Q
def DGs (c : Cxt) (is : List Nat) (es : List Expr) (f : Gsv) : Prop := ∃ g, (∀ X, InC c X → PGs X es g) ∧ GsvOk c is g f
def gN (i : Nat) : Gv := fun d ρ => if i < ρ.length then some (ρ.set i (some (.p d))) else none
def gNil : Gsv := fun ds ρ => match ds with | [] => some ρ | _ => none
def gCons (f : Gv) (fs : Gsv) : Gsv := fun ds ρ => match ds with | d :: ds => (f d ρ).bind fun ρ1 => fs ds ρ1 | [] => none
def gT (fs : Gsv) : Gv := fun d ρ => match d with | .tuple ds => fs ds ρ | _ => none
section
variable {c : Cxt} {Lf : AdP} {adr : Nat → Addr} {S : Sto} {H : Hp} {σ : L2.St} {ρ : Env'} {pos : Pos}
theorem EOk.set {v : V} {d : D} (I : EOk c Lf adr S σ H ρ) (i : Nat) (h : DR c.K H (Lvv Lf adr S) Lf (LvC adr S) adr S.length v d) : EOk c Lf adr S (σ.set i (some v)) H (ρ.set i (some d)) := by
  refine ⟨fun j d' e => ?_, I.sto, by simp [I.len]⟩
  by_cases hj : j = i
  · subst hj
    by_cases hl : j < ρ.length
    · rw [List.getElem?_set_self hl] at e
      cases e
      exact ⟨v, List.getElem?_set_self (by rw [I.len]; exact hl), h⟩
    · rw [List.getElem?_eq_none (by simpa using hl)] at e
      cases e
  · rw [List.getElem?_set_ne (Ne.symm hj)] at e
    rw [List.getElem?_set_ne (Ne.symm hj)]
    exact I.slot j d' e
theorem chg_set {i : Nat} {v : V} {d : D} (hd : ∀ m, d ≠ .o m) (hl : i < ρ.length) : Chg [i] σ (σ.set i (some v)) ρ (ρ.set i (some d)) := by
  refine ⟨by simp, by simp, fun j hj => ?_, fun j hj => ?_, fun j m e => ?_⟩
  · rw [List.getElem?_set_ne (fun z => hj (by simp [z]))]
  · rw [List.getElem?_set_ne (fun z => hj (by simp [z]))]
  · by_cases hj : j = i
    · subst hj
      rw [List.getElem?_set_self hl] at e
      cases e
      exact absurd rfl (hd m)
    · rw [List.getElem?_set_ne (Ne.symm hj)] at e
      exact ⟨e, List.getElem?_set_ne (Ne.symm hj)⟩
theorem dg_name {i : Nat} {x : Str} (hN : c.N.Nodup) (hi : c.N[i]? = some x) (hx : Loc c.sc x) (hf : c.fn x = true ∨ c.sc.names.lookup x = some .local) : DG c [i] (.Name x pos) (gN i) := by
  refine ⟨gName i, fun X hX => pg_name (by rw [hX.N]; exact hN) (by rw [hX.N]; exact hi) (by rw [hX.sc]; exact hx) (by rw [hX.fn, hX.sc]; exact hf), fun Lf adr S σ H ρ v d ρ' Q I r e w => ?_⟩
  unfold gN at e
  split at e
  · rename_i hl
    cases e
    exact w _ (I.set i (d := .p d) r) (chg_set (fun m z => nomatch z) hl)
  · cases e
theorem dgs_nil : DGs c [] [] gNil := by
  refine ⟨L2.gNil, fun X hX => pgs_nil, fun Lf adr S σ H ρ vs ds ρ' Q I r e w => ?_⟩
  cases r with
  | nil => cases e; exact ⟨rfl, w σ I .refl⟩
  | cons _ _ => cases e
theorem dgs_cons {is js : List Nat} {e : Expr} {es : List Expr} {f : Gv} {fs : Gsv} (h : DG c is e f) (hs : DGs c js es fs) (ht : ∀ X, InC c X → (assignEach (e :: es) X.env).map (·.2) = assign e X.env :: (assignEach es X.env).map (·.2)) : DGs c (is ++ js) (e :: es) (gCons f fs) := by
  obtain ⟨g, pg, vg⟩ := h
  obtain ⟨gs, pgs, vgs⟩ := hs
  refine ⟨L2.gCons g gs, fun X hX => pgs_cons (pg X hX) (pgs X hX) (ht X hX), fun Lf adr S σ H ρ vs ds ρ' Q I r e w => ?_⟩
  cases r with
  | nil => cases e
  | cons r1 r2 =>
    obtain ⟨ρ1, e1, e2⟩ := Option.bind_eq_some_iff.mp (show (f _ ρ).bind (fun ρ1 => fs _ ρ1) = _ from e)
    refine ⟨_, _, rfl, vg Lf adr S σ H ρ _ _ ρ1 _ I r1 e1 fun σ1 I1 c1 => ?_⟩
    exact vgs Lf adr S σ1 H ρ1 _ _ ρ' _ I1 r2 e2 fun σ2 I2 c2 => w σ2 I2 (c1.trans c2)
theorem dg_tup {is : List Nat} {es : List Expr} {fs : Gsv} {k n : Nat} (h : DGs c is es fs) (hn : ∀ X, InC c X → (assignEach es X.env).length = n) (hst : ∀ X, InC c X → (assignEach es X.env).findIdx? (·.1) = none) (hl : ∀ ds ρ ρ', fs ds ρ = some ρ' → ds.length = n) : DG c is (.Tuple es k pos) (gT fs) := by
  obtain ⟨gs, pgs, vgs⟩ := h
  refine ⟨gTup c.K n gs, fun X hX => by have h := pg_tup (pos := pos) (k := k) hX.calm (pgs X hX) (hn X hX) (hst X hX); rw [hX.K] at h; exact h, fun Lf adr S σ H ρ v d ρ' Q I r e w => ?_⟩
  cases d with
  | tuple ds =>
    have e : fs ds ρ = some ρ' := e
    cases r with
    | tup n h1 h2 =>
      exact ⟨_, _, rfl, .of h1, by rw [h2.length]; exact hl _ _ _ e, vgs Lf adr S σ H ρ _ _ ρ' _ I h2 e w⟩
  | _ => cases e
theorem gs_len0 {ds : List PyData} {ρ ρ' : Env'} (h : gNil ds ρ = some ρ') : ds.length = 0 := by
  cases ds with
  | nil => rfl
  | cons _ _ => cases h
theorem gs_lenS {f : Gv} {fs : Gsv} {n : Nat} (ih : ∀ (ds : List PyData) (ρ ρ' : Env'), fs ds ρ = some ρ' → ds.length = n) (ds : List PyData) (ρ ρ' : Env') (h : gCons f fs ds ρ = some ρ') : ds.length = n + 1 := by
  cases ds with
  | nil => cases h
  | cons d ds =>
    obtain ⟨ρ1, e1, e2⟩ := Option.bind_eq_some_iff.mp (show (f _ ρ).bind (fun ρ1 => fs _ ρ1) = _ from h)
    rw [List.length_cons, ih ds ρ1 ρ' e2]

/-! ### what is walked -/
/-- now it gives the items -/
structure ItNow (H : Hp) (L : AdP) (J : It) (ds : List PyData) : Prop where
  go : ∀ (i : Nat) (d : PyData), ds[i]? = some d → J.go i H
  yld : ∀ (i : Nat) (d : PyData) x H', ds[i]? = some d → J.yld i H x H' → (∀ a o, H a = some o → H' a = some o) ∧ ((∀ a, L a → Nt H a) → At H' L x d)
  stop : J.stop ds.length H
/-- .. while data stands (and what was owned at the start, Lf, stands, where b is false) -/
def ItOk (b : Bool) (Lf : AdP) (H : Hp) (L : AdP) (J : It) (ds : List PyData) : Prop := ∀ H' L', Tr H L H' L' → (b = false → ∀ a o, Lf a → H a = some o → H' a = some o) → ItNow H' L' J ds
/-- b: an iterator that stands whatever happens to what is owned -/
def IvOk (c : Cxt) (b : Bool) (wi : TI) (f : Lsv) : Prop := ∀ Lf adr S σ H ρ ds S' (R : It → Hp → Prop), EOk c Lf adr S σ H ρ → f ρ S = some (ds, S') →
  (∀ J adr' H', Ext adr S H adr' S' H' → StOk c Lf adr' S' H' → ItOk b Lf H' (Lvv Lf adr' S') J ds → ds.length ≤ sizeLine → R J H') → wi σ H R
def DI (c : Cxt) (b : Bool) (tg e : Expr) (f : Lsv) : Prop := ∃ wi, (∀ X, InC c X → PI X tg e wi) ∧ IvOk c b wi f
/-- a list, a tuple -/
def iSeq (K : PySem.W.Frag) (tl : TE) : TI := fun σ H R => tl σ H fun x H1 => ∃ a, x = .ref a ∧ (((∃ xs, SqL K H1 a xs) ∧ R (Itl K a) H1) ∨ ((∃ xs, SqT K H1 a xs) ∧ R (Itt K a) H1))
theorem pi_seq {X : Cx} {tg l : Expr} {tl : TE} (hl : PE X l tl) : PI X tg l (iSeq X.K tl) := by
  refine ⟨fun pins s σ H R I h => ?_⟩
  refine thn (hl.run pins s σ H _ I h) fun v s1 ⟨x, H1, I1, r1, q1⟩ => ?_
  obtain ⟨a, e, ⟨⟨xs, hq⟩, q⟩ | ⟨⟨xs, hq⟩, q⟩⟩ := q1
  · subst e
    cases r1
    obtain ⟨its, rv, p, hz⟩ := I1.list hq
    refine wpAny_pyIter_list p.isList ?_
    refine ⟨s1.heap.objs.size, [s1.heap.objs.size], _, _, H1, rfl, I1.kept (t' := s1.toks) fun b o e => Heap.get?_push_of_some _ e, turn_list a _, ⟨_, Heap.get?_push_size _ rfl, rfl, rfl⟩, fun b hb => ?_, q⟩
    have e : b = s1.heap.objs.size := by simpa using hb
    subst e
    exact I1.fpOk (Nat.le_refl _) (I1.hok.fresh (Nat.le_refl _))
  · subst e
    cases r1
    obtain ⟨its, rv, p, hz⟩ := I1.tuple hq
    refine wpAny_pyIter_tuple (show s1.heap.IsTuple a its.toArray from p) ?_
    refine ⟨s1.heap.objs.size, [s1.heap.objs.size], _, _, H1, rfl, I1.kept (t' := s1.toks) fun b o e => Heap.get?_push_of_some _ e, turn_tuple a _, ⟨_, Heap.get?_push_size _ rfl, rfl, rfl⟩, fun b hb => ?_, q⟩
    have e : b = s1.heap.objs.size := by simpa using hb
    subst e
    exact I1.fpOk (Nat.le_refl _) (I1.hok.fresh (Nat.le_refl _))
/-- data to be walked -/
def iP (fa : Ev) : Lsv := fun ρ S => (fa ρ S).bind fun p => match p.1 with
  | .p (.list ds) => if ds.length ≤ sizeLine then some (ds, p.2) else none
  | .p (.tuple ds) => if ds.length ≤ sizeLine then some (ds, p.2) else none
  | _ => none
theorem now_list {K : PySem.W.Frag} {H' : Hp} {L' : AdP} {a : Addr} {xs : List V} {ds : List PyData} (h : H' a = some (.lst xs)) (r : AtL H' L' xs ds) : ItNow H' L' (Itl K a) ds := by
  refine ⟨fun i d e => ?_, fun i d x H2 e y => ?_, ⟨xs, .of h, by rw [r.length]; exact Nat.le_refl _⟩⟩
  · obtain ⟨v, e1, e2⟩ := r.get e
    exact ⟨xs, v, .of h, e1⟩
  · obtain ⟨rfl, y⟩ := y
    obtain ⟨v, e1, e2⟩ := r.get e
    have q := y xs (.of h)
    rw [e1] at q
    cases q
    exact ⟨fun _ _ z => z, fun _ => e2⟩
theorem now_tup {K : PySem.W.Frag} {H' : Hp} {L' : AdP} {a : Addr} {xs : List V} {ds : List PyData} (h : H' a = some (.tup xs)) (r : AtL H' L' xs ds) : ItNow H' L' (Itt K a) ds := by
  refine ⟨fun i d e => ?_, fun i d x H2 e y => ?_, ⟨xs, .of h, by rw [r.length]; exact Nat.le_refl _⟩⟩
  · obtain ⟨v, e1, e2⟩ := r.get e
    exact ⟨xs, v, .of h, e1⟩
  · obtain ⟨rfl, y⟩ := y
    obtain ⟨v, e1, e2⟩ := r.get e
    have q := y xs (.of h)
    rw [e1] at q
    cases q
    exact ⟨fun _ _ z => z, fun _ => e2⟩
theorem di_p {tg a : Expr} {fa : Ev} (ha : DE c a fa) : DI c true tg a (iP fa) := by
  obtain ⟨ta, pa, va⟩ := ha
  refine ⟨_, fun X hX => by have h := pi_seq (tg := tg) (pa X hX); rw [hX.K] at h; exact h, fun Lf adr S σ H ρ ds S' R I e w => ?_⟩
  unfold iP at e
  simp only [Option.bind_eq_some_iff] at e
  obtain ⟨⟨x, S1⟩, e1, e2⟩ := e
  refine va Lf adr S σ H ρ _ _ _ I e1 fun v adr1 H1 x1 s1 r1 => ?_
  cases x with
  | p d =>
    cases d with
    | list ds =>
      simp only at e2
      split at e2
      · rename_i hz
        cases e2
        have r1 : At H1 _ v (.list ds) := r1
        cases r1 with
        | lst n h1 h2 =>
          refine ⟨_, rfl, .inl ⟨⟨_, .of h1⟩, w _ adr1 H1 x1 s1 (fun H' L' t _ => ?_) hz⟩⟩
          have q := t _ (by rw [h1]; exact fun z => nomatch z) n
          exact now_list (q.1.1 _ h1) (h2.tr t)
      · cases e2
    | tuple ds =>
      simp only at e2
      split at e2
      · rename_i hz
        cases e2
        have r1 : At H1 _ v (.tuple ds) := r1
        cases r1 with
        | tup n h1 h2 =>
          refine ⟨_, rfl, .inr ⟨⟨_, .of h1⟩, w _ adr1 H1 x1 s1 (fun H' L' t _ => ?_) hz⟩⟩
          have q := t _ (by rw [h1]; exact fun z => nomatch z) n
          exact now_tup (q.1.2.1 _ h1) (h2.tr t)
      · cases e2
    | _ => cases e2
  | _ => cases e2
/-- .. or an owned list (where nothing owned changes) -/
def iPO (fa : Ev) : Lsv := fun ρ S => (fa ρ S).bind fun p => match p.1 with
  | .p (.list ds) => if ds.length ≤ sizeLine then some (ds, p.2) else none
  | .p (.tuple ds) => if ds.length ≤ sizeLine then some (ds, p.2) else none
  | .o (.list ds) => if ds.length ≤ sizeLine then some (ds, p.2) else none
  | _ => none
theorem di_po {tg a : Expr} {fa : Ev} (ha : DE c a fa) : DI c false tg a (iPO fa) := by
  obtain ⟨ta, pa, va⟩ := ha
  refine ⟨_, fun X hX => by have h := pi_seq (tg := tg) (pa X hX); rw [hX.K] at h; exact h, fun Lf adr S σ H ρ ds S' R I e w => ?_⟩
  unfold iPO at e
  simp only [Option.bind_eq_some_iff] at e
  obtain ⟨⟨x, S1⟩, e1, e2⟩ := e
  refine va Lf adr S σ H ρ _ _ _ I e1 fun v adr1 H1 x1 s1 r1 => ?_
  cases x with
  | p d =>
    cases d with
    | list ds =>
      simp only at e2
      split at e2
      · rename_i hz
        cases e2
        have r1 : At H1 _ v (.list ds) := r1
        cases r1 with
        | lst n h1 h2 =>
          refine ⟨_, rfl, .inl ⟨⟨_, .of h1⟩, w _ adr1 H1 x1 s1 (fun H' L' t _ => ?_) hz⟩⟩
          have q := t _ (by rw [h1]; exact fun z => nomatch z) n
          exact now_list (q.1.1 _ h1) (h2.tr t)
      · cases e2
    | tuple ds =>
      simp only at e2
      split at e2
      · rename_i hz
        cases e2
        have r1 : At H1 _ v (.tuple ds) := r1
        cases r1 with
        | tup n h1 h2 =>
          refine ⟨_, rfl, .inr ⟨⟨_, .of h1⟩, w _ adr1 H1 x1 s1 (fun H' L' t _ => ?_) hz⟩⟩
          have q := t _ (by rw [h1]; exact fun z => nomatch z) n
          exact now_tup (q.1.2.1 _ h1) (h2.tr t)
      · cases e2
    | _ => cases e2
  | o d =>
    cases d with
    | list ds =>
      simp only at e2
      split at e2
      · rename_i hz
        cases e2
        obtain ⟨a, rfl, l, xs, h1, h2⟩ := r1
        refine ⟨_, rfl, .inl ⟨⟨_, .of h1⟩, w _ adr1 H1 x1 s1 (fun H' L' t k => ?_) hz⟩⟩
        exact now_list (k rfl _ _ l h1) (h2.tr t)
      · cases e2
    | _ => cases e2
  | _ => cases e2
theorem DI.any {b : Bool} {tg a : Expr} {f : Lsv} (h : DI c true tg a f) : DI c b tg a f := by
  obtain ⟨wi, p, v⟩ := h
  exact ⟨wi, p, fun Lf adr S σ H ρ ds S' R I e w => v Lf adr S σ H ρ ds S' R I e fun J adr' H' x s i hz => w J adr' H' x s (fun H2 L2 t _ => i H2 L2 t fun z => nomatch z) hz⟩
/-! range -/
def rngD (lo : Int) (n : Nat) : List PyData := (List.range n).map fun i => .int (lo + (i : Nat))
def iR (fs : Av) : Lsv := fun ρ S => (fs ρ S).bind fun p => match p.1 with
  | [.p (.int j)] => if j ≤ 16777216 ∧ -4611686018427387904 ≤ j then some (rngD 0 j.toNat, p.2) else none
  | [.p (.int i), .p (.int j)] => if -4611686018427387904 ≤ i ∧ i < 4611686018427387904 ∧ -4611686018427387904 ≤ j ∧ j < 4611686018427387904 ∧ (j - i).toNat ≤ 16777216 then some (rngD i (j - i).toNat, p.2) else none
  | _ => none
theorem now_rng {H' : Hp} {L' : AdP} {lo : Int} {n : Nat} : ItNow H' L' (Itr lo n) (rngD lo n) := by
  have hl : (rngD lo n).length = n := by unfold rngD; simp
  refine ⟨fun i d e => ?_, fun i d x H2 e y => ?_, by rw [hl]; exact Nat.le_refl n⟩
  · have := (List.getElem?_eq_some_iff.mp e).1
    rw [hl] at this
    exact this
  · obtain ⟨rfl, rfl⟩ := y
    have hi := (List.getElem?_eq_some_iff.mp e).1
    rw [hl] at hi
    unfold rngD at e
    rw [List.getElem?_map, List.getElem?_range hi] at e
    cases e
    exact ⟨fun _ _ z => z, fun _ => .int _⟩
theorem di_r1 {tg a : Expr} {fa : Ev} {p : Pos} (hg : c.sc.names.lookup ("range" : Str) = some .globalImplicit) (hm : c.mg ("range" : Str) = none) (ha : DA c [a] (aCons fa aNil)) (hst : noStar [a] = true) : DI c true tg (.Call (.Name "range" p) [a] [] pos) (iR (aCons fa aNil)) := by
  obtain ⟨ta, pa, va⟩ := ha
  refine ⟨_, fun X hX => pi_range1 (by show X.env.scope.names.lookup _ = _; rw [hX.sc]; exact hg) (by rw [hX.mg]; exact hm) (pa X hX) (star_cons hst), fun Lf adr S σ H ρ ds S' R I e w => ?_⟩
  unfold iR at e
  simp only [Option.bind_eq_some_iff] at e
  obtain ⟨⟨x, S1⟩, e1, e2⟩ := e
  have hx : ∃ d, x = [d] := by
    unfold aCons aNil at e1
    simp only [Option.bind_eq_some_iff] at e1
    obtain ⟨q, _, q2, h, e⟩ := e1
    cases h
    cases e
    exact ⟨_, rfl⟩
  refine va Lf adr S σ H ρ _ _ _ I e1 fun vs adr1 H1 x1 s1 r1 => ?_
  obtain ⟨d, rfl⟩ := hx
  cases r1 with
  | cons r rr =>
    cases rr
    cases d with
    | p d =>
      cases d with
      | int j =>
        simp only at e2
        split at e2
        · rename_i hz
          cases e2
          have r : At H1 _ _ (.int j) := r
          cases r
          exact ⟨j, rfl, by omega, by omega, w _ adr1 H1 x1 s1 (fun H' L' t _ => now_rng) (by rw [sizeLine_eq]; unfold rngD; simp; omega)⟩
        · cases e2
      | _ => cases e2
    | _ => cases e2
theorem di_r2 {tg a b : Expr} {fa fb : Ev} {p : Pos} (hg : c.sc.names.lookup ("range" : Str) = some .globalImplicit) (hm : c.mg ("range" : Str) = none) (ha : DA c [a, b] (aCons fa (aCons fb aNil))) (hst : noStar [a, b] = true) : DI c true tg (.Call (.Name "range" p) [a, b] [] pos) (iR (aCons fa (aCons fb aNil))) := by
  obtain ⟨ta, pa, va⟩ := ha
  refine ⟨_, fun X hX => pi_range2 (by show X.env.scope.names.lookup _ = _; rw [hX.sc]; exact hg) (by rw [hX.mg]; exact hm) (pa X hX) (by rw [star_cons hst, star_cons (star_tl hst)]; rfl) (by rw [star_cons (star_tl hst)]; rfl), fun Lf adr S σ H ρ ds S' R I e w => ?_⟩
  unfold iR at e
  simp only [Option.bind_eq_some_iff] at e
  obtain ⟨⟨x, S1⟩, e1, e2⟩ := e
  have hx : ∃ d d', x = [d, d'] := by
    unfold aCons aNil at e1
    simp only [Option.bind_eq_some_iff] at e1
    obtain ⟨q, _, q2, ⟨q3, _, q4, h, e⟩, e'⟩ := e1
    cases h
    cases e
    cases e'
    exact ⟨_, _, rfl⟩
  refine va Lf adr S σ H ρ _ _ _ I e1 fun vs adr1 H1 x1 s1 r1 => ?_
  obtain ⟨d, d', rfl⟩ := hx
  cases r1 with
  | cons r rr =>
    cases rr with
    | cons r' rr =>
      cases rr
      cases d with
      | p d =>
        cases d with
        | int i =>
          cases d' with
          | p d' =>
            cases d' with
            | int j =>
              simp only at e2
              split at e2
              · rename_i hz
                cases e2
                have r : At H1 _ _ (.int i) := r
                have r' : At H1 _ _ (.int j) := r'
                cases r
                cases r'
                exact ⟨i, j, rfl, by omega, w _ adr1 H1 x1 s1 (fun H' L' t _ => now_rng) (by rw [sizeLine_eq]; unfold rngD; simp; omega)⟩
              · cases e2
            | _ => cases e2
          | _ => cases e2
        | _ => cases e2
      | _ => cases e2
end
end DL
namespace DL
open PySem PySem.Spec L2
open PyProof.Rows hiding St
/-! ### comprehensions -/
/-- the block's context -/
def Cxt.blk (c : Cxt) (scope : Scope) : Cxt := { c with sc := relS scope c.sc, fn := fun x => scope.names.lookup x == some .cell }
theorem InC.blk {c : Cxt} {X : Cx} (h : InC c X) (s : Shared) (H : Hp) (scope : Scope) (C : Addr) (cl : List (Str × Addr)) (fp : List Addr) : InC (c.blk scope) (X.blk s H scope (compEnvC scope cl C X.env) fp) where
  prog := h.prog
  w := h.w
  K := h.K
  mg := h.mg
  base := h.base
  N := h.N
  sc := by
    show relabel scope X.env = relS scope c.sc
    rw [← h.sc]
    rfl
  fn := rfl
  calm := h.calm
  room := h.room
  xe := rfl
def DTs (c : Cxt) (es : List Expr) (f : Tv) : Prop := ∃ t, (∀ X, InC c X → PTs X es t) ∧ TvOk c t f
def tYes : Tv := fun _ S => some (true, S)
section
variable {c : Cxt} {Lf : AdP} {adr : Nat → Addr} {S : Sto} {H : Hp} {σ : L2.St} {ρ : Env'} {pos : Pos}
theorem dts_nil : DTs c [] tYes := ⟨_, fun X _ => pts_nil, fun Lf adr S σ H ρ b S' Q I e w => by cases e; exact w adr H .refl I.sto⟩
theorem dts_one {e : Expr} {f : Tv} (h : DT c e f) : DTs c [e] f := let ⟨t, p, v⟩ := h; ⟨t, fun X hX => pts_one (p X hX), v⟩
/-- the slots is forgotten -/
def wipeE (ρ : Env') : List Nat → Env'
  | [] => ρ
  | i :: is => (wipeE ρ is).set i none
theorem wipeE_len (ρ : Env') : ∀ is, (wipeE ρ is).length = ρ.length
  | [] => rfl
  | i :: is => by rw [wipeE, List.length_set, wipeE_len ρ is]
theorem wipeE_get {ρ : Env'} {i : Nat} {d : D} : ∀ {is : List Nat}, (wipeE ρ is)[i]? = some (some d) → ρ[i]? = some (some d) ∧ i ∉ is
  | [], h => ⟨h, by simp⟩
  | j :: is, h => by
    rw [wipeE] at h
    by_cases hj : j = i
    · subst hj
      by_cases hl : j < (wipeE ρ is).length
      · rw [List.getElem?_set_self hl] at h; cases h
      · rw [List.getElem?_eq_none (by simpa using hl)] at h; cases h
    · rw [List.getElem?_set_ne hj] at h
      obtain ⟨h1, h2⟩ := wipeE_get h
      exact ⟨h1, by simp only [List.mem_cons, not_or]; exact ⟨fun e => hj e.symm, h2⟩⟩
theorem wipe_get {σ : L2.St} {i : Nat} : ∀ {is : List Nat}, i ∉ is → (wipe σ is)[i]? = σ[i]?
  | [], _ => rfl
  | j :: is, h => by
    simp only [List.mem_cons, not_or] at h
    unfold wipe
    rw [List.getElem?_set_ne (Ne.symm h.1), wipe_get h.2]
theorem EOk.wipe (I : EOk c Lf adr S σ H ρ) (is : List Nat) : EOk c Lf adr S (wipe σ is) H (wipeE ρ is) := by
  refine ⟨fun i d e => ?_, I.sto, by rw [wipe_length, wipeE_len, I.len]⟩
  obtain ⟨h1, h2⟩ := wipeE_get e
  rw [wipe_get h2]
  exact I.slot i d h1
/-- states that agree off is are wiped to one -/
theorem wipe_eq {σ σ' : L2.St} {is : List Nat} (hl : σ'.length = σ.length) (h : ∀ (i : Nat), i ∉ is → σ'[i]? = σ[i]?) : wipe σ' is = wipe σ is := by
  have at_ : ∀ (σ : L2.St) (k : Nat), (wipe σ is)[k]? = if k ∈ is then (if k < σ.length then some none else none) else σ[k]? := by
    intro σ k
    clear h hl
    induction is with
    | nil => rfl
    | cons j is ih =>
      unfold L2.wipe
      by_cases hj : j = k
      · subst hj
        rw [List.getElem?_set, if_pos rfl, if_pos (List.mem_cons_self)]
        rw [wipe_length]
      · rw [List.getElem?_set_ne hj, ih]
        have : (k ∈ j :: is) = (k ∈ is) := by
          rw [List.mem_cons]
          exact propext ⟨fun z => z.elim (fun e => absurd e.symm hj) id, .inr⟩
        simp only [this]
  apply List.ext_getElem?
  intro k
  rw [at_, at_]
  split
  · rw [hl]
  · rename_i hk
    exact h k hk
/-- item by item -/
def compL (g : Gv) (t : Tv) (f : Ev) (ρ : Env') : List PyData → Sto → Option (List PyData × Sto)
  | [], S => some ([], S)
  | d :: ds, S => (g d ρ).bind fun ρ1 => (t ρ1 S).bind fun b =>
    if b.1 = true then (f ρ1 b.2).bind fun r => match r.1 with
      | .p x => (compL g t f ρ ds r.2).bind fun q => some (x :: q.1, q.2)
      | _ => none
    else compL g t f ρ ds b.2
def lComp (is : List Nat) (it : Lsv) (g : Gv) (t : Tv) (f : Ev) : Lsv := fun ρ S => (it ρ S).bind fun p => compL g t f (wipeE ρ is) p.1 p.2

theorem StOk.cx {c' : Cxt} (hK : c'.K = c.K) (hm : c'.mg = c.mg) (s : StOk c Lf adr S H) : StOk c' Lf adr S H := by
  refine ⟨s.inj, fun k mo e => ?_, s.disj, s.lfo⟩
  have h := s.ob k mo e
  cases mo with
  | d m => exact h
  | ls ds => exact h
  | dc kvs => exact h
  | ins x fs =>
    obtain ⟨C', dx, gs, h1, r⟩ := h
    exact ⟨C', dx, gs, by rw [hm]; exact h1, r⟩
theorem EOk.cx {c' : Cxt} (hK : c'.K = c.K) (hm : c'.mg = c.mg) (I : EOk c Lf adr S σ H ρ) : EOk c' Lf adr S σ H ρ := ⟨fun i d e => by rw [hK]; exact I.slot i d e, I.sto.cx hK hm, I.len⟩
variable {g : Gv} {t : Tv} {f : Ev} {it : Lsv}
theorem lv_comp_at {is vs : List Nat} {wi : TI} {gg : TG} {tt : TT} {te : TE} {scope : Scope} {items ds : List PyData} {S1 S' : Sto} {Q : VK} (I : EOk c Lf adr S σ H ρ)
    (hv : ∀ R : It → Hp → Prop, (∀ J adr' H', Ext adr S H adr' S1 H' → StOk c Lf adr' S1 H' → ItOk false Lf H' (Lvv Lf adr' S1) J items → items.length ≤ sizeLine → R J H') → wi σ H R)
    (vg : GvOk (c.blk scope) is gg g) (vt : TvOk (c.blk scope) tt t) (ve : EvOk (c.blk scope) te f) (his : ∀ i ∈ is, i ∈ vs) (e2 : compL g t f (wipeE ρ vs) items S1 = some (ds, S')) (w : WiL c Lf adr S H Q ds S') : tLc wi gg tt te vs σ H Q := by
  refine hv _ fun J adr1 H1 x1 s1 J1 hz D hD => ?_
  have hHD : H D = none := by
    cases q : H D with
    | none => rfl
    | some o => exact absurd hD (x1.trk D (by rw [q]; exact fun z => nomatch z))
  -- the owned, and the new list
  have hl1 : ∀ a, (Lf a ∨ a = D) → Lf a ∨ H1 a = none := fun a z => z.imp id fun q => by rw [q]; exact hD
  have hl0 : ∀ a, (Lf a ∨ a = D) → Lf a ∨ H a = none := fun a z => z.imp id fun q => by rw [q]; exact hHD
  have nLD : ¬ Lf D := fun z => I.sto.lf D z hHD
  refine ⟨fun i m Hc => m = items.length - i ∧ i ≤ items.length ∧ ∃ adrc Sc accV accD rest, Ext adr1 S1 H1 adrc Sc Hc ∧ StOk c (fun a => Lf a ∨ a = D) adrc Sc Hc ∧ Hc D = some (.lst accV) ∧
    AtL Hc (Lvv (fun a => Lf a ∨ a = D) adrc Sc) accV accD ∧ compL g t f (wipeE ρ vs) (items.drop i) Sc = some (rest, S') ∧ accD ++ rest = ds ∧ accD.length ≤ i, ⟨items.length, by simp, Nat.zero_le _, adr1, S1, [], [], ds, ?_⟩, fun i m Hc hW => ?_⟩
  · refine ⟨.grow (upd_grow hD), s1.grow (upd_grow hD) fun z hz => ?_, upd_same, .nil, e2, rfl, Nat.le_refl _⟩
    refine ⟨hl1 z hz, ?_⟩
    rcases hz with hz | rfl
    · exact (s1.lfo z hz).keep (upd_grow hD z)
    · exact ⟨_, upd_same, fun _ z => nomatch z⟩
  · obtain ⟨rfl, hi, adrc, Sc, accV, accD, rest, xc, sc, hDc, rc, ec, ed, hlen⟩ := hW
    have now := J1 Hc (Lvv (fun a => Lf a ∨ a = D) adrc Sc) (xc.tr hl1) fun _ a o l q => xc.keep a o q fun z => s1.disj a z l
    by_cases hlt : i < items.length
    · have hdr : items.drop i = items[i] :: items.drop (i + 1) := List.drop_eq_getElem_cons hlt
      have hget : items[i]? = some items[i] := List.getElem?_eq_getElem hlt
      rw [hdr] at ec
      simp only [compL, Option.bind_eq_some_iff] at ec
      obtain ⟨ρ1, eg, ⟨b, S5⟩, et, er⟩ := ec
      refine .inr ⟨now.go i _ hget, fun Hn => ∃ adrc Sc accV accD rest, Ext adr1 S1 H1 adrc Sc Hn ∧ StOk c (fun a => Lf a ∨ a = D) adrc Sc Hn ∧ Hn D = some (.lst accV) ∧
        AtL Hn (Lvv (fun a => Lf a ∨ a = D) adrc Sc) accV accD ∧ compL g t f (wipeE ρ vs) (items.drop (i + 1)) Sc = some (rest, S') ∧ accD ++ rest = ds ∧ accD.length ≤ i + 1, fun Hn hn => ⟨items.length - (i + 1), by omega, rfl, hlt, hn⟩, fun x H' hy => ?_⟩
      obtain ⟨kH', aH'⟩ := now.yld i _ x H' hget hy
      have a3 := aH' fun a z => sc.lvo z
      have s3 := grow_ok sc kH'
      have x3 : Ext adr1 S1 H1 adrc Sc H' := xc.trans (.grow kH')
      have I3 : EOk (c.blk scope) (fun a => Lf a ∨ a = D) adrc Sc (wipe σ vs) H' (wipeE ρ vs) := EOk.cx (c := c) rfl rfl ((I.ext' (x1.trans x3) s3 hl0 fun a z => .inl z).wipe vs)
      refine vg _ adrc Sc (wipe σ vs) H' (wipeE ρ vs) x items[i] ρ1 _ I3 a3 eg fun σ2 I4 ch => ⟨?_, ?_⟩
      · have : wipe σ2 vs = wipe (wipe σ vs) vs := wipe_eq ch.lenσ fun j hj => ch.eσ j fun z => hj (his j z)
        rw [this]
        exact wipe_eq (wipe_length _ _) fun j hj => wipe_get hj
      refine vt _ adrc Sc σ2 H' ρ1 b S5 _ I4 et fun adr5 H5 x5 s5 => ?_
      have keepD : ∀ {o : HO}, H' D = some o → H5 D = some o := fun {o} q => x5.keep D o q fun z => s3.disj D z (.inr rfl)
      have hD' : H' D = some (.lst accV) := kH' D _ hDc
      cases b with
      | false =>
        refine iteF ⟨adr5, S5, accV, accD, rest, x3.trans x5, StOk.cx (c := c.blk scope) rfl rfl s5, keepD hD', (rc.grow kH').tr (x5.tr fun a z => .inl z), er, ed, Nat.le_succ_of_le hlen⟩
      | true =>
        simp only [if_pos, Option.bind_eq_some_iff] at er
        obtain ⟨⟨r, S6⟩, er1, er2⟩ := er
        refine iteT (ve _ adr5 S5 σ2 H5 ρ1 r S6 _ (I4.ext x5 s5) er1 fun y adr6 H6 x6 s6 r6 => ?_)
        cases r with
        | p xd =>
          simp only [Option.bind_eq_some_iff] at er2
          obtain ⟨⟨q, S7⟩, eq1, eq2⟩ := er2
          cases eq2
          have hD6 : H6 D = some (.lst accV) := x6.keep D _ (keepD hD') fun z => s5.disj D z (.inr rfl)
          have r6 : At H6 (Lvv (fun a => Lf a ∨ a = D) adr6 S6) y xd := r6
          have rc6 : AtL H6 (Lvv (fun a => Lf a ∨ a = D) adr6 S6) accV accD := (rc.grow kH').tr ((x5.trans x6).tr fun a z => .inl z)
          have tr7 : Tr H6 (Lvv (fun a => Lf a ∨ a = D) adr6 S6) (upd H6 D (.lst (accV ++ [y]))) (Lvv (fun a => Lf a ∨ a = D) adr6 S6) := fun a h n => ⟨.of fun u q => by rw [upd_ne (fun z => n (.inl (.inr z)))]; exact q, n⟩
          have x7 : Ext adr1 S1 H1 adr6 S6 H6 := x3.trans (x5.trans x6)
          refine ⟨accV, hD6, by rw [rc.length]; omega, adr6, S6, accV ++ [y], accD ++ [xd], q, ⟨x7.len, x7.ad, fun a o q n => ?_, fun a h => ?_, x7.live⟩, StOk.cx (c := c.blk scope) rfl rfl (s6.updO (.inr rfl)), upd_same, (rc6.append (.cons r6 .nil)).tr tr7, eq1, by simpa using ed, by simp; omega⟩
          · rw [upd_ne (ne_of_none q hD)]
            exact x7.keep a o q n
          · by_cases hh : a = D
            · rw [hh, upd_same]; exact fun z => nomatch z
            · rw [upd_ne hh]; exact x7.trk a h
        | _ => cases er2
    · have hi' : i = items.length := by omega
      subst hi'
      rw [List.drop_length] at ec
      simp only [compL, Option.some.injEq, Prod.mk.injEq] at ec
      obtain ⟨rfl, rfl⟩ := ec
      rw [List.append_nil] at ed
      subst ed
      exact .inl ⟨now.stop, w D accV adrc Hc (x1.trans xc) sc hHD hDc rc⟩
theorem lv_comp {is vs : List Nat} {wi : TI} {gg : TG} {tt : TT} {te : TE} {scope : Scope} (vi : IvOk c false wi it) (vg : GvOk (c.blk scope) is gg g) (vt : TvOk (c.blk scope) tt t) (ve : EvOk (c.blk scope) te f) (his : ∀ i ∈ is, i ∈ vs) : LvOk c (tLc wi gg tt te vs) (lComp vs it g t f) := fun Lf adr S σ H ρ ds S' Q I e w => by
  unfold lComp at e
  simp only [Option.bind_eq_some_iff] at e
  obtain ⟨⟨items, S1⟩, e1, e2⟩ := e
  exact lv_comp_at I (fun R hR => vi Lf adr S σ H ρ items S1 R I e1 hR) vg vt ve his e2 w
theorem dl_comp {is : List Nat} {tg iter elt : Expr} {ifs : List Expr} {scope : Scope} {own : List (Str × Nat)} (hN : c.N.Nodup) (hi : DI c false tg iter it) (ok : BlkOk c.N c.sc scope own) (hg : DG (c.blk scope) is tg g) (ht : DTs (c.blk scope) ifs t) (he : DE (c.blk scope) elt f)
    (his : ∀ i ∈ is, i ∈ own.map (·.2)) (hs : ∀ X, InC c X → ∀ x, foldedSetIterable iter X.env x = pure x) : DLs c (.ListComp elt [⟨tg, iter, ifs, 0⟩] scope pos) (lComp (own.map (·.2)) it g t f) := by
  obtain ⟨wi, pi, vi⟩ := hi
  obtain ⟨gg, pg, vg⟩ := hg
  obtain ⟨tt, pt, vt⟩ := ht
  obtain ⟨te, pe, ve⟩ := he
  exact ⟨_, fun X hX => pe_lc hX.calm (by rw [hX.N]; exact hN) (pi X hX) (by rw [hX.N, hX.sc]; exact ok) (fun s H C cl fp => pg _ (hX.blk s H scope C cl fp)) (fun s H C cl fp => pt _ (hX.blk s H scope C cl fp)) (fun s H C cl fp => pe _ (hX.blk s H scope C cl fp)) (hs X hX), lv_comp vi vg vt ve his⟩
end
end DL
namespace DL
open PySem PySem.Spec L2
open PyProof.Rows hiding St
/-! ### statements -/
/-- the entry of a def -/
structure En where
  Lf : AdP
  adr : Nat → Addr
  S : Sto
  H : Hp
  bH : Hp
  bL : AdP
def ownA (σ : L2.St) (ρ : Env') : AdP := fun a => ∃ (i : Nat) (m : PyData), ρ[i]? = some (some (D.o m)) ∧ σ[i]? = some (some (V.ref a))
abbrev LfN (e : En) (σ : L2.St) (ρ : Env') : AdP := fun a => e.Lf a ∨ ownA σ ρ a
/-- read only, an object of the module -/
def FrW (c : Cxt) (e : En) (a : Addr) : PyData → Prop
  | .list ds => ∃ xs, WrL c.K a xs ∧ AtL e.H (Lvv e.Lf e.adr e.S) xs ds
  | _ => False
structure Ok (c : Cxt) (e : En) (adr : Nat → Addr) (S : Sto) (σ : L2.St) (H : Hp) (ρ : Env') : Prop where
  eok : EOk c (LfN e σ ρ) adr S σ H ρ
  ext : Ext e.adr e.S e.H adr S H
  fresh : ∀ a, ownA σ ρ a → e.H a = none
  inj : ∀ (i j : Nat) (m m' : PyData) (a : Addr), ρ[i]? = some (some (D.o m)) → ρ[j]? = some (some (D.o m')) → σ[i]? = some (some (V.ref a)) → σ[j]? = some (some (V.ref a)) → i = j
  frz : ∀ (i : Nat) (m : PyData) (a : Addr), ρ[i]? = some (some (D.f m)) → σ[i]? = some (some (V.ref a)) → e.H a ≠ none ∨ FrW c e a m
  lf0 : ∀ a, e.Lf a → e.H a ≠ none
  base : Tr e.bH e.bL H (Lvv (LfN e σ ρ) adr S)
inductive Out where
  | nx (ρ : Env') (S : Sto) | rt (d : D) (S : Sto) | bk (ρ : Env') (S : Sto) | ct (ρ : Env') (S : Sto)
abbrev Sv := Env' → Sto → Option Out
def OutOk (c : Cxt) (e : En) (D : Ends) : Out → Prop
  | .nx ρ S => ∀ adr σ H, Ok c e adr S σ H ρ → D.nx σ H
  | .bk ρ S => ∀ adr σ H, Ok c e adr S σ H ρ → D.bk σ H
  | .ct ρ S => ∀ adr σ H, Ok c e adr S σ H ρ → D.ct σ H
  | .rt d S => ∀ v adr H, Ext e.adr e.S e.H adr S H → StOk c e.Lf adr S H → Tr e.bH e.bL H (Lvv e.Lf adr S) → DR c.K H (Lvv e.Lf adr S) e.Lf (LvC adr S) adr S.length v d → D.rt v H
def SvOk (c : Cxt) (t : TS) (f : Sv) : Prop := ∀ e adr S σ H ρ o (D : Ends), Ok c e adr S σ H ρ → f ρ S = some o → OutOk c e D o → t D σ H
def DS (c : Cxt) (st : Stmt) (f : Sv) : Prop := ∃ t, (∀ X, InC c X → PS X st t) ∧ SvOk c t f
def DSs (c : Cxt) (st : List Stmt) (f : Sv) : Prop := ∃ t, (∀ X, InC c X → PSs X st t) ∧ SvOk c t f
section
variable {c : Cxt} {e : En} {Lf : AdP} {adr : Nat → Addr} {S : Sto} {H : Hp} {σ : L2.St} {ρ : Env'} {pos : Pos}
theorem Ok.extE {adr' : Nat → Addr} {S' : Sto} {H' : Hp} (I : Ok c e adr S σ H ρ) (x : Ext adr S H adr' S' H') (s : StOk c (LfN e σ ρ) adr' S' H') : Ok c e adr' S' σ H' ρ :=
  ⟨I.eok.ext x s, I.ext.trans x, I.fresh, I.inj, I.frz, I.lf0, I.base.trans (x.tr fun _ z => .inl z)⟩
theorem EOk.reown {Lf' : AdP} (I : EOk c Lf adr S σ H ρ) (h : ∀ a, Lf' a → Lf a) (ho : ∀ (i : Nat) (m : PyData) (a : Addr), ρ[i]? = some (some (D.o m)) → σ[i]? = some (some (V.ref a)) → Lf' a) : EOk c Lf' adr S σ H ρ := by
  have t : Tr H (Lvv Lf adr S) H (Lvv Lf' adr S) := fun a _ n => ⟨.of fun _ q => q, fun z => n (z.imp (h a) id)⟩
  refine ⟨fun i d q => ?_, I.sto.weak h, I.len⟩
  obtain ⟨v, h1, h2⟩ := I.slot i d q
  refine ⟨v, h1, ?_⟩
  cases d with
  | p d => exact At.tr t d h2
  | c k => exact h2
  | o m =>
    obtain ⟨a, rfl, _, hb⟩ := h2
    exact ⟨a, rfl, ho i m a q h1, hb.tr t fun _ q => q⟩
  | f m =>
    obtain ⟨a, e, hb⟩ := h2
    exact ⟨a, e, hb.ext (adr := adr) (adr' := adr) (S := S) (S' := S) .refl fun a z => .inl (h a z)⟩
theorem tr_less {L L' : AdP} (h : ∀ a, L' a → L a) : Tr H L H L' := fun a _ n => ⟨.of fun _ q => q, fun z => n (h a z)⟩
/-- the slots change, nothing new is owned -/
theorem Ok.chg {is : List Nat} {σ' : L2.St} {ρ' : Env'} (I : Ok c e adr S σ H ρ) (I' : EOk c (LfN e σ ρ) adr S σ' H ρ') (ch : Chg is σ σ' ρ ρ') (nf : ∀ (i : Nat) (m : PyData), ρ'[i]? = some (some (D.f m)) → ρ[i]? = some (some (D.f m)) ∧ σ'[i]? = σ[i]?) : Ok c e adr S σ' H ρ' := by
  have own : ∀ a, ownA σ' ρ' a → ownA σ ρ a := fun a ⟨i, m, h1, h2⟩ => by
    obtain ⟨q1, q2⟩ := ch.no i m h1
    exact ⟨i, m, q1, by rw [← q2]; exact h2⟩
  refine ⟨I'.reown (fun a z => z.imp id (own a)) fun i m a h1 h2 => .inr ⟨i, m, h1, h2⟩, I.ext, fun a z => I.fresh a (own a z), fun i j m m' a h1 h2 h3 h4 => ?_, fun i m a h1 h2 => ?_, I.lf0, I.base.trans (tr_less fun a z => z.imp (fun z => z.imp id (own a)) id)⟩
  · obtain ⟨q1, q2⟩ := ch.no i m h1
    obtain ⟨q3, q4⟩ := ch.no j m' h2
    exact I.inj i j m m' a q1 q3 (by rw [← q2]; exact h3) (by rw [← q4]; exact h4)
  · obtain ⟨q1, q2⟩ := nf i m h1
    exact I.frz i m a q1 (by rw [← q2]; exact h2)
theorem chg_nf {i : Nat} {v : V} {d : D} (hd : ∀ m, d ≠ .f m) (hl : i < ρ.length) (j : Nat) (m : PyData) (e : (ρ.set i (some d))[j]? = some (some (D.f m))) : ρ[j]? = some (some (D.f m)) ∧ (σ.set i (some v))[j]? = σ[j]? := by
  by_cases hj : j = i
  · subst hj
    rw [List.getElem?_set_self hl] at e
    cases e
    exact absurd rfl (hd m)
  · rw [List.getElem?_set_ne (Ne.symm hj)] at e
    exact ⟨e, List.getElem?_set_ne (Ne.symm hj)⟩
theorem Ok.set {v : V} {d : D} (I : Ok c e adr S σ H ρ) (i : Nat) (hl : i < ρ.length) (h : DR c.K H (Lvv (LfN e σ ρ) adr S) (LfN e σ ρ) (LvC adr S) adr S.length v d) (h1 : ∀ m, d ≠ .o m) (h2 : ∀ m, d ≠ .f m) : Ok c e adr S (σ.set i (some v)) H (ρ.set i (some d)) :=
  I.chg (I.eok.set i h) (chg_set h1 hl) (chg_nf h2 hl)

/-! ### blocks -/
variable {st : Stmt} {rest : List Stmt} {f g : Sv}
/-- the state as a base -/
def En.at (e : En) (H : Hp) (L : AdP) : En := { e with bH := H, bL := L }
theorem Ok.into (I : Ok c e adr S σ H ρ) : Ok c (e.at H (Lvv (LfN e σ ρ) adr S)) adr S σ H ρ := ⟨I.eok, I.ext, I.fresh, I.inj, I.frz, I.lf0, .refl⟩
theorem Ok.back {H1 : Hp} {L1 : AdP} (I : Ok c (e.at H1 L1) adr S σ H ρ) (t : Tr e.bH e.bL H1 L1) : Ok c e adr S σ H ρ := ⟨I.eok, I.ext, I.fresh, I.inj, I.frz, I.lf0, t.trans I.base⟩
theorem OutOk.back {D : Ends} {H1 : Hp} {L1 : AdP} (t : Tr e.bH e.bL H1 L1) {o : Out} (w : OutOk c e D o) : OutOk c (e.at H1 L1) D o := by
  cases o with
  | nx ρ S => exact fun adr σ H I => w adr σ H (I.back t)
  | bk ρ S => exact fun adr σ H I => w adr σ H (I.back t)
  | ct ρ S => exact fun adr σ H I => w adr σ H (I.back t)
  | rt d S => exact fun v adr H x s b r => w v adr H x s (t.trans b) r
def sNx : Sv := fun ρ S => some (.nx ρ S)
def sSeq (f g : Sv) : Sv := fun ρ S => (f ρ S).bind fun o => match o with | .nx ρ' S' => g ρ' S' | o => some o
theorem dss_nil : DSs c [] sNx := ⟨_, fun X _ => pss_nil, fun e adr S σ H ρ o D I h w => by cases h; exact w adr σ H I⟩
theorem dss_cons (h1 : DS c st f) (h2 : DSs c rest g) : DSs c (st :: rest) (sSeq f g) := by
  obtain ⟨t, p, v⟩ := h1
  obtain ⟨u, q, w⟩ := h2
  refine ⟨_, fun X hX => pss_cons (p X hX) (q X hX), fun e adr S σ H ρ o D I h z => ?_⟩
  unfold sSeq at h
  obtain ⟨o1, e1, e2⟩ := Option.bind_eq_some_iff.mp h
  refine v e adr S σ H ρ o1 _ I e1 ?_
  cases o1 with
  | nx ρ' S' => exact fun adr' σ' H' I' => w e adr' S' σ' H' ρ' o D I' e2 z
  | rt d S' => cases e2; exact z
  | bk ρ' S' => cases e2; exact z
  | ct ρ' S' => cases e2; exact z
theorem dss_one (h1 : DS c st f) : DSs c [st] f := let ⟨t, p, v⟩ := h1; ⟨t, fun X hX => pss_one (p X hX), v⟩
theorem ds_pass : DS c (.Pass pos) sNx := ⟨_, fun X _ => ps_pass, fun e adr S σ H ρ o D I h w => by cases h; exact w adr σ H I⟩
def sBk : Sv := fun ρ S => some (.bk ρ S)
def sCt : Sv := fun ρ S => some (.ct ρ S)
theorem ds_break : DS c (.Break pos) sBk := ⟨_, fun X _ => ps_break, fun e adr S σ H ρ o D I h w => by cases h; exact w adr σ H I⟩
theorem ds_continue : DS c (.Continue pos) sCt := ⟨_, fun X _ => ps_continue, fun e adr S σ H ρ o D I h w => by cases h; exact w adr σ H I⟩
/-- return e -/
def sRet (fa : Ev) : Sv := fun ρ S => (fa ρ S).bind fun p => match p.1 with
  | .o _ => none
  | .f _ => none
  | d => some (.rt d p.2)
theorem StOk.ret (s : StOk c (LfN e σ ρ) adr S H) : StOk c e.Lf adr S H := s.weak fun a z => .inl z
theorem lvv_ret : ∀ a, Lvv e.Lf adr S a → Lvv (LfN e σ ρ) adr S a := fun a z => z.imp .inl id
theorem tr_ret : Tr H (Lvv (LfN e σ ρ) adr S) H (Lvv e.Lf adr S) := fun a _ n => ⟨.of fun _ q => q, fun z => n (lvv_ret a z)⟩
theorem ds_ret {a : Expr} {fa : Ev} (ha : DE c a fa) : DS c (.Return (some a) pos) (sRet fa) := by
  obtain ⟨ta, pa, va⟩ := ha
  refine ⟨_, fun X hX => ps_ret (pa X hX), fun e adr S σ H ρ o D I h w => ?_⟩
  unfold sRet at h
  obtain ⟨⟨x, S1⟩, e1, e2⟩ := Option.bind_eq_some_iff.mp h
  refine va _ adr S σ H ρ x S1 _ I.eok e1 fun v adr1 H1 x1 s1 r1 => ?_
  have I1 := I.extE x1 s1
  cases x with
  | p d =>
    cases e2
    exact w v adr1 H1 I1.ext s1.ret (I1.base.trans tr_ret) (At.tr tr_ret d r1)
  | c k =>
    cases e2
    exact w v adr1 H1 I1.ext s1.ret (I1.base.trans tr_ret) r1
  | o m => cases e2
  | f m => cases e2
/-- what is owned is data from now on -/
theorem Ok.own_at (I : Ok c e adr S σ H ρ) {i : Nat} {m : PyData} {a : Addr} (h1 : ρ[i]? = some (some (D.o m))) (h2 : σ[i]? = some (some (V.ref a))) : Ob H (Lvv (LfN e σ ρ) adr S) a m := by
  obtain ⟨v, e1, b, e2, _, ob⟩ := I.eok.slot i _ h1
  rw [h2] at e1
  cases e1
  cases e2
  exact ob
theorem Ok.own_not (I : Ok c e adr S σ H ρ) {a : Addr} (h : ownA σ ρ a) : ¬ Lvv e.Lf adr S a := fun z => by
  rcases z with z | z
  · exact I.lf0 a z (I.fresh a h)
  · exact I.eok.sto.disj a z (.inr h)
theorem ob_at {L : AdP} {a : Addr} {m : PyData} (n : ¬ L a) (h : Ob H L a m) : At H L (.ref a) m := by
  cases m with
  | list ds => obtain ⟨xs, h, r⟩ := h; exact .lst n h r
  | dict dd =>
    rcases h with ⟨kvs, h, k, r⟩ | ⟨kvs, h, k, r⟩
    · exact .dK n (.inl h) k r
    · exact .dT n (.inl h) k r
  | none => exact h.elim
  | bool => exact h.elim
  | int => exact h.elim
  | str => exact h.elim
  | tuple => exact h.elim
/-- return x, x owned -/
def sRetV (i : Nat) : Sv := fun ρ S => match ρ[i]? with
  | some (some (.o m)) => some (.rt (.p m) S)
  | some (some (.p d)) => some (.rt (.p d) S)
  | some (some (.c k)) => some (.rt (.c k) S)
  | _ => none
theorem ds_retV {i : Nat} {x : Str} {p : Pos} (hN : c.N[i]? = some x) (hv : Vis c.sc x) (hd : (x == ("__debug__" : Str)) = false) (hcd : (x == ("__classdict__" : Str)) = false) : DS c (.Return (some (.Name x p)) pos) (sRetV i) := by
  refine ⟨_, fun X hX => ps_ret (pe_var (by rw [hX.N]; exact hN) (by rw [hX.sc]; exact hv) hd hcd), fun e adr S σ H ρ o D I h w => ?_⟩
  unfold sRetV at h
  split at h
  · rename_i m hm
    cases h
    obtain ⟨v, e1, a, rfl, _, ob⟩ := I.eok.slot i _ hm
    exact ⟨_, e1, w _ adr H I.ext I.eok.sto.ret (I.base.trans tr_ret) (ob_at (I.own_not ⟨i, m, hm, e1⟩) (ob.tr tr_ret fun _ q => q))⟩
  · rename_i d hm
    cases h
    obtain ⟨v, e1, r⟩ := I.eok.slot i _ hm
    exact ⟨_, e1, w _ adr H I.ext I.eok.sto.ret (I.base.trans tr_ret) (At.tr tr_ret d r)⟩
  · rename_i k hm
    cases h
    obtain ⟨v, e1, r⟩ := I.eok.slot i _ hm
    exact ⟨_, e1, w _ adr H I.ext I.eok.sto.ret (I.base.trans tr_ret) r⟩
  · cases h
def sRetN : Sv := fun _ S => some (.rt (.p .none) S)
theorem ds_retN : DS c (.Return none pos) sRetN := ⟨_, fun X _ => ps_retN, fun e adr S σ H ρ o D I h w => by
  cases h
  exact w .non adr H I.ext I.eok.sto.ret (I.base.trans tr_ret) .non⟩

/-! ### if -/
def sIf (t : Tv) (f g : Sv) : Sv := fun ρ S => (t ρ S).bind fun p => if p.1 = true then f ρ p.2 else g ρ p.2
theorem ds_if {t : Expr} {tt : Tv} {as bs : List Stmt} (ht : DT c t tt) (ha : DSs c as f) (hb : DSs c bs g) : DS c (.If t as bs pos) (sIf tt f g) := by
  obtain ⟨t', pt, vt⟩ := ht
  obtain ⟨ta, pa, va⟩ := ha
  obtain ⟨tb, pb, vb⟩ := hb
  refine ⟨_, fun X hX => ps_if (pt X hX) (pa X hX) (pb X hX), fun e adr S σ H ρ o D I h w => ?_⟩
  unfold sIf at h
  obtain ⟨⟨k, S1⟩, e1, e2⟩ := Option.bind_eq_some_iff.mp h
  refine vt _ adr S σ H ρ k S1 _ I.eok e1 fun adr1 H1 x1 s1 => ?_
  cases k with
  | true => exact iteT (va e adr1 S1 σ H1 ρ o D (I.extE x1 s1) e2 w)
  | false => exact iteF (vb e adr1 S1 σ H1 ρ o D (I.extE x1 s1) e2 w)

/-! ### assignments -/
/-- target = data -/
def sAsg (fa : Ev) (g : Gv) : Sv := fun ρ S => (fa ρ S).bind fun p => match p.1 with | .p d => (g d ρ).bind fun ρ' => some (.nx ρ' p.2) | _ => none
/-- a target's slots hold data -/
def GvNf (g : Gv) : Prop := ∀ d ρ ρ', g d ρ = some ρ' → ∀ (i : Nat) (m : PyData), ρ'[i]? = some (some (D.f m)) → ρ[i]? = some (some (D.f m))
theorem sv_asg {ta : TE} {fa : Ev} {gg : TG} {g : Gv} {is : List Nat} (va : EvOk c ta fa) (vg : GvOk c is gg g)
    (nf : ∀ d ρ ρ', g d ρ = some ρ' → ∀ (i : Nat) (m : PyData), ρ'[i]? = some (some (D.f m)) → i ∉ is) : SvOk c (tAsg ta gg) (sAsg fa g) := fun e adr S σ H ρ o D I h w => by
  unfold sAsg at h
  obtain ⟨⟨x, S1⟩, e1, e2⟩ := Option.bind_eq_some_iff.mp h
  refine va _ adr S σ H ρ x S1 _ I.eok e1 fun v adr1 H1 x1 s1 r1 => ?_
  have I1 := I.extE x1 s1
  cases x with
  | p d =>
    obtain ⟨ρ', e3, e4⟩ := Option.bind_eq_some_iff.mp e2
    cases e4
    refine vg _ adr1 S1 σ H1 ρ v d ρ' _ I1.eok r1 e3 fun σ' I2 ch => ?_
    refine w adr1 σ' H1 (I1.chg I2 ch fun i m q => ?_)
    have hi := nf d ρ ρ' e3 i m q
    exact ⟨by rw [← ch.eρ i hi]; exact q, ch.eσ i hi⟩
  | _ => cases e2
def GNf (is : List Nat) (g : Gv) : Prop := ∀ d ρ ρ', g d ρ = some ρ' → ∀ (i : Nat) (m : PyData), ρ'[i]? = some (some (D.f m)) → i ∉ is
def GsNf (is : List Nat) (g : Gsv) : Prop := ∀ d ρ ρ', g d ρ = some ρ' → ∀ (i : Nat) (m : PyData), ρ'[i]? = some (some (D.f m)) → i ∉ is
theorem gnf_name (i : Nat) : GNf [i] (gN i) := fun d ρ ρ' h j m e z => by
  have hj : j = i := by simpa using z
  subst hj
  unfold gN at h
  split at h
  · rename_i hl
    cases h
    rw [List.getElem?_set_self hl] at e
    cases e
  · cases h
theorem ds_asg {tg a : Expr} {fa : Ev} {g : Gv} {is : List Nat} (ha : DE c a fa) (hg : DG c is tg g) (nf : GNf is g) (hs : ∀ X, InC c X → swapsWithSole [tg] a pos.line X.env = pure false) (hw : ∀ X, InC c X → swappedStores [tg] a X.env = pure none)
    (h1 : ∀ X, InC c X → (assignEach [tg] X.env).map (·.2) = [assign tg X.env]) : DS c (.Assign [tg] a pos) (sAsg fa g) := by
  obtain ⟨ta, pa, va⟩ := ha
  obtain ⟨gg, pg, vg⟩ := hg
  exact ⟨_, fun X hX => ps_asg (pa X hX) (pg X hX) (hs X hX) (hw X hX) (h1 X hX), sv_asg va vg nf⟩
/-- x = e -/
theorem ds_set {i : Nat} {x : Str} {a : Expr} {fa : Ev} {p : Pos} (hN : c.N.Nodup) (hi : c.N[i]? = some x) (hx : Loc c.sc x) (hf : c.fn x = true ∨ c.sc.names.lookup x = some .local) (ha : DE c a fa) (hs : ∀ X, InC c X → swapsWith a (some (.Name x p)) pos.line X.env = pure false) :
    DS c (.Assign [.Name x p] a pos) (sAsg fa (gN i)) := by
  obtain ⟨ta, pa, va⟩ := ha
  obtain ⟨gg, pg, vg⟩ := dg_name (pos := p) hN hi hx hf
  refine ⟨tAsg ta (gName i), fun X hX => ps_set (by rw [hX.N]; exact hN) (by rw [hX.N]; exact hi) (by rw [hX.sc]; exact hx) (pa X hX) (hs X hX) (by rw [hX.fn, hX.sc]; exact hf), sv_asg va (fun Lf adr S σ H ρ v d ρ' Q I r e w => ?_) (gnf_name i)⟩
  unfold gN at e
  split at e
  · rename_i hl
    cases e
    exact w _ (I.set i (d := .p d) r) (chg_set (fun m z => nomatch z) hl)
  · cases e
theorem gv_name {i : Nat} : GvOk c [i] (gName i) (gN i) := fun Lf adr S σ H ρ v d ρ' Q I r e w => by
  unfold gN at e
  split at e
  · rename_i hl
    cases e
    exact w _ (I.set i (d := .p d) r) (chg_set (fun m z => nomatch z) hl)
  · cases e
/-- x = a fresh list, owned from now on -/
def sOwn (i : Nat) (fl : Lsv) : Sv := fun ρ S => (fl ρ S).bind fun p => if i < ρ.length then some (.nx (ρ.set i (some (.o (.list p.1)))) p.2) else none
/-- a new object is owned -/
theorem Ok.own {H' : Hp} {adr' : Nat → Addr} {S' : Sto} {i : Nat} {p : Addr} {m : PyData} (I : Ok c e adr S σ H ρ) (x : Ext adr S H adr' S' H') (s : StOk c (fun a => LfN e σ ρ a ∨ a = p) adr' S' H') (hp : H p = none) (ob : Ob H' (Lvv (fun a => LfN e σ ρ a ∨ a = p) adr' S') p m) (hl : i < ρ.length) :
    Ok c e adr' S' (σ.set i (some (.ref p))) H' (ρ.set i (some (.o m))) := by
  have hl0 : ∀ a, (LfN e σ ρ a ∨ a = p) → LfN e σ ρ a ∨ H a = none := fun a z => z.imp id fun q => by rw [q]; exact hp
  have hσ : i < σ.length := by rw [I.eok.len]; exact hl
  have I1 := (I.eok.ext' x s hl0 fun a z => .inl z).set i (v := .ref p) (d := .o m) ⟨p, rfl, .inr rfl, ob⟩
  have own : ∀ a, ownA (σ.set i (some (.ref p))) (ρ.set i (some (.o m))) a → ownA σ ρ a ∨ a = p := fun a ⟨j, m', h1, h2⟩ => by
    by_cases hj : j = i
    · subst hj
      rw [List.getElem?_set_self hσ] at h2
      cases h2
      exact .inr rfl
    · rw [List.getElem?_set_ne (Ne.symm hj)] at h1 h2
      exact .inl ⟨j, m', h1, h2⟩
  have np : ∀ (j : Nat) (m' : PyData), ρ[j]? = some (some (D.o m')) → σ[j]? = some (some (V.ref p)) → False := fun j m' h1 h2 => I.eok.sto.lf p (.inr ⟨j, m', h1, h2⟩) hp
  refine ⟨I1.reown (fun a z => ?_) fun j m' a h1 h2 => .inr ⟨j, m', h1, h2⟩, I.ext.trans x, fun a z => ?_, fun j k m1 m2 a h1 h2 h3 h4 => ?_, fun j m' a h1 h2 => ?_, I.lf0, I.base.trans ((x.tr hl0).trans (tr_less fun a z => z.imp (fun z => z.elim (fun q => .inl (.inl q)) fun q => (own a q).imp .inr id) id))⟩
  · rcases z with z | z
    · exact .inl (.inl z)
    · exact (own a z).imp .inr id
  · rcases own a z with z | z
    · exact I.fresh a z
    · subst z
      cases q : e.H a with
      | none => rfl
      | some o => exact absurd hp (I.ext.trk a (by rw [q]; exact fun z => nomatch z))
  · by_cases hj : j = i
    · by_cases hk : k = i
      · rw [hj, hk]
      · subst hj
        rw [List.getElem?_set_self hσ] at h3
        cases h3
        rw [List.getElem?_set_ne (Ne.symm hk)] at h2 h4
        exact (np k m2 h2 h4).elim
    · by_cases hk : k = i
      · subst hk
        rw [List.getElem?_set_self hσ] at h4
        cases h4
        rw [List.getElem?_set_ne (Ne.symm hj)] at h1 h3
        exact (np j m1 h1 h3).elim
      · rw [List.getElem?_set_ne (Ne.symm hj)] at h1 h3
        rw [List.getElem?_set_ne (Ne.symm hk)] at h2 h4
        exact I.inj j k m1 m2 a h1 h2 h3 h4
  · by_cases hj : j = i
    · subst hj
      rw [List.getElem?_set_self hl] at h1
      cases h1
    · rw [List.getElem?_set_ne (Ne.symm hj)] at h1 h2
      exact I.frz j m' a h1 h2
theorem sv_own {i : Nat} {tl : TE} {fl : Lsv} (v : LvOk c tl fl) : SvOk c (tAsg tl (gName i)) (sOwn i fl) := fun e adr S σ H ρ o D I h w => by
  unfold sOwn at h
  obtain ⟨⟨ds, S1⟩, e1, e2⟩ := Option.bind_eq_some_iff.mp h
  split at e2
  · rename_i hl
    cases e2
    refine v _ adr S σ H ρ ds S1 _ I.eok e1 fun p ws adr' H' x s hp hw r => ?_
    exact w adr' _ H' (I.own x s hp ⟨ws, hw, r⟩ hl)
  · cases e2
theorem ds_own {i : Nat} {x : Str} {a : Expr} {fl : Lsv} {p : Pos} (hN : c.N.Nodup) (hi : c.N[i]? = some x) (hx : Loc c.sc x) (hf : c.fn x = true ∨ c.sc.names.lookup x = some .local) (ha : DLs c a fl) (hs : ∀ X, InC c X → swapsWith a (some (.Name x p)) pos.line X.env = pure false) :
    DS c (.Assign [.Name x p] a pos) (sOwn i fl) := by
  obtain ⟨ta, pa, va⟩ := ha
  exact ⟨tAsg ta (gName i), fun X hX => ps_set (by rw [hX.N]; exact hN) (by rw [hX.N]; exact hi) (by rw [hX.sc]; exact hx) (pa X hX) (hs X hX) (by rw [hX.fn, hX.sc]; exact hf), sv_own va⟩
/-- x = [..] (a comprehension on the name's line) -/
theorem ds_lc {i : Nat} {y : Str} {py : Pos} {is : List Nat} {tg iter elt : Expr} {ifs : List Expr} {scope : Scope} {own : List (Str × Nat)} {lpos : Pos} {it : Lsv} {g : Gv} {t : Tv} {f : Ev} (hN : c.N.Nodup) (hy : c.N[i]? = some y) (hyl : c.sc.names.lookup y = some .local)
    (hsw : ∀ X, InC c X → swapsWith (.ListComp elt [⟨tg, iter, ifs, 0⟩] scope lpos) (some (.Name y py)) pos.line X.env = pure true)
    (hi : DI c false tg iter it) (ok : BlkOk c.N c.sc scope own) (hg : DG (c.blk scope) is tg g) (ht : DTs (c.blk scope) ifs t) (he : DE (c.blk scope) elt f)
    (his : ∀ i ∈ is, i ∈ own.map (·.2)) (hs : ∀ X, InC c X → ∀ x, foldedSetIterable iter X.env x = pure x) : ∃ tl, (∀ X, InC c X → PS X (.Assign [.Name y py] (.ListComp elt [⟨tg, iter, ifs, 0⟩] scope lpos) pos) (tAsg tl (gName i))) ∧ LvOk c tl (lComp (own.map (·.2)) it g t f) := by
  obtain ⟨wi, pi, vi⟩ := hi
  obtain ⟨gg, pg, vg⟩ := hg
  obtain ⟨tt, pt, vt⟩ := ht
  obtain ⟨te, pe, ve⟩ := he
  exact ⟨_, fun X hX => ps_setLc hX.calm (by rw [hX.N]; exact hN) (by rw [hX.N]; exact hy) (by rw [hX.sc]; exact hyl) (hsw X hX) (pi X hX) (by rw [hX.N, hX.sc]; exact ok) (fun s H C cl fp => pg _ (hX.blk s H scope C cl fp)) (fun s H C cl fp => pt _ (hX.blk s H scope C cl fp)) (fun s H C cl fp => pe _ (hX.blk s H scope C cl fp)) (hs X hX), lv_comp vi vg vt ve his⟩
theorem ds_setC {i : Nat} {st : Stmt} {fl : Lsv} (h : ∃ tl, (∀ X, InC c X → PS X st (tAsg tl (gName i))) ∧ LvOk c tl fl) : DS c st (sAsg (eL fl) (gN i)) := let ⟨tl, p, v⟩ := h; ⟨_, p, sv_asg (ev_l v) gv_name (gnf_name i)⟩
theorem ds_ownC {i : Nat} {st : Stmt} {fl : Lsv} (h : ∃ tl, (∀ X, InC c X → PS X st (tAsg tl (gName i))) ∧ LvOk c tl fl) : DS c st (sOwn i fl) := let ⟨tl, p, v⟩ := h; ⟨_, p, sv_own v⟩

/-! ### what is owned changes -/
theorem Ok.upd {i : Nat} {p : Addr} {m m' : PyData} {o : HO} (I : Ok c e adr S σ H ρ) (h1 : ρ[i]? = some (some (D.o m))) (h2 : σ[i]? = some (some (V.ref p))) (ob : Ob (upd H p o) (Lvv (LfN e σ ρ) adr S) p m') : Ok c e adr S σ (upd H p o) (ρ.set i (some (.o m'))) := by
  have hp : ownA σ ρ p := ⟨i, m, h1, h2⟩
  have hl : i < ρ.length := (List.getElem?_eq_some_iff.mp h1).1
  have t : Tr H (Lvv (LfN e σ ρ) adr S) (L2.upd H p o) (Lvv (LfN e σ ρ) adr S) := fun a h n => ⟨.of fun u q => by rw [upd_ne (fun z => n (.inl (.inr (by rw [z]; exact hp))))]; exact q, n⟩
  have own : ∀ a, ownA σ (ρ.set i (some (.o m'))) a ↔ ownA σ ρ a := fun a => by
    constructor
    · rintro ⟨j, m2, q1, q2⟩
      by_cases hj : j = i
      · subst hj; exact ⟨j, m, h1, q2⟩
      · rw [List.getElem?_set_ne (Ne.symm hj)] at q1; exact ⟨j, m2, q1, q2⟩
    · rintro ⟨j, m2, q1, q2⟩
      by_cases hj : j = i
      · subst hj; exact ⟨j, m', List.getElem?_set_self hl, q2⟩
      · exact ⟨j, m2, by rw [List.getElem?_set_ne (Ne.symm hj)]; exact q1, q2⟩
  have lf : LfN e σ (ρ.set i (some (.o m'))) = LfN e σ ρ := funext fun a => propext (or_congr Iff.rfl (own a))
  have sto' : StOk c (LfN e σ ρ) adr S (L2.upd H p o) := I.eok.sto.updO (.inr hp) (by
    obtain ⟨o', e1, n⟩ := ob.nt
    rw [upd_same] at e1
    cases e1
    exact n)
  have ep : e.H p = none := I.fresh p hp
  have ext' : Ext e.adr e.S e.H adr S (L2.upd H p o) := by
    refine ⟨I.ext.len, I.ext.ad, fun a u q n => ?_, fun a h => ?_, I.ext.live⟩
    · rw [upd_ne (ne_of_none q ep)]; exact I.ext.keep a u q n
    · by_cases hh : a = p
      · rw [hh, upd_same]; exact fun z => nomatch z
      · rw [upd_ne hh]; exact I.ext.trk a h
  refine ⟨?_, ext', fun a z => I.fresh a ((own a).mp z), fun j k m1 m2 a q1 q2 q3 q4 => ?_, fun j m2 a q1 q2 => ?_, I.lf0, by rw [lf]; exact I.base.trans t⟩
  · rw [lf]
    refine ⟨fun j d q => ?_, sto', by simp [I.eok.len]⟩
    by_cases hj : j = i
    · subst hj
      rw [List.getElem?_set_self hl] at q
      cases q
      exact ⟨_, h2, p, rfl, .inr hp, ob⟩
    · rw [List.getElem?_set_ne (Ne.symm hj)] at q
      obtain ⟨v, e1, r⟩ := I.eok.slot j d q
      refine ⟨v, e1, ?_⟩
      cases d with
      | p d => exact At.tr t d r
      | c k => exact r
      | o m2 =>
        obtain ⟨a, rfl, l, b⟩ := r
        refine ⟨a, rfl, l, b.tr t fun u z => ?_⟩
        rw [upd_ne]
        · exact z
        · intro z2
          subst z2
          exact hj (I.inj j i m2 m a q h1 e1 h2)
      | f m2 =>
        obtain ⟨a, rfl, r⟩ := r
        refine ⟨a, rfl, ?_⟩
        rcases I.frz j m2 a q e1 with z | z
        · have ne : a ≠ p := fun z2 => z (by rw [z2]; exact ep)
          have kr : ∀ u, Rd H a u → Rd (L2.upd H p o) a u := fun u q => rd_keep (fun u q => by rw [upd_ne ne]; exact q) q
          cases m2 with
          | list ds => obtain ⟨xs, h, r⟩ := r; exact ⟨xs, h.imp (fun q => ⟨q.1, kr _ q.2⟩) id, r.tr t⟩
          | dict dd =>
            obtain ⟨n, ⟨kvs, h, k, r⟩ | ⟨kvs, h, k, r⟩⟩ := r
            · exact ⟨n, .inl ⟨kvs, kr _ h, k, AtL.tr2 t _ r⟩⟩
            · exact ⟨n, .inr ⟨kvs, kr _ h, k, AtL.tr2 t _ r⟩⟩
          | _ => exact r.elim
        · cases m2 with
          | list ds =>
            obtain ⟨xs, h, r'⟩ := z
            refine ⟨xs, .inr h, r'.tr (ext'.tr fun b z2 => z2.imp id fun z3 => I.fresh b z3)⟩
          | _ => exact z.elim
  · obtain ⟨m3, w1⟩ : ∃ m3, ρ[j]? = some (some (D.o m3)) := by
      by_cases hj : j = i
      · subst hj; exact ⟨m, h1⟩
      · rw [List.getElem?_set_ne (Ne.symm hj)] at q1; exact ⟨m1, q1⟩
    obtain ⟨m4, w2⟩ : ∃ m3, ρ[k]? = some (some (D.o m3)) := by
      by_cases hj : k = i
      · subst hj; exact ⟨m, h1⟩
      · rw [List.getElem?_set_ne (Ne.symm hj)] at q2; exact ⟨m2, q2⟩
    exact I.inj j k m3 m4 a w1 w2 q3 q4
  · by_cases hj : j = i
    · subst hj
      rw [List.getElem?_set_self hl] at q1
      cases q1
    · rw [List.getElem?_set_ne (Ne.symm hj)] at q1
      exact I.frz j m2 a q1 q2
/-- a cell changes -/
theorem Ok.updC {k : Nat} {mo mo' : MO} {o : HO} (I : Ok c e adr S σ H ρ) (h1 : S[k]? = some (some mo)) (ob : MOb c (L2.upd H (adr k) o) (Lvv (LfN e σ ρ) adr S) adr S.length (adr k) mo') : Ok c e adr (S.set k (some mo')) σ (L2.upd H (adr k) o) ρ := by
  have hk : k < S.length := (List.getElem?_eq_some_iff.mp h1).1
  have hlv : LvC adr S (adr k) := ⟨k, mo, h1, rfl⟩
  have lv : ∀ a, LvC adr (S.set k (some mo')) a ↔ LvC adr S a := fun a => by
    constructor
    · rintro ⟨j, m2, q1, q2⟩
      by_cases hj : j = k
      · subst hj; exact ⟨j, mo, h1, q2⟩
      · rw [List.getElem?_set_ne (Ne.symm hj)] at q1; exact ⟨j, m2, q1, q2⟩
    · rintro ⟨j, m2, q1, q2⟩
      by_cases hj : j = k
      · subst hj; exact ⟨j, mo', List.getElem?_set_self hk, q2⟩
      · exact ⟨j, m2, by rw [List.getElem?_set_ne (Ne.symm hj)]; exact q1, q2⟩
  have lvE : LvC adr (S.set k (some mo')) = LvC adr S := funext fun a => propext (lv a)
  have x : Ext adr S H adr (S.set k (some mo')) (L2.upd H (adr k) o) := by
    refine ⟨by simp, fun _ _ => rfl, fun a u q n => ?_, fun a h => ?_, fun a z => .inl ((lv a).mp z)⟩
    · rw [upd_ne fun z => n (by rw [z]; exact hlv)]; exact q
    · by_cases hh : a = adr k
      · rw [hh, upd_same]; exact fun z => nomatch z
      · rw [upd_ne hh]; exact h
  have t : Tr H (Lvv (LfN e σ ρ) adr S) (L2.upd H (adr k) o) (Lvv (LfN e σ ρ) adr S) := fun a h n => ⟨.of fun u q => by rw [upd_ne (fun z => n (.inr (by rw [z]; exact hlv)))]; exact q, n⟩
  refine I.extE x ⟨fun i j m1 m2 q1 q2 q3 => ?_, fun i m1 q1 => ?_, fun a z => I.eok.sto.disj a ((lv a).mp z), fun a z => (I.eok.sto.lfo a z).keep fun o q => x.keep a o q fun n => I.eok.sto.disj a n z⟩
  · have g : ∀ (i : Nat) (m1 : MO), (S.set k (some mo'))[i]? = some (some m1) → ∃ m, S[i]? = some (some m) := fun i m1 q => by
      by_cases hj : i = k
      · subst hj; exact ⟨mo, h1⟩
      · rw [List.getElem?_set_ne (Ne.symm hj)] at q; exact ⟨m1, q⟩
    obtain ⟨a1, w1⟩ := g i m1 q1
    obtain ⟨a2, w2⟩ := g j m2 q2
    exact I.eok.sto.inj i j a1 a2 w1 w2 q3
  · have e1 : Lvv (LfN e σ ρ) adr (S.set k (some mo')) = Lvv (LfN e σ ρ) adr S := by unfold Lvv; rw [lvE]
    rw [e1, List.length_set]
    by_cases hj : i = k
    · subst hj
      rw [List.getElem?_set_self hk] at q1
      cases q1
      exact ob
    · rw [List.getElem?_set_ne (Ne.symm hj)] at q1
      refine MOb.tr t (Nat.le_refl _) (fun _ _ => rfl) (fun u q => ?_) (I.eok.sto.ob i m1 q1)
      rw [upd_ne fun z => hj (I.eok.sto.inj i k m1 mo q1 h1 z)]
      exact q
end
end DL
namespace DL
open PySem PySem.AutoSeq1 in
theorem list_extend_tup (l : Addr) (items : Array Value) (n : Nat) (b : Addr) (items2 : Array Value) (n2 : Nat) (dd : Option Addr) (sl : Array (Option Value)) (hs0 : ¬(!items.isEmpty && Builtin.List.listTooLong (items.size + items2.size)) = true) (hs1 : items.size ≤ sizeLine) (hs2 : items.size + items2.size ≤ sizeLine + 1) :
    Meets (Builtin.«list.extend» ⟨[.ref l, .ref b], []⟩) (fun _ R s => s.heap.get? l = some { cls := .type "list", dict := none, data := .seq items n, slots := #[] } ∧ s.heap.get? b = some { cls := .type "tuple", dict := dd, data := .seq items2 n2, slots := sl } ∧ R (.ok (.ret Value.none)) { s with heap := s.heap.update l (Obj.mapSeq fun x => x ++ items2), toks := s.toks }) :=
  .of_wp fun prog w A R s h => by
    obtain ⟨hp, g, d, tk, os⟩ := s; obtain ⟨hl, hb, h⟩ := h; have f1 := idx_int; have f2 := sub_tuple_tuple; have f3 := sub_list_list; have f4 := sub_tuple_list; have f5 := sub_list_tuple;
    have hz' : (items ++ items2).size ≤ sizeLine + 1 := by rw [Array.size_append]; exact hs2
    wp_walk using (wpAny_updateSeq hl rfl (hz := hs1) (_hz' := hz')), wpAny_loadPart' hl, wpAny_loadPart' hb; exact ⟨_, rfl, h⟩
open PySem PySem.Spec L2
open PyProof.Rows hiding St
/-! ### methods that change a list: by data -/
/-- the list at p (not data) becomes hh of it and of the argument's data -/
def rMut (K : PySem.W.Frag) (hh : PyData → PyData → Option PyData) : V → List V → Hp → VK → Prop := fun x vs H Q => ∃ (L : AdP) (p : Addr) (v : V) (m d m' : PyData), x = .ref p ∧ vs = [v] ∧ L p ∧ Ob H L p m ∧ At H L v d ∧ hh m d = some m' ∧ ∀ o, Ob (L2.upd H p o) L p m' → Q .non (L2.upd H p o)
def appD (m d : PyData) : Option PyData := match m with | .list ds => if ds.length < sizeLine then some (.list (ds ++ [d])) else none | _ => none
def extD (m d : PyData) : Option PyData := match m with
  | .list ds => (match d with
    | .list es => if ds.length + es.length ≤ sizeLine then some (.list (ds ++ es)) else none
    | .tuple es => if ds.length + es.length ≤ sizeLine then some (.list (ds ++ es)) else none
    | _ => none)
  | _ => none
theorem tr_upd {H : Hp} {L : AdP} {p : Addr} {o : HO} (hp : L p) : Tr H L (L2.upd H p o) L := fun a h n => ⟨.of fun u q => by rw [upd_ne (fun z => n (by rw [z]; exact hp))]; exact q, n⟩
section
variable {X : Cx}
theorem hm_app : MtR X "list.append" (rMut X.K appD) := by
  intro pins s σ H x vs v us Q I rx rv h
  obtain ⟨L, p, y, m, d, m', rfl, rfl, hL, ob, a, e, q⟩ := h
  unfold appD at e
  split at e
  · split at e
    · rename_i ds hz
      cases e
      obtain ⟨xs, hx, r⟩ := ob
      exact mt_append pins s σ H _ _ v us Q I rx rv ⟨p, xs, y, rfl, rfl, hx, by rw [r.length]; exact hz, q _ ⟨_, upd_same, (r.append (.cons a .nil)).tr (tr_upd hL)⟩⟩
    · cases e
  · cases e
theorem hm_ext : MtR X "list.extend" (rMut X.K extD) := by
  intro pins s σ H x vs v us Q I rx rv h
  obtain ⟨L, p, y, m, d, m', rfl, rfl, hL, ob, a, e, q⟩ := h
  unfold extD at e
  split at e
  · split at e
    · split at e
      · rename_i ds _ es hz
        cases e
        obtain ⟨xs, hx, r⟩ := ob
        cases a with
        | lst n h1 h2 =>
          have e1 := r.length
          have e2 := h2.length
          exact mt_extend pins s σ H _ _ v us Q I rx rv ⟨p, _, xs, _, rfl, rfl, hx, h1, by omega, q _ ⟨_, upd_same, (r.append h2).tr (tr_upd hL)⟩⟩
      · cases e
    · split at e
      · rename_i ds _ es hz
        cases e
        obtain ⟨xs, hx, r⟩ := ob
        cases a with
        | tup n h1 h2 =>
          have e1 := r.length
          have e2 := h2.length
          cases rx
          obtain ⟨u, rfl, ru⟩ := Vals.one rv
          cases ru
          obtain ⟨z, its, k, r1, hl, e3⟩ := I.lstM hx
          obtain ⟨its2, r2, ⟨⟨cls, dd, data, sl⟩, ho, hc, n2, hd⟩, z2⟩ := I.tuple (.of h1)
          simp only at hc hd
          subst hc hd
          have e4 := r2.length
          have hsz : its.toArray.size + its2.toArray.size ≤ sizeLine := by rw [List.size_toArray, List.size_toArray]; omega
          have hlong : ¬ (!its.toArray.isEmpty && Builtin.List.listTooLong (its.toArray.size + its2.toArray.size)) = true := by
            rw [notLongL hsz, Bool.and_false]
            exact Bool.false_ne_true
          refine call_meets PySem.F.slot_list_extend ⟨_, e3, rfl⟩ PySem.F.entry_list_extend (PySem.F.args_list_extend_2 _ _)
            (list_extend_tup p its.toArray k _ its2.toArray n2 dd sl hlong (by rw [List.size_toArray]; omega) (by omega)) ⟨e3, ho, ?_⟩
          refine ⟨.non, _, I.lset (its' := its ++ its2) hx e3 (by simp) (r1.append r2) ?_, rfl, q _ ⟨_, upd_same, (r.append h2).tr (tr_upd hL)⟩⟩
          rw [List.length_append]
          omega
      · cases e
    · cases e
  · cases e
end
section
variable {c : Cxt} {e : En} {Lf : AdP} {adr : Nat → Addr} {S : Sto} {H : Hp} {σ : L2.St} {ρ : Env'} {pos : Pos}
/-- x.m(e): the list in slot i, or in its cell, becomes hh of it and what e gives -/
def sMut (hh : PyData → PyData → Option PyData) (i : Nat) (fa : Ev) : Sv := fun ρ S => match ρ[i]? with
  | some (some (.o m)) => (fa ρ S).bind fun p => match p.1 with | .p d => (hh m d).bind fun m' => some (.nx (ρ.set i (some (.o m'))) p.2) | _ => none
  | some (some (.c k)) => match S[k]? with
    | some (some (.d (.list _))) => (fa ρ S).bind fun p => match p.1 with
      | .p d => (match p.2[k]? with
        | some (some (.d m)) => (hh m d).bind fun m' => some (.nx ρ (p.2.set k (some (.d m'))))
        | _ => none)
      | _ => none
    | _ => none
  | _ => none
theorem sv_mut {hh : PyData → PyData → Option PyData} (hm : ∀ m d m', hh m d = some m' → ∃ ds, m = .list ds) {i : Nat} {ta : TE} {fa : Ev} (va : EvOk c ta fa) : SvOk c (tDrop (tBM c.K "list" (rMut c.K hh) (tVar i) (tCons ta tNil))) (sMut hh i fa) := fun e adr S σ H ρ o D I h w => by
  unfold sMut at h
  split at h
  · rename_i m hi
    obtain ⟨⟨x, S1⟩, e1, e2⟩ := Option.bind_eq_some_iff.mp h
    cases x with
    | p d =>
      obtain ⟨m', e3, e4⟩ := Option.bind_eq_some_iff.mp e2
      cases e4
      obtain ⟨v, h1, a, rfl, l, ob⟩ := I.eok.slot i _ hi
      obtain ⟨ds, rfl⟩ := hm _ _ _ e3
      have ob0 := ob
      obtain ⟨xs, hx, _⟩ := ob0
      refine ⟨_, h1, .inl ⟨rfl, _, .of hx⟩, va _ adr S σ H ρ _ _ _ I.eok e1 fun v adr1 H1 x1 s1 r1 => ?_⟩
      have I1 := I.extE x1 s1
      exact ⟨_, a, v, _, d, m', rfl, rfl, .inl l, I1.own_at hi h1, r1, e3, fun o' ob' => w adr1 _ _ (I1.upd hi h1 ob')⟩
    | _ => cases e2
  · rename_i k hi
    split at h
    · rename_i ds0 hk0
      obtain ⟨⟨x, S1⟩, e1, e2⟩ := Option.bind_eq_some_iff.mp h
      cases x with
      | p d =>
        simp only at e2
        split at e2
        · rename_i m hk
          obtain ⟨m', e3, e4⟩ := Option.bind_eq_some_iff.mp e2
          cases e4
          obtain ⟨v, h1, rfl, hkl⟩ := I.eok.slot i _ hi
          obtain ⟨xs, hx, _⟩ := I.eok.sto.ob k _ hk0
          refine ⟨_, h1, .inl ⟨rfl, _, .of hx⟩, va _ adr S σ H ρ _ _ _ I.eok e1 fun v adr1 H1 x1 s1 r1 => ?_⟩
          have I1 := I.extE x1 s1
          have ek : adr1 k = adr k := x1.ad k hkl
          rw [← ek]
          exact ⟨_, adr1 k, v, m, d, m', rfl, rfl, .inr ⟨k, _, hk, rfl⟩, s1.ob k _ hk, r1, e3, fun o' ob' => w adr1 _ _ (I1.updC hk ob')⟩
        · cases e2
      | _ => cases e2
    · cases h
  · cases h
/-- the statement x.m(e) of a list -/
theorem ds_mut {id : String} {name : Str} {hh : PyData → PyData → Option PyData} {i : Nat} {x : Str} {a : Expr} {fa : Ev} {p apos cpos : Pos} (slot : Slot "list" name id) (hty : typeOf (.builtin id) = pure (.type "method_descriptor")) (hmt : ∀ X, MtR X id (rMut X.K hh))
    (hm : ∀ m d m', hh m d = some m' → ∃ ds, m = .list ds) (hN : c.N[i]? = some x) (hv : Vis c.sc x) (hd : (x == ("__debug__" : Str)) = false) (hcd : (x == ("__classdict__" : Str)) = false) (ha : DE c a fa) (hst : noStar [a] = true)
    (hbase : ∀ X, InC c X → attributeBase (.Name x p) name X.env (eval (.Name x p) X.env) = eval (.Name x p) X.env)
    (hfew : ∀ X, InC c X → ((backTo cpos (starEach [a] X.env)).all (fun x => !x.1) && (backToKw cpos (keywordEach [] X.env)).all (fun x => x.1.isSome)
      && decide ([a].length + ([] : List Keyword).length + (if ([] : List Keyword).isEmpty then 0 else 1) < 30)) = true)
    (hline : (apos.endLine == cpos.line) = true) (hs : ∀ X, InC c X → swapsWith (.Call (.Attribute (.Name x p) name apos) [a] [] cpos) none pos.line X.env = pure false) :
    DS c (.Expr (.Call (.Attribute (.Name x p) name apos) [a] [] cpos) pos) (sMut hh i fa) := by
  obtain ⟨ta, pa, va⟩ := ha
  exact ⟨_, fun X hX => ps_expr (by
    have h := pe_bm (cpos := cpos) (apos := apos) PySem.F.plainAttrs_list slot hty (hmt X) (pe_var (pos := p) (i := i) (by rw [hX.N]; exact hN) (by rw [hX.sc]; exact hv) hd hcd) (pa_cons (pa X hX) pa_nil (star_cons hst)) (hbase X hX) (hfew X hX) hline (star_cons hst) rfl
    rw [hX.K] at h
    exact h) (hs X hX), sv_mut hm va⟩
theorem app_list (m d m' : PyData) (h : appD m d = some m') : ∃ ds, m = .list ds := by cases m <;> first | exact ⟨_, rfl⟩ | cases h
theorem ext_list (m d m' : PyData) (h : extD m d = some m') : ∃ ds, m = .list ds := by cases m <;> first | exact ⟨_, rfl⟩ | cases h
/-- an expression for its effect alone -/
def sDrop (fa : Ev) : Sv := fun ρ S => (fa ρ S).bind fun p => some (.nx ρ p.2)
theorem ds_expr {a : Expr} {fa : Ev} (ha : DE c a fa) (hs : ∀ X, InC c X → swapsWith a none pos.line X.env = pure false) : DS c (.Expr a pos) (sDrop fa) := by
  obtain ⟨ta, pa, va⟩ := ha
  refine ⟨_, fun X hX => ps_expr (pa X hX) (hs X hX), fun e adr S σ H ρ o D I h w => ?_⟩
  unfold sDrop at h
  obtain ⟨⟨x, S1⟩, e1, e2⟩ := Option.bind_eq_some_iff.mp h
  cases e2
  exact va _ adr S σ H ρ _ _ _ I.eok e1 fun v adr1 H1 x1 s1 r1 => w adr1 σ H1 (I.extE x1 s1)
/-- x += e -/
def sAug (f : PyData → PyData → Option PyData) (i : Nat) (fa : Ev) : Sv := fun ρ S => match ρ[i]? with
  | some (some (.p a)) => (fa ρ S).bind fun p => (vw p.2 p.1).bind fun b => (f a b).bind fun r => some (.nx (ρ.set i (some (.p r))) p.2)
  | _ => none
theorem ds_aug {op : Operator} {f : PyData → PyData → Option PyData} {i : Nat} {x : Str} {a : Expr} {fa : Ev} {p : Pos} (ho : ∀ X, InC c X → OpR X (inplaceOp op) (rD X.K f)) (hN : c.N.Nodup) (hi : c.N[i]? = some x) (hx : Loc c.sc x) (hf : c.fn x = true ∨ c.sc.names.lookup x = some .local) (ha : DE c a fa) :
    DS c (.AugAssign (.Name x p) op a pos) (sAug f i fa) := by
  obtain ⟨ta, pa, va⟩ := ha
  refine ⟨tAug i ta (rD c.K f), fun X hX => ps_aug (ti := rD c.K f) (by rw [hX.N]; exact hN) (by rw [hX.N]; exact hi) (by rw [hX.sc]; exact hx) (pa X hX) (by rw [← hX.K]; exact ho X hX) (by rw [hX.fn, hX.sc]; exact hf), fun e adr S σ H ρ o D I h w => ?_⟩
  unfold sAug at h
  split at h
  · rename_i a0 hi
    obtain ⟨⟨y, S1⟩, e1, e2⟩ := Option.bind_eq_some_iff.mp h
    obtain ⟨b, e3, e4⟩ := Option.bind_eq_some_iff.mp e2
    obtain ⟨r, e5, e6⟩ := Option.bind_eq_some_iff.mp e4
    cases e6
    obtain ⟨v, h1, r0⟩ := I.eok.slot i _ hi
    refine ⟨v, h1, va _ adr S σ H ρ _ _ _ I.eok e1 fun u adr1 H1 x1 s1 r1 => ?_⟩
    have I1 := I.extE x1 s1
    have r0' : At H1 (Lvv (LfN e σ ρ) adr1 S1) v a0 := At.tr (x1.tr fun a z => .inl z) a0 r0
    refine ⟨_, a0, b, r, fun z => s1.lvv, .dat r0', vw_ok s1 r1 e3, e5, fun w' H' k a' => ?_⟩
    have I2 := I1.extE (.grow k) (grow_ok s1 k)
    exact w adr1 _ H' (I2.set i (d := .p r) (List.getElem?_eq_some_iff.mp hi).1 a' (fun m z => nomatch z) (fun m z => nomatch z))
  · cases h
end
end DL
namespace DL
open PySem PySem.Spec L2
open PyProof.Rows hiding St
section
variable {c : Cxt} {e : En} {Lf : AdP} {adr : Nat → Addr} {S : Sto} {H : Hp} {σ : L2.St} {ρ : Env'} {pos : Pos}
/-! ### forgetting slots -/
def fgO (is : List Nat) : Out → Out
  | .nx ρ S => .nx (wipeE ρ is) S
  | .bk ρ S => .bk (wipeE ρ is) S
  | .ct ρ S => .ct (wipeE ρ is) S
  | .rt d S => .rt d S
def sFg (is : List Nat) (f : Sv) : Sv := fun ρ S => (f ρ S).bind fun o => some (fgO is o)
theorem Ok.fg (I : Ok c e adr S σ H ρ) (is : List Nat) : Ok c e adr S σ H (wipeE ρ is) := by
  have wne : ∀ (i : Nat) (d : D), (wipeE ρ is)[i]? = some (some d) → ρ[i]? = some (some d) := fun i d h => (wipeE_get h).1
  have wout : ∀ (i : Nat), i ∉ is → (wipeE ρ is)[i]? = ρ[i]? := by
    intro i hi
    induction is with
    | nil => rfl
    | cons j is ih =>
      simp only [List.mem_cons, not_or] at hi
      rw [wipeE, List.getElem?_set_ne (Ne.symm hi.1)]
      exact ih (fun i d h => (wipeE_get h).1) hi.2
  refine I.chg (is := is) ⟨fun i d h => I.eok.slot i d (wne i d h), I.eok.sto, by rw [wipeE_len]; exact I.eok.len⟩ ⟨rfl, wipeE_len ρ is, fun _ _ => rfl, wout, fun i m h => ⟨wne i _ h, rfl⟩⟩ fun i m h => ⟨wne i _ h, rfl⟩
theorem OutOk.fg {D : Ends} {is : List Nat} {o : Out} (w : OutOk c e D (fgO is o)) : OutOk c e D o := by
  cases o with
  | nx ρ S => exact fun adr σ H I => w adr σ H (I.fg is)
  | bk ρ S => exact fun adr σ H I => w adr σ H (I.fg is)
  | ct ρ S => exact fun adr σ H I => w adr σ H (I.fg is)
  | rt d S => exact w
theorem sv_fg {t : TS} {f : Sv} {is : List Nat} (v : SvOk c t f) : SvOk c t (sFg is f) := fun e adr S σ H ρ o D I h w => by
  unfold sFg at h
  obtain ⟨o1, e1, e2⟩ := Option.bind_eq_some_iff.mp h
  cases e2
  exact v e adr S σ H ρ o1 D I e1 w.fg
theorem ds_fg {st : Stmt} {f : Sv} (is : List Nat) (h : DS c st f) : DS c st (sFg is f) := let ⟨t, p, v⟩ := h; ⟨t, p, sv_fg v⟩
theorem dss_fg {st : List Stmt} {f : Sv} (is : List Nat) (h : DSs c st f) : DSs c st (sFg is f) := let ⟨t, p, v⟩ := h; ⟨t, p, sv_fg v⟩
/-- what slot i owns is data from now on -/
def frzE (i : Nat) (ρ : Env') : Env' := match ρ[i]? with | some (some (.o m)) => ρ.set i (some (.p m)) | _ => ρ
def sFz (i : Nat) (f : Sv) : Sv := fun ρ S => f (frzE i ρ) S
theorem Ok.fz (I : Ok c e adr S σ H ρ) (i : Nat) : Ok c e adr S σ H (frzE i ρ) := by
  unfold frzE
  split
  · rename_i m hi
    have hl : i < ρ.length := (List.getElem?_eq_some_iff.mp hi).1
    obtain ⟨v, h1, a, rfl, l, ob⟩ := I.eok.slot i _ hi
    have own : ∀ b, ownA σ (ρ.set i (some (.p m))) b → ownA σ ρ b ∧ b ≠ a := fun b ⟨j, m', q1, q2⟩ => by
      by_cases hj : j = i
      · subst hj
        rw [List.getElem?_set_self hl] at q1
        cases q1
      · rw [List.getElem?_set_ne (Ne.symm hj)] at q1
        refine ⟨⟨j, m', q1, q2⟩, fun z => hj ?_⟩
        subst z
        exact I.inj j i m' m b q1 hi q2 h1
    have hle : ∀ b, LfN e σ (ρ.set i (some (.p m))) b → LfN e σ ρ b := fun b z => z.imp id fun q => (own b q).1
    have na : ¬ Lvv (LfN e σ (ρ.set i (some (.p m)))) adr S a := fun z => by
      rcases z with (z | z) | z
      · exact I.own_not ⟨i, m, hi, h1⟩ (.inl z)
      · exact (own a z).2 rfl
      · exact I.own_not ⟨i, m, hi, h1⟩ (.inr z)
    have t : Tr H (Lvv (LfN e σ ρ) adr S) H (Lvv (LfN e σ (ρ.set i (some (.p m)))) adr S) := fun b _ n => ⟨.of fun _ q => q, fun z => n (z.imp (hle b) id)⟩
    refine ⟨⟨fun j d q => ?_, I.eok.sto.weak hle, by simp [I.eok.len]⟩, I.ext, fun b z => I.fresh b (own b z).1, fun j k m1 m2 b q1 q2 q3 q4 => ?_, fun j m' b q1 q2 => ?_, I.lf0, I.base.trans t⟩
    · by_cases hj : j = i
      · subst hj
        rw [List.getElem?_set_self hl] at q
        cases q
        exact ⟨_, h1, ob_at na (ob.tr t fun _ q => q)⟩
      · rw [List.getElem?_set_ne (Ne.symm hj)] at q
        obtain ⟨v, e1, r⟩ := I.eok.slot j d q
        refine ⟨v, e1, ?_⟩
        cases d with
        | p d => exact At.tr t d r
        | c k => exact r
        | o m2 =>
          obtain ⟨b, rfl, _, b2⟩ := r
          exact ⟨b, rfl, .inr ⟨j, m2, by rw [List.getElem?_set_ne (Ne.symm hj)]; exact q, e1⟩, b2.tr t fun _ q => q⟩
        | f m2 =>
          obtain ⟨b, e2, b2⟩ := r
          exact ⟨b, e2, b2.ext (adr := adr) (adr' := adr) (S := S) (S' := S) .refl fun x z => .inl (hle x z)⟩
    · by_cases hj : j = i
      · subst hj
        rw [List.getElem?_set_self hl] at q1
        cases q1
      · by_cases hk : k = i
        · subst hk
          rw [List.getElem?_set_self hl] at q2
          cases q2
        · rw [List.getElem?_set_ne (Ne.symm hj)] at q1
          rw [List.getElem?_set_ne (Ne.symm hk)] at q2
          exact I.inj j k m1 m2 b q1 q2 q3 q4
    · by_cases hj : j = i
      · subst hj
        rw [List.getElem?_set_self hl] at q1
        cases q1
      · rw [List.getElem?_set_ne (Ne.symm hj)] at q1
        exact I.frz j m' b q1 q2
  · exact I
theorem ds_fz {st : Stmt} {f : Sv} (i : Nat) (h : DS c st f) : DS c st (sFz i f) := let ⟨t, p, v⟩ := h; ⟨t, p, fun e adr S σ H ρ o D I h w => v e adr S σ H (frzE i ρ) o D (I.fz i) h w⟩

/-! ### for -/
def forL (g : Gv) (b : Sv) : List PyData → Env' → Sto → Option Out
  | [], ρ, S => some (.nx ρ S)
  | d :: ds, ρ, S => (g d ρ).bind fun ρ1 => (b ρ1 S).bind fun o => match o with
    | .nx ρ' S' => forL g b ds ρ' S'
    | .ct ρ' S' => forL g b ds ρ' S'
    | .bk ρ' S' => some (.nx ρ' S')
    | .rt d S' => some (.rt d S')
/-- the slots is (the target's, the body's own) are forgotten ahead of each turn -/
def sFor (is : List Nat) (it : Lsv) (g : Gv) (b : Sv) : Sv := fun ρ S => (it ρ S).bind fun p => forL g (sFg is b) p.1 (wipeE ρ is) p.2
theorem sv_for_at {is js : List Nat} {wi : TI} {gg : TG} {tb : TS} {g : Gv} {b : Sv} {items : List PyData} {S1 : Sto} {o : Out} {D : Ends} (I : Ok c e adr S σ H ρ)
    (hv : ∀ R : It → Hp → Prop, (∀ J adr' H', Ext adr S H adr' S1 H' → StOk c (LfN e σ ρ) adr' S1 H' → ItOk true (LfN e σ ρ) H' (Lvv (LfN e σ ρ) adr' S1) J items → items.length ≤ sizeLine → R J H') → wi σ H R)
    (vg : GvOk c js gg g) (nf : GNf js g) (vb : SvOk c tb b) (e2 : forL g (sFg is b) items (wipeE ρ is) S1 = some o) (w : OutOk c e D o) : tFor wi gg tb D σ H := by
  refine hv _ fun J adr1 H1 x1 s1 J1 hz => ?_
  have I0 := I.extE x1 s1
  have t0 := I0.base
  have I1 := I0.into.fg is
  generalize he1 : e.at H1 (Lvv (LfN e σ ρ) adr1 S1) = e1 at I1
  have w1 : OutOk c e1 D o := by rw [← he1]; exact w.back t0
  have hbH : e1.bH = H1 := by rw [← he1]; rfl
  have hbL : e1.bL = Lvv (LfN e σ ρ) adr1 S1 := by rw [← he1]; rfl
  refine ⟨fun i m σc Hc => m = items.length - i ∧ i ≤ items.length ∧ ∃ adrc Sc ρc, Ok c e1 adrc Sc σc Hc ρc ∧ forL g (sFg is b) (items.drop i) ρc Sc = some o, ⟨items.length, by simp, Nat.zero_le _, adr1, S1, wipeE ρ is, I1, e2⟩, fun i m σc Hc hW => ?_⟩
  obtain ⟨rfl, hi, adrc, Sc, ρc, Ic, ec⟩ := hW
  have now := J1 Hc (Lvv (LfN e1 σc ρc) adrc Sc) (by have h := Ic.base; rw [hbH, hbL] at h; exact h) fun z => nomatch z
  by_cases hlt : i < items.length
  · have hdr : items.drop i = items[i] :: items.drop (i + 1) := List.drop_eq_getElem_cons hlt
    have hget : items[i]? = some items[i] := List.getElem?_eq_getElem hlt
    rw [hdr] at ec
    simp only [forL, Option.bind_eq_some_iff] at ec
    obtain ⟨ρ1, eg, o1, eb, er⟩ := ec
    refine .inr ⟨now.go i _ hget, fun σn Hn => ∃ adrc Sc ρc, Ok c e1 adrc Sc σn Hn ρc ∧ forL g (sFg is b) (items.drop (i + 1)) ρc Sc = some o, fun σn Hn hn => ⟨items.length - (i + 1), by omega, rfl, hlt, hn⟩, fun x H' hy => ?_⟩
    obtain ⟨kH', aH'⟩ := now.yld i _ x H' hget hy
    have a3 := aH' fun a z => Ic.eok.sto.lvo z
    have I3 : Ok c e1 adrc Sc σc H' ρc := Ic.extE (.grow kH') (grow_ok Ic.eok.sto kH')
    refine vg _ adrc Sc σc H' ρc x items[i] ρ1 _ I3.eok a3 eg fun σ2 I4 ch => ?_
    have I5 : Ok c e1 adrc Sc σ2 H' ρ1 := I3.chg I4 ch fun j m q => by
      have hj := nf _ _ _ eg j m q
      exact ⟨by rw [← ch.eρ j hj]; exact q, ch.eσ j hj⟩
    refine sv_fg (is := is) vb e1 adrc Sc σ2 H' ρ1 o1 _ I5 eb ?_
    cases o1 with
    | nx ρ' S' => exact fun adr' σ' H2 I' => ⟨adr', S', ρ', I', er⟩
    | ct ρ' S' => exact fun adr' σ' H2 I' => ⟨adr', S', ρ', I', er⟩
    | bk ρ' S' =>
      cases er
      exact w1
    | rt d S' =>
      cases er
      exact w1
  · have hi' : i = items.length := by omega
    subst hi'
    rw [List.drop_length] at ec
    simp only [forL, Option.some.injEq] at ec
    subst ec
    exact .inl ⟨now.stop, w1 adrc σc Hc Ic⟩
theorem sv_for {is js : List Nat} {wi : TI} {gg : TG} {tb : TS} {it : Lsv} {g : Gv} {b : Sv} (vi : IvOk c true wi it) (vg : GvOk c js gg g) (nf : GNf js g) (vb : SvOk c tb b) : SvOk c (tFor wi gg tb) (sFor is it g b) := fun e adr S σ H ρ o D I h w => by
  unfold sFor at h
  obtain ⟨⟨items, S1⟩, e1, e2⟩ := Option.bind_eq_some_iff.mp h
  exact sv_for_at I (fun R hR => vi _ adr S σ H ρ items S1 R I.eok e1 hR) vg nf vb e2 w
theorem ds_for {is js : List Nat} {tg iter : Expr} {body : List Stmt} {it : Lsv} {g : Gv} {b : Sv} (hi : DI c true tg iter it) (hg : DG c js tg g) (nf : GNf js g) (hb : DSs c body b) (hs : ∀ X, InC c X → ∀ x, foldedSetIterable iter X.env x = pure x) : DS c (.For tg iter body [] pos) (sFor is it g b) := by
  obtain ⟨wi, pi, vi⟩ := hi
  obtain ⟨gg, pg, vg⟩ := hg
  obtain ⟨tb, pb, vb⟩ := hb
  exact ⟨_, fun X hX => ps_for (by rw [hX.xe]; exact PassesOwn.never) hX.calm (pi X hX) (pg X hX) (pb X hX) (hs X hX), sv_for vi vg nf vb⟩

/-! ### while -/
def whN (t : Tv) (b : Sv) : Nat → Env' → Sto → Option Out
  | 0, _, _ => none
  | n + 1, ρ, S => (t ρ S).bind fun p => if p.1 = true then (b ρ p.2).bind fun o => match o with
    | .nx ρ' S' => whN t b n ρ' S'
    | .ct ρ' S' => whN t b n ρ' S'
    | .bk ρ' S' => some (.nx ρ' S')
    | .rt d S' => some (.rt d S')
    else some (.nx ρ p.2)
theorem whN_mono (t : Tv) (b : Sv) : ∀ (n : Nat) (ρ : Env') (S : Sto) (o : Out), whN t b n ρ S = some o → ∀ m, n ≤ m → whN t b m ρ S = some o
  | 0, _, _, _, h, _, _ => by cases h
  | n + 1, ρ, S, o, h, 0, hm => by omega
  | n + 1, ρ, S, o, h, m + 1, hm => by
    simp only [whN, Option.bind_eq_some_iff] at h ⊢
    obtain ⟨⟨k, S1⟩, e1, e2⟩ := h
    refine ⟨(k, S1), e1, ?_⟩
    cases k with
    | false => exact e2
    | true =>
      simp only [if_pos, Option.bind_eq_some_iff] at e2 ⊢
      obtain ⟨o1, e3, e4⟩ := e2
      refine ⟨o1, e3, ?_⟩
      cases o1 with
      | nx ρ' S' => exact whN_mono t b n ρ' S' o e4 m (by omega)
      | ct ρ' S' => exact whN_mono t b n ρ' S' o e4 m (by omega)
      | bk ρ' S' => exact e4
      | rt d S' => exact e4
open Classical in
/-- the while loop, where it ends -/
noncomputable def whD (t : Tv) (b : Sv) : Sv := fun ρ S => if h : ∃ n, (whN t b n ρ S).isSome = true then whN t b h.choose ρ S else none
theorem whD_eq {t : Tv} {b : Sv} {n : Nat} {ρ : Env'} {S : Sto} {o : Out} (h : whN t b n ρ S = some o) : whD t b ρ S = some o := by
  unfold whD
  have hx : ∃ n, (whN t b n ρ S).isSome = true := ⟨n, by rw [h]; rfl⟩
  rw [dif_pos hx]
  obtain ⟨o', e⟩ := Option.isSome_iff_exists.mp hx.choose_spec
  have e1 := whN_mono t b _ ρ S o' e (max hx.choose n) (Nat.le_max_left _ _)
  have e2 := whN_mono t b _ ρ S o h (max hx.choose n) (Nat.le_max_right _ _)
  rw [e, ← e1, e2]
theorem whD_inv {t : Tv} {b : Sv} {ρ : Env'} {S : Sto} {o : Out} (h : whD t b ρ S = some o) : ∃ n, whN t b n ρ S = some o := by
  unfold whD at h
  split at h
  · exact ⟨_, h⟩
  · cases h
noncomputable def sWh (is : List Nat) (t : Tv) (b : Sv) : Sv := fun ρ S => whD t (sFg is b) (wipeE ρ is) S
theorem sv_wh {is : List Nat} {tt : TT} {tb : TS} {t : Tv} {b : Sv} (vt : TvOk c tt t) (vb : SvOk c tb b) : SvOk c (tWhile tt tb) (sWh is t b) := fun e adr S σ H ρ o D I h w => by
  obtain ⟨n, h⟩ := whD_inv h
  refine ⟨fun m σc Hc => ∃ adrc Sc ρc, Ok c e adrc Sc σc Hc ρc ∧ whN t (sFg is b) m ρc Sc = some o, ⟨n, adr, S, wipeE ρ is, I.fg is, h⟩, fun m σc Hc hW => ?_⟩
  obtain ⟨adrc, Sc, ρc, Ic, ec⟩ := hW
  cases m with
  | zero => cases ec
  | succ m =>
    simp only [whN, Option.bind_eq_some_iff] at ec
    obtain ⟨⟨k, S1⟩, e1, e2⟩ := ec
    refine vt _ adrc Sc σc Hc ρc k S1 _ Ic.eok e1 fun adr1 H1 x1 s1 => ?_
    have I1 := Ic.extE x1 s1
    cases k with
    | false =>
      cases e2
      exact iteF (w adr1 σc H1 I1)
    | true =>
      simp only [if_pos, Option.bind_eq_some_iff] at e2
      obtain ⟨o1, e3, e4⟩ := e2
      refine iteT ⟨fun σn Hn => ∃ adrc Sc ρc, Ok c e adrc Sc σn Hn ρc ∧ whN t (sFg is b) m ρc Sc = some o, fun σn Hn hn => ⟨m, Nat.lt_succ_self m, hn⟩, ?_⟩
      refine sv_fg (is := is) vb e adr1 S1 σc H1 ρc o1 _ I1 e3 ?_
      cases o1 with
      | nx ρ' S' => exact fun adr' σ' H2 I' => ⟨adr', S', ρ', I', e4⟩
      | ct ρ' S' => exact fun adr' σ' H2 I' => ⟨adr', S', ρ', I', e4⟩
      | bk ρ' S' => cases e4; exact w
      | rt d S' => cases e4; exact w
theorem ds_wh {is : List Nat} {t : Expr} {body : List Stmt} {tv : Tv} {b : Sv} (ht : DT c t tv) (hb : DSs c body b) : DS c (.While t body [] pos) (sWh is tv b) := by
  obtain ⟨tt, pt, vt⟩ := ht
  obtain ⟨tb, pb, vb⟩ := hb
  exact ⟨_, fun X hX => ps_while (by rw [hX.xe]; exact PassesOwn.never) (pt X hX) (pb X hX), sv_wh vt vb⟩
end
end DL
namespace DL
open PySem PySem.Spec L2
open PyProof.Rows hiding St
/-! ### defs -/
/-- what of a context a promise leans on -/
def Cxt.c0 (c : Cxt) : Cxt := { c with N := [], sc := { kind := .function, names := [], isGenerator := false, isCoroutine := false }, k := 0, fn := fun _ => false }
/-- a def that is asked with data and gives data -/
def SpP (f : List PyData → Option PyData) : Sp := fun vs H Q _ => ∃ (L : AdP) (ds : List PyData) (d : PyData), (∀ a, L a → Nt H a) ∧ AtL H L vs ds ∧ f ds = some d ∧ ∀ v H', (∀ a o, H a = some o → H' a = some o) → At H' L v d → Q v H'
/-- .. that may change cells -/
def SpG (c : Cxt) (F : List D → Sto → Option (D × Sto)) : Sp := fun vs H Q _ => ∃ (Lf : AdP) (adr : Nat → Addr) (S : Sto) (ds : List D) (d : D) (S' : Sto), StOk c Lf adr S H ∧ DRL c.K H (Lvv Lf adr S) Lf (LvC adr S) adr S.length vs ds ∧ F ds S = some (d, S') ∧
  ∀ v adr' H', Ext adr S H adr' S' H' → StOk c Lf adr' S' H' → DR c.K H' (Lvv Lf adr' S') Lf (LvC adr' S') adr' S'.length v d → Q v H'
/-- an argument in its slot: what the caller owns is only read -/
def inS : D → D
  | .o m => .f m
  | d => d
/-- n parameters, N slots -/
def runG (n N : Nat) (b : Sv) (ds : List D) (S : Sto) : Option (D × Sto) := if ds.length = n then match b (ds.map (fun d => some (inS d)) ++ List.replicate (N - n) none) S with
    | some (.rt d S') => some (d, S')
    | some (.nx _ S') => some (.p .none, S')
    | _ => none
  else none
def runP (n N : Nat) (b : Sv) (ds : List PyData) : Option PyData := match runG n N b (ds.map .p) [] with | some (.p d, _) => some d | _ => none
section
variable {P : Program} {w : World} {K : PySem.W.Frag} {mg : Str → Option Value} {base : Heap}
theorem DRL.length {K : PySem.W.Frag} {H : Hp} {L Lf C : AdP} {adr : Nat → Addr} {n : Nat} : ∀ {vs : List V} {ds : List D}, DRL K H L Lf C adr n vs ds → vs.length = ds.length
  | _, _, .nil => rfl
  | _, _, .cons _ t => congrArg (· + 1) (DRL.length t)
theorem DRL.get {K : PySem.W.Frag} {H : Hp} {L Lf C : AdP} {adr : Nat → Addr} {n : Nat} : ∀ {vs : List V} {ds : List D} {i : Nat} {d : D}, DRL K H L Lf C adr n vs ds → ds[i]? = some d → ∃ v, vs[i]? = some v ∧ DR K H L Lf C adr n v d
  | _, _, _, _, .nil, e => by simp at e
  | _, _, 0, _, .cons r _, e => by simp at e; subst e; exact ⟨_, rfl, r⟩
  | _, _, i + 1, x, .cons _ t, e => by
    obtain ⟨u, h1, h2⟩ := DRL.get (i := i) t (by simpa using e)
    exact ⟨u, by simpa using h1, h2⟩
/-- the state at a def's entry -/
theorem ok_start {c : Cxt} {Lf : AdP} {adr : Nat → Addr} {S : Sto} {H : Hp} {vs : List V} {ds : List D} (s : StOk c Lf adr S H) (r : DRL c.K H (Lvv Lf adr S) Lf (LvC adr S) adr S.length vs ds) (N : List Str) (hN : c.N = N) :
    Ok c ⟨Lf, adr, S, H, H, Lvv Lf adr S⟩ adr S (L2.start N vs) H (ds.map (fun d => some (inS d)) ++ List.replicate (N.length - ds.length) none) := by
  have e1 := r.length
  have slot : ∀ (i : Nat) (d : D), (ds.map (fun d => some (inS d)) ++ List.replicate (N.length - ds.length) none)[i]? = some (some d) → ∃ d', ds[i]? = some d' ∧ d = inS d' ∧ ∃ v, vs[i]? = some v ∧ (L2.start N vs)[i]? = some (some v) ∧ DR c.K H (Lvv Lf adr S) Lf (LvC adr S) adr S.length v d' := by
    intro i d h
    by_cases hi : i < ds.length
    · rw [List.getElem?_append_left (by simpa using hi), List.getElem?_map, List.getElem?_eq_getElem hi] at h
      simp only [Option.map_some, Option.some.injEq] at h
      obtain ⟨v, h1, h2⟩ := r.get (List.getElem?_eq_getElem hi)
      refine ⟨_, List.getElem?_eq_getElem hi, h.symm, v, h1, ?_, h2⟩
      unfold L2.start
      rw [List.getElem?_append_left (by simp; omega), List.getElem?_map, h1]
      rfl
    · rw [List.getElem?_append_right (by simp; omega), List.getElem?_replicate] at h
      split at h <;> cases h
  have noown : ∀ a, ¬ ownA (L2.start N vs) (ds.map (fun d => some (inS d)) ++ List.replicate (N.length - ds.length) none) a := by
    rintro a ⟨i, m, h1, h2⟩
    obtain ⟨d', _, e, _⟩ := slot i _ h1
    cases d' <;> cases e
  have lf : LfN (⟨Lf, adr, S, H, H, Lvv Lf adr S⟩ : En) (L2.start N vs) (ds.map (fun d => some (inS d)) ++ List.replicate (N.length - ds.length) none) = Lf := funext fun a => propext ⟨fun z => z.elim id fun q => (noown a q).elim, .inl⟩
  refine ⟨?_, .refl, fun a z => (noown a z).elim, fun i j m m' a h1 h2 h3 h4 => (noown a ⟨i, m, h1, h3⟩).elim, fun i m a h1 h2 => ?_, s.lf, by rw [lf]; exact .refl⟩
  · rw [lf]
    refine ⟨fun i d h => ?_, s, ?_⟩
    · obtain ⟨d', _, rfl, v, _, h2, r2⟩ := slot i d h
      refine ⟨v, h2, ?_⟩
      cases d' with
      | p d => exact r2
      | c k => exact r2
      | f m => exact r2
      | o m =>
        obtain ⟨a, rfl, l, ob⟩ := r2
        refine ⟨a, rfl, ?_⟩
        have nc : ¬ LvC adr S a := fun z => s.disj a z l
        cases m with
        | list ds => obtain ⟨xs, h, r⟩ := ob; exact ⟨xs, .inl ⟨nc, .inl h⟩, r⟩
        | dict dd =>
          rcases ob with ⟨kvs, h, k, r⟩ | ⟨kvs, h, k, r⟩
          · exact ⟨nc, .inl ⟨kvs, .inl h, k, r⟩⟩
          · exact ⟨nc, .inr ⟨kvs, .inl h, k, r⟩⟩
        | _ => exact ob.elim
    · unfold L2.start
      simp
      omega
  · obtain ⟨d', _, e, v, _, h3, r2⟩ := slot i _ h1
    rw [h3] at h2
    cases h2
    cases d' with
    | p d => cases e
    | c k => cases e
    | o m' =>
      cases e
      obtain ⟨b, e2, l, ob⟩ := r2
      cases e2
      exact .inl ob.some
    | f m' =>
      cases e
      obtain ⟨b, e2, ob⟩ := r2
      cases e2
      cases m with
      | list ds =>
        obtain ⟨xs, h | h, r⟩ := ob
        · exact .inl (rd_some h.2)
        · exact .inr ⟨xs, h, r⟩
      | dict dd =>
        obtain ⟨_, ⟨_, h, _⟩ | ⟨_, h, _⟩⟩ := ob
        · exact .inl (rd_some h)
        · exact .inl (rd_some h)
      | _ => exact ob.elim
/-- the context of a def's body -/
def cxD (P : Program) (w : World) (K : PySem.W.Frag) (mg : Str → Option Value) (base : Heap) (N : List Str) (st : Stmt) (k : Nat) : Cxt := ⟨P, w, K, mg, base, N, defScope st, k, fun _ => true⟩
theorem fn_gen {x qual : Str} {st : Stmt} {f : Addr} {fd : FuncData} {N ps : List Str} {k : Nat} {b : Sv} (F : Fun K x qual st f fd) (S : FnScope N ps (defScope st)) (h : DSs (cxD P w K mg base N st k) (defBody st) b) {c : Cxt} (hK : c.K = K) (hm : c.mg = mg) :
    FnOk P w K mg base CX0 (k + 1) f fd ps (SpG c (runG ps.length N.length b)) := by
  have len : ∀ vs H Q E, SpG c (runG ps.length N.length b) vs H Q E → vs.length = ps.length := by
    rintro vs H Q E ⟨Lf, adr, S, ds, d, S', s, r, e, _⟩
    unfold runG at e
    split at e
    · rename_i hl
      rw [r.length, hl]
    · cases e
  obtain ⟨t, p, v⟩ := h
  refine F.ok S len fun cdv A outer s H vs Q E hr hsp => ?_
  obtain ⟨Lf, adr, S0, ds, d, S', sto, r, e, q⟩ := hsp
  refine ⟨t, p _ ⟨rfl, rfl, rfl, rfl, rfl, rfl, rfl, rfl, rfl, hr, rfl⟩, ?_⟩
  unfold runG at e
  split at e
  · rename_i hl
    have sto' : StOk (cxD P w K mg base N st k) Lf adr S0 H := StOk.cx (c := c) hK.symm hm.symm sto
    have r' : DRL (cxD P w K mg base N st k).K H (Lvv Lf adr S0) Lf (LvC adr S0) adr S0.length vs ds := by
      have : (cxD P w K mg base N st k).K = c.K := hK.symm
      rw [this]; exact r
    have I := ok_start sto' r' N rfl
    rw [hl] at I
    have fin : ∀ (v : V) adr' S1 H', Ext adr S0 H adr' S1 H' → StOk (cxD P w K mg base N st k) Lf adr' S1 H' → ∀ d1, DR (cxD P w K mg base N st k).K H' (Lvv Lf adr' S1) Lf (LvC adr' S1) adr' S1.length v d1 → (d1, S1) = (d, S') → Q v H' := fun v adr' S1 H' x s' d1 r1 e1 => by
      cases e1
      have : (cxD P w K mg base N st k).K = c.K := hK.symm
      rw [this] at r1
      exact q v adr' H' x (StOk.cx (c := cxD P w K mg base N st k) hK hm s') r1
    cases ho : b (ds.map (fun d => some (inS d)) ++ List.replicate (N.length - ps.length) none) S0 with
    | none => rw [ho] at e; cases e
    | some o =>
      rw [ho] at e
      refine v _ adr S0 _ H _ o _ I ho ?_
      cases o with
      | nx ρ' S1 =>
        simp only [Option.some.injEq] at e
        exact fun adr' σ' H' I' => fin .non adr' S1 H' I'.ext I'.eok.sto.ret (.p .none) At.non e
      | rt d1 S1 =>
        simp only [Option.some.injEq] at e
        exact fun v adr' H' x s' _ r1 => fin v adr' S1 H' x s' d1 r1 e
      | bk ρ' S1 => cases e
      | ct ρ' S1 => cases e
  · cases e
theorem drl_p {K : PySem.W.Frag} {H : Hp} {L Lf C : AdP} {adr : Nat → Addr} {n : Nat} : ∀ {vs : List V} {ds : List PyData}, AtL H L vs ds → DRL K H L Lf C adr n vs (ds.map .p)
  | _, _, .nil => .nil
  | _, _, .cons a b => .cons a (drl_p b)
theorem lvv_nil {L : AdP} {adr : Nat → Addr} : Lvv L adr [] = L := funext fun a => propext ⟨fun z => z.elim id fun ⟨k, mo, e, _⟩ => by simp at e, .inl⟩
/-- .. asked with data alone -/
theorem sp_pure {c : Cxt} {n N : Nat} {b : Sv} {vs : List V} {H : Hp} {Q : VK} {E : XK} (h : SpP (runP n N b) vs H Q E) : SpG c (runG n N b) vs H Q E := by
  obtain ⟨L, ds, d, hl, r, e, q⟩ := h
  unfold runP at e
  split at e
  · rename_i d' S' hg
    cases e
    refine ⟨L, fun _ => 0, [], ds.map .p, .p d, S', ⟨fun j k mo mo' h => by simp at h, fun k mo h => by simp at h, fun a ⟨k, mo, h, _⟩ => by simp at h, hl⟩, by rw [lvv_nil]; exact drl_p r, hg, fun v adr' H' x s r1 => ?_⟩
    refine q v H' (fun a o h => x.keep a o h fun ⟨k, mo, z, _⟩ => by simp at z) (At.tr (fun a _ n => ⟨.of fun _ q => q, fun z => n (.inl z)⟩) d r1)
  · cases e
/-- a def that is known: its promise, where it stands -/
structure Kn (c : Cxt) (x : Str) (k : Nat) (sp : Sp) : Prop where
  ex : ∃ fa fd ps, FnOk c.P c.w c.K c.mg c.base CX0 k fa fd ps sp ∧ c.mg x = some (.ref fa) ∧ PySem.W.keepIn c.K (.ref fa) = true ∧ Binds c.K fd ps []
end
section
variable {c : Cxt} {Lf : AdP} {adr : Nat → Addr} {S : Sto} {H : Hp} {σ : L2.St} {ρ : Env'} {pos : Pos} {es : List Expr} {fs : Av}
def eCP (f : List PyData → Option PyData) (fs : Av) : Ev := fun ρ S => (fs ρ S).bind fun p => (pvs p.1).bind fun ds => (f ds).bind fun r => some (.p r, p.2)
def eCG (F : List D → Sto → Option (D × Sto)) (fs : Av) : Ev := fun ρ S => (fs ρ S).bind fun p => F p.1 p.2
theorem ev_cp {f : List PyData → Option PyData} {t : TA} (h : AvOk c t fs) : EvOk c (tCall (SpP f) [] E0 t) (eCP f fs) := fun Lf adr S σ H ρ d S' Q I e w => by
  unfold eCP at e
  simp only [Option.bind_eq_some_iff] at e
  obtain ⟨⟨x, S1⟩, e1, ds, e2, r, e3, e4⟩ := e
  cases e4
  refine h Lf adr S σ H ρ _ _ _ I e1 fun us adr1 H1 x1 s1 r1 => ?_
  rw [List.append_nil]
  exact ⟨_, ds, r, fun a z => s1.lvo z, pvs_ok r1 e2, e3, wi_gr s1 (w.trans x1)⟩
theorem ev_cg {F : List D → Sto → Option (D × Sto)} {t : TA} (h : AvOk c t fs) : EvOk c (tCall (SpG c.c0 F) [] E0 t) (eCG F fs) := fun Lf adr S σ H ρ d S' Q I e w => by
  unfold eCG at e
  obtain ⟨⟨x, S1⟩, e1, e2⟩ := Option.bind_eq_some_iff.mp e
  refine h Lf adr S σ H ρ _ _ _ I e1 fun us adr1 H1 x1 s1 r1 => ?_
  rw [List.append_nil]
  exact ⟨Lf, adr1, S1, x, d, S', StOk.cx (c := c) rfl rfl s1, r1, e2, fun v adr' H' x2 s2 r2 => w v adr' H' (x1.trans x2) (StOk.cx (c := c.c0) rfl rfl s2) r2⟩
theorem de_call {sp : Sp} {k : Nat} {x : Str} {p : Pos} {e : Expr} {f : Ev} (kn : Kn c x k sp) (hk : k ≤ c.k) (hg : c.sc.names.lookup x = some .globalImplicit) (ha : DA c (e :: es) fs) (hv : ∀ t, AvOk c t fs → EvOk c (tCall sp [] E0 t) f)
    (hdb : (x == ("__debug__" : Str)) = false) (hst : noStar (e :: es) = true) : DE c (.Call (.Name x p) (e :: es) [] pos) f := by
  obtain ⟨fa, fd, ps, F, hm, hkp, hb⟩ := kn.ex
  obtain ⟨t, pa, va⟩ := ha
  refine ⟨_, fun X hX => ?_, hv t va⟩
  have F' : FnOk X.prog X.w X.K X.mg X.base CX0 k fa fd ps sp := by rw [hX.prog, hX.w, hX.K, hX.mg, hX.base]; exact F
  exact pe_call F' (hX.room.mono hk) (show Gl X x by show X.env.scope.names.lookup x = _; rw [hX.sc]; exact hg) (by rw [hX.mg]; exact hm) (by rw [hX.K]; exact hkp) (by rw [hX.K]; exact hb) .nil pass0 (pa X hX) hdb (star_cons hst) (star_any (star_tl hst))
theorem de_callP {f : List PyData → Option PyData} {k : Nat} {x : Str} {p : Pos} {e : Expr} (kn : Kn c x k (SpP f)) (hk : k ≤ c.k) (hg : c.sc.names.lookup x = some .globalImplicit) (ha : DA c (e :: es) fs)
    (hdb : (x == ("__debug__" : Str)) = false) (hst : noStar (e :: es) = true) : DE c (.Call (.Name x p) (e :: es) [] pos) (eCP f fs) := de_call kn hk hg ha (fun t va => ev_cp va) hdb hst
theorem de_callG {F : List D → Sto → Option (D × Sto)} {k : Nat} {x : Str} {p : Pos} {e : Expr} (kn : Kn c x k (SpG c.c0 F)) (hk : k ≤ c.k) (hg : c.sc.names.lookup x = some .globalImplicit) (ha : DA c (e :: es) fs)
    (hdb : (x == ("__debug__" : Str)) = false) (hst : noStar (e :: es) = true) : DE c (.Call (.Name x p) (e :: es) [] pos) (eCG F fs) := de_call kn hk hg ha (fun t va => ev_cg va) hdb hst
/-- f() -/
theorem de_call0 {f : List PyData → Option PyData} {k : Nat} {x : Str} {p : Pos} (kn : Kn c x k (SpP f)) (hk : k ≤ c.k) (hg : c.sc.names.lookup x = some .globalImplicit) (hdb : (x == ("__debug__" : Str)) = false) : DE c (.Call (.Name x p) [] [] pos) (eCP f aNil) := by
  obtain ⟨fa, fd, ps, F, hm, hkp, hb⟩ := kn.ex
  obtain ⟨t, pa, va⟩ := (da_nil : DA c [] aNil)
  refine ⟨tCall (SpP f) [] E0 tNil, fun X hX => ?_, ev_cp fun Lf adr S σ H ρ ds S' Q I e w => by cases e; exact w [] adr H .refl I.sto .nil⟩
  have F' : FnOk X.prog X.w X.K X.mg X.base CX0 k fa fd ps (SpP f) := by rw [hX.prog, hX.w, hX.K, hX.mg, hX.base]; exact F
  exact pe_call0 F' (hX.room.mono hk) (show Gl X x by show X.env.scope.names.lookup x = _; rw [hX.sc]; exact hg) (by rw [hX.mg]; exact hm) (by rw [hX.K]; exact hkp) (by rw [hX.K]; exact hb) .nil pass0 hdb
/-- what is known elsewhere -/
theorem Kn.blk {x : Str} {k : Nat} {sp : Sp} {scope : Scope} (h : Kn c x k sp) : Kn (c.blk scope) x k sp := ⟨h.ex⟩

end
end DL
namespace DL
open PySem PySem.Spec L2
open PyProof.Rows hiding St
section
variable {c : Cxt} {e : En} {Lf : AdP} {adr : Nat → Addr} {S : Sto} {H : Hp} {L : AdP} {σ : L2.St} {ρ : Env'} {a b : Expr} {fa fb : Ev} {pos : Pos} {es : List Expr} {fs : Av}
/-! ### isinstance -/
def tyS : PyData → String
  | .none => "NoneType"
  | .bool _ => "bool"
  | .int _ => "int"
  | .str _ => "str"
  | .list _ => "list"
  | .tuple _ => "tuple"
  | .dict _ => "dict"
def isaN (T : String) (d : PyData) : Option PyData := match d with
  | .dict _ => none
  | d => (kitB (tyS d) T).map .bool
theorem vw_ty {K : PySem.W.Frag} {v : V} {d : PyData} (h : Vw K H L v d) (hd : ∀ dd, d ≠ .dict dd) : TyX K H v (.type (tyS d)) := by
  cases h with
  | dat h =>
    cases h with
    | non => exact .base .non
    | bl b => exact .base (.bl b)
    | int i => exact .base (.int i)
    | str i => exact .base (.str i)
    | lst n e r => exact .base (.lst e)
    | tup n e r => exact .base (.tup e)
    | dK _ _ _ _ => exact absurd rfl (hd _)
    | dT _ _ _ _ => exact absurd rfl (hd _)
  | @ob a m h =>
    cases d with
    | list ds =>
      obtain ⟨xs, h | h, r⟩ := h
      · rcases h with h | ⟨o, h⟩
        · exact .base (.lst h)
        · exact .base (.frz h)
      · obtain ⟨o, its, n, q1, q2, _⟩ := h
        exact .kList q1 q2
    | dict dd => exact absurd rfl (hd _)
    | none => exact h.elim
    | bool => exact h.elim
    | int => exact h.elim
    | str => exact h.elim
    | tuple => exact h.elim
def eIsa (T : String) (fa : Ev) : Ev := fun ρ S => (fa ρ S).bind fun p => (vw p.2 p.1).bind fun d => (isaN T d).bind fun r => some (.p r, p.2)
theorem de_isa {T : String} {x y : Str} {p q : Pos} (hx : x = ("isinstance" : Str)) (hg : c.sc.names.lookup x = some .globalImplicit) (hm : c.mg x = none)
    (hg2 : c.sc.names.lookup y = some .globalImplicit) (hm2 : c.mg y = none) (hv : bootBuiltins y = some (.type T)) (ha : DE c a fa) (hn : y ≠ "__name__") (hdb : (y == ("__debug__" : Str)) = false)
    (hst : noStar [a, .Name y q] = true) : DE c (.Call (.Name x p) [a, .Name y q] [] pos) (eIsa T fa) := by
  subst hx
  obtain ⟨ta, pa, va⟩ := ha
  refine ⟨tCB (rIsi c.K) (tCons ta (tCons (tC (.ty T)) tNil)), fun X hX => ?_, fun Lf adr S σ H ρ d S' Q I e w => ?_⟩
  · have h := pe_callB (p := p) (pos := pos) (call_isi (X := X)) (show Gl X "isinstance" by show X.env.scope.names.lookup _ = _; rw [hX.sc]; exact hg) (by rw [hX.mg]; exact hm) PyProof.Rows.boot_isinstance
      (pa_cons (pa X hX) (pa_cons (pe_bltn (pos := q) (v := .ty T) (show Gl X y by show X.env.scope.names.lookup _ = _; rw [hX.sc]; exact hg2) (by rw [hX.mg]; exact hm2) hv rfl hn hdb) pa_nil rfl) (star_cons hst)) (by decide) (by decide) (star_cons hst) (star_any (star_tl hst))
    rw [hX.K] at h
    exact h
  · unfold eIsa at e
    simp only [Option.bind_eq_some_iff] at e
    obtain ⟨⟨x, S1⟩, e1, m, e2, r, e3, e4⟩ := e
    cases e4
    refine va Lf adr S σ H ρ _ _ _ I e1 fun v adr1 H1 x1 s1 r1 => ?_
    have hv := vw_ok s1 r1 e2
    have hd : ∀ dd, m ≠ .dict dd := fun dd z => by subst z; cases e3
    have e5 : ∃ k, kitB (tyS m) T = some k ∧ r = .bool k := by
      unfold isaN at e3
      cases m with
      | dict dd => cases e3
      | _ =>
        obtain ⟨k, q1, q2⟩ := Option.map_eq_some_iff.mp e3
        exact ⟨k, q1, q2.symm⟩
    obtain ⟨k, e6, rfl⟩ := e5
    exact ⟨v, .ty T, _, _, k, rfl, .ty T, vw_ty hv hd, kit_ty e6, w _ adr1 H1 x1 s1 (.bl k)⟩

/-! ### in place -/
theorem iop_addI {X : Cx} : OpR X (inplaceOp .Add) (rD X.K addI) := opEq (opInt0 (g' := fun i j => .int (i + j)) (fun i j H L => .int _) iop_add) fun a b r q => by cases a <;> cases b <;> first | exact q | cases q
theorem iop_subI {X : Cx} : OpR X (inplaceOp .Sub) (rD X.K subD) := opEq (opInt0 (g' := fun i j => .int (i - j)) (fun i j H L => .int _) (fun pins s σ H x y v u Q I rx ry h => by
  obtain ⟨i, j, rfl, rfl, q⟩ := h
  exact ip_sub pins s σ H _ _ v u Q I rx ry ⟨i, j, rfl, rfl, q⟩)) fun a b r q => by cases a <;> cases b <;> first | exact q | cases q

/-! ### fresh lists by operators -/
/-- a list that is not locked, nor the module's -/
def vw1 (S : Sto) : D → Option PyData
  | .p d => some d
  | .o m => some m
  | .f _ => none
  | .c k => match S[k]? with | some (some (.d m)) => some m | _ => none
inductive Vw1 (H : Hp) (L : AdP) : V → PyData → Prop
  | dat {v : V} {d : PyData} : At H L v d → Vw1 H L v d
  | ob {a : Addr} {m : PyData} : Ob H L a m → Vw1 H L (.ref a) m
theorem vw1_ok (s : StOk c Lf adr S H) {v : V} {d : D} {m : PyData} (r : DR c.K H (Lvv Lf adr S) Lf (LvC adr S) adr S.length v d) (e : vw1 S d = some m) : Vw1 H (Lvv Lf adr S) v m := by
  cases d with
  | p d => cases e; exact .dat r
  | o m' => cases e; obtain ⟨a, rfl, _, h⟩ := r; exact .ob h
  | f m' => cases e
  | c k =>
    obtain ⟨rfl, hk⟩ := r
    have e : (match S[k]? with | some (some (.d m)) => some m | _ => none) = some m := e
    split at e
    · rename_i m' hm
      cases e
      exact .ob (s.ob k _ hm)
    · cases e
theorem Vw1.list_inv {v : V} {ds : List PyData} (h : Vw1 H L v (.list ds)) : ∃ a xs, v = .ref a ∧ H a = some (.lst xs) ∧ AtL H L xs ds := by
  cases h with
  | dat h => cases h with | lst n e r => exact ⟨_, _, rfl, e, r⟩
  | ob h => obtain ⟨xs, h, r⟩ := h; exact ⟨_, _, rfl, h, r⟩
theorem Vw1.int_inv {v : V} {i : Int} (h : Vw1 H L v (.int i)) : v = .int i := by
  cases h with
  | dat h => cases h; rfl
  | ob h => exact h.elim
def rDL (op : PyData → PyData → Option (List PyData)) : R2 := fun x y H Q => ∃ (L : AdP) (a b : PyData) (r : List PyData), (∀ z, L z → H z ≠ none) ∧ Vw1 H L x a ∧ Vw1 H L y b ∧ op a b = some r ∧ GrL H L Q r
def lE2 (f : PyData → PyData → Option (List PyData)) (fa fb : Ev) : Lsv := fun ρ S => (fa ρ S).bind fun p => (fb ρ p.2).bind fun q => (vw1 q.2 p.1).bind fun a => (vw1 q.2 q.1).bind fun b => (f a b).bind fun r => some (r, q.2)
theorem dl_op {op : Operator} {f : PyData → PyData → Option (List PyData)} (ho : ∀ X, InC c X → OpR X (binaryOp op) (rDL f)) (ha : DE c a fa) (hb : DE c b fb) : DLs c (.BinOp a op b pos) (lE2 f fa fb) := by
  obtain ⟨ta, pa, va⟩ := ha
  obtain ⟨tb, pb, vb⟩ := hb
  refine ⟨_, fun X hX => pe_op (pos := pos) (ho X hX) (pa X hX) (pb X hX), fun Lf adr S σ H ρ d S' Q I e w => ?_⟩
  unfold lE2 at e
  simp only [Option.bind_eq_some_iff] at e
  obtain ⟨⟨x, S1⟩, e1, ⟨y, S2⟩, e2, m, e3, n, e4, r, e5, e6⟩ := e
  cases e6
  refine va Lf adr S σ H ρ x S1 _ I e1 fun v adr1 H1 x1 s1 r1 => ?_
  refine vb Lf adr1 S1 σ H1 ρ y S2 _ (I.ext x1 s1) e2 fun u adr2 H2 x2 s2 r2 => ?_
  exact ⟨_, m, n, _, fun z => s2.lvv, vw1_ok s2 (r1.ext0 s1 x2) e3, vw1_ok s2 r2 e4, e5, wi_grL s2 (w.trans (x1.trans x2))⟩
def addL (a b : PyData) : Option (List PyData) := match a, b with | .list xs, .list ys => if xs.length + ys.length ≤ sizeLine then some (xs ++ ys) else none | _, _ => none
def mulL (a b : PyData) : Option (List PyData) := match a, b with | .list xs, .int k => if -(2 ^ 63) ≤ k ∧ k < 2 ^ 63 ∧ xs.length * k.toNat ≤ sizeLine then some (List.replicate k.toNat xs).flatten else none | _, _ => none
theorem AtL.rep {xs : List V} {ds : List PyData} (h : AtL H L xs ds) : ∀ n, AtL H L (List.replicate n xs).flatten (List.replicate n ds).flatten
  | 0 => .nil
  | n + 1 => by
    rw [List.replicate_succ, List.replicate_succ, List.flatten_cons, List.flatten_cons]
    exact h.append (AtL.rep h n)
theorem ho_addL {X : Cx} : OpR X (binaryOp .Add) (rDL addL) := by
  intro pins s σ H x y v u Q I rx ry hq
  obtain ⟨L, a, b, r, hl, ha, hb, e, q⟩ := hq
  unfold addL at e
  split at e
  · rename_i ds es
    split at e
    · rename_i hz
      cases e
      obtain ⟨a1, xs, rfl, h1, r1⟩ := ha.list_inv
      obtain ⟨b1, ys, rfl, h2, r2⟩ := hb.list_inv
      have l1 := r1.length
      have l2 := r2.length
      exact op_cat pins s σ H _ _ v u Q I rx ry ⟨a1, b1, xs, ys, rfl, rfl, h1, h2, by omega, fun p hp => q p _ _ hp (upd_grow hp) upd_same (r1.append r2)⟩
    · cases e
  · cases e
theorem ho_mulL {X : Cx} : OpR X (binaryOp .Mult) (rDL mulL) := by
  intro pins s σ H x y v u Q I rx ry hq
  obtain ⟨L, a, b, r, hl, ha, hb, e, q⟩ := hq
  unfold mulL at e
  split at e
  · rename_i ds k
    split at e
    · rename_i hz
      cases e
      obtain ⟨a1, xs, rfl, h1, r1⟩ := ha.list_inv
      have eb := hb.int_inv
      subst eb
      have l1 := r1.length
      exact op_rep pins s σ H _ _ v u Q I rx ry ⟨a1, k, xs, rfl, rfl, h1, hz.1, hz.2.1, by rw [l1]; exact hz.2.2, fun p hp => q p _ _ hp (upd_grow hp) upd_same (r1.rep _)⟩
    · cases e
  · cases e
/-! ### fresh objects -/
abbrev Fsv := Env' → Sto → Option (PyData × Sto)
abbrev WiF (c : Cxt) (Lf : AdP) (adr : Nat → Addr) (S : Sto) (H : Hp) (Q : VK) (m : PyData) (S' : Sto) : Prop :=
  ∀ p adr' H', Ext adr S H adr' S' H' → StOk c (fun a => Lf a ∨ a = p) adr' S' H' → H p = none → Ob H' (Lvv (fun a => Lf a ∨ a = p) adr' S') p m → Q (.ref p) H'
def FvOk (c : Cxt) (t : TE) (f : Fsv) : Prop := ∀ Lf adr S σ H ρ m S' (Q : VK), EOk c Lf adr S σ H ρ → f ρ S = some (m, S') → WiF c Lf adr S H Q m S' → t σ H Q
def DF (c : Cxt) (e : Expr) (f : Fsv) : Prop := ∃ t, (∀ X, InC c X → PE X e t) ∧ FvOk c t f
def fL (f : Lsv) : Fsv := fun ρ S => (f ρ S).bind fun p => some (.list p.1, p.2)
theorem fv_l {t : TE} {f : Lsv} (v : LvOk c t f) : FvOk c t (fL f) := fun Lf adr S σ H ρ m S' Q I e w => by
  unfold fL at e
  obtain ⟨⟨ds, S1⟩, e1, e2⟩ := Option.bind_eq_some_iff.mp e
  cases e2
  exact v Lf adr S σ H ρ ds S1 Q I e1 fun p ws adr' H' x s hp hw r => w p adr' H' x s hp ⟨ws, hw, r⟩
theorem df_l {f : Lsv} (h : DLs c a f) : DF c a (fL f) := let ⟨t, p, v⟩ := h; ⟨t, p, fv_l v⟩
/-- .. as data -/
def eF (f : Fsv) : Ev := fun ρ S => (f ρ S).bind fun p => some (.p p.1, p.2)
theorem ev_f {t : TE} {f : Fsv} (v : FvOk c t f) : EvOk c t (eF f) := fun Lf adr S σ H ρ d S' Q I e w => by
  unfold eF at e
  obtain ⟨⟨m, S1⟩, e1, e2⟩ := Option.bind_eq_some_iff.mp e
  cases e2
  refine v Lf adr S σ H ρ _ _ _ I e1 fun p adr' H' x s n ob => ?_
  have nl : ¬ Lf p := fun z => I.sto.lf p z n
  have nc : ¬ LvC adr' S1 p := fun z => s.disj p z (.inr rfl)
  refine w _ adr' H' x (s.weak fun a z => .inl z) (ob_at (fun z => z.elim nl nc) (ob.tr (fun z h1 h2 => ⟨.of fun o q => q, fun h3 => h2 (h3.imp .inl id)⟩) fun _ q => q))
theorem de_f {f : Fsv} (h : DF c a f) : DE c a (eF f) := let ⟨t, p, v⟩ := h; ⟨t, p, ev_f v⟩
/-- x = a fresh object, owned -/
def sOwnF (i : Nat) (f : Fsv) : Sv := fun ρ S => (f ρ S).bind fun p => if i < ρ.length then some (.nx (ρ.set i (some (.o p.1))) p.2) else none
theorem sv_ownF {i : Nat} {t : TE} {f : Fsv} (v : FvOk c t f) : SvOk c (tAsg t (gName i)) (sOwnF i f) := fun e adr S σ H ρ o D I h w => by
  unfold sOwnF at h
  obtain ⟨⟨m, S1⟩, e1, e2⟩ := Option.bind_eq_some_iff.mp h
  split at e2
  · rename_i hl
    cases e2
    exact v _ adr S σ H ρ m S1 _ I.eok e1 fun p adr' H' x s hp ob => w adr' _ H' (I.own x s hp ob hl)
  · cases e2
theorem ds_ownF {i : Nat} {x : Str} {f : Fsv} {p : Pos} (hN : c.N.Nodup) (hi : c.N[i]? = some x) (hx : Loc c.sc x) (hf : c.fn x = true ∨ c.sc.names.lookup x = some .local) (ha : DF c a f) (hs : ∀ X, InC c X → swapsWith a (some (.Name x p)) pos.line X.env = pure false) :
    DS c (.Assign [.Name x p] a pos) (sOwnF i f) := by
  obtain ⟨ta, pa, va⟩ := ha
  exact ⟨tAsg ta (gName i), fun X hX => ps_set (by rw [hX.N]; exact hN) (by rw [hX.N]; exact hi) (by rw [hX.sc]; exact hx) (pa X hX) (hs X hX) (by rw [hX.fn, hX.sc]; exact hf), sv_ownF va⟩
/-- a new cell -/
theorem Ok.cell {H' : Hp} {adr' : Nat → Addr} {S' : Sto} {i : Nat} {p : Addr} {m : PyData} (I : Ok c e adr S σ H ρ) (x : Ext adr S H adr' S' H') (s : StOk c (fun a => LfN e σ ρ a ∨ a = p) adr' S' H') (hp : H p = none) (ob : Ob H' (Lvv (fun a => LfN e σ ρ a ∨ a = p) adr' S') p m) (hl : i < ρ.length) :
    ∃ adr'', Ok c e adr'' (S' ++ [some (.d m)]) (σ.set i (some (.ref p))) H' (ρ.set i (some (.c S'.length))) := by
  let adr'' : Nat → Addr := fun k => if k = S'.length then p else adr' k
  have ad : ∀ k, k < S'.length → adr'' k = adr' k := fun k h => if_neg (Nat.ne_of_lt h)
  have adl : adr'' S'.length = p := if_pos rfl
  have get : ∀ k mo, (S' ++ [some (.d m)])[k]? = some (some mo) → (k < S'.length ∧ S'[k]? = some (some mo)) ∨ (k = S'.length ∧ mo = .d m) := fun k mo h => by
    by_cases hk : k < S'.length
    · rw [List.getElem?_append_left hk] at h
      exact .inl ⟨hk, h⟩
    · rw [List.getElem?_append_right (by omega)] at h
      have : k - S'.length = 0 := by
        cases q : k - S'.length with
        | zero => rfl
        | succ n => rw [q] at h; simp at h
      rw [this] at h
      simp at h
      exact .inr ⟨by omega, h.symm⟩
  have lv : ∀ a, LvC adr'' (S' ++ [some (.d m)]) a ↔ (LvC adr' S' a ∨ a = p) := fun a => by
    constructor
    · rintro ⟨k, mo, h, rfl⟩
      rcases get k mo h with ⟨hk, h⟩ | ⟨rfl, rfl⟩
      · exact .inl ⟨k, mo, h, (ad k hk).symm⟩
      · exact .inr adl
    · rintro (⟨k, mo, h, rfl⟩ | rfl)
      · have hk : k < S'.length := (List.getElem?_eq_some_iff.mp h).1
        exact ⟨k, mo, by rw [List.getElem?_append_left hk]; exact h, ad k hk⟩
      · exact ⟨S'.length, _, by rw [List.getElem?_append_right (Nat.le_refl _), Nat.sub_self]; rfl, adl⟩
  have nLp : ∀ a, LfN e σ ρ a → a ≠ p := fun a z h => I.eok.sto.lf a z (by rw [h]; exact hp)
  have nCp : ¬ LvC adr' S' p := fun z => s.disj p z (.inr rfl)
  have np' : H' p ≠ none := s.lf p (.inr rfl)
  -- the live: the same
  have lvv : Lvv (LfN e σ ρ) adr'' (S' ++ [some (.d m)]) = Lvv (fun a => LfN e σ ρ a ∨ a = p) adr' S' := funext fun a => propext (by
    show (LfN e σ ρ a ∨ LvC adr'' _ a) ↔ ((LfN e σ ρ a ∨ a = p) ∨ LvC adr' S' a)
    rw [lv a]
    exact ⟨fun z => z.elim (fun q => .inl (.inl q)) fun q => q.elim .inr fun q => .inl (.inr q), fun z => z.elim (fun q => q.imp id .inr) fun q => .inr (.inl q)⟩)
  have sto : StOk c (LfN e σ ρ) adr'' (S' ++ [some (.d m)]) H' := by
    refine ⟨fun j k mo mo' h1 h2 h3 => ?_, fun k mo h => ?_, fun a h1 h2 => ?_, fun a z => s.lfo a (.inl z)⟩
    · rcases get j mo h1 with ⟨hj, h1⟩ | ⟨rfl, rfl⟩
      · rcases get k mo' h2 with ⟨hk, h2⟩ | ⟨rfl, rfl⟩
        · rw [ad j hj, ad k hk] at h3
          exact s.inj j k mo mo' h1 h2 h3
        · rw [ad j hj, adl] at h3
          exact (nCp ⟨j, mo, h1, h3⟩).elim
      · rcases get k mo' h2 with ⟨hk, h2⟩ | ⟨rfl, rfl⟩
        · rw [ad k hk, adl] at h3
          exact (nCp ⟨k, mo', h2, h3.symm⟩).elim
        · rfl
    · rw [lvv]
      rcases get k mo h with ⟨hk, h⟩ | ⟨rfl, rfl⟩
      · rw [ad k hk]
        exact MOb.tr .refl (by rw [List.length_append]; omega) ad (fun o q => q) (s.ob k mo h)
      · rw [adl]
        exact ob
    · rcases (lv a).mp h1 with z | z
      · exact s.disj a z (.inl h2)
      · exact nLp a h2 z
  have x' : Ext adr S H adr'' (S' ++ [some (.d m)]) H' := by
    refine ⟨by rw [List.length_append]; exact Nat.le_trans x.len (Nat.le_add_right _ _), fun k h => by rw [ad k (Nat.lt_of_lt_of_le h x.len)]; exact x.ad k h, x.keep, x.trk, fun a z => ?_⟩
    rcases (lv a).mp z with z | z
    · exact x.live a z
    · rw [z]; exact .inr hp
  refine ⟨adr'', ?_⟩
  have I1 := I.extE x' sto
  refine I1.set i (v := .ref p) (d := .c S'.length) hl ⟨by rw [adl], by rw [List.length_append]; exact Nat.lt_succ_self _⟩ (fun m z => nomatch z) (fun m z => nomatch z)
/-- x = a fresh object, a cell from now on -/
def sCell (i : Nat) (f : Fsv) : Sv := fun ρ S => (f ρ S).bind fun p => if i < ρ.length then some (.nx (ρ.set i (some (.c p.2.length))) (p.2 ++ [some (.d p.1)])) else none
theorem ds_cell {i : Nat} {x : Str} {f : Fsv} {p : Pos} (hN : c.N.Nodup) (hi : c.N[i]? = some x) (hx : Loc c.sc x) (hf : c.fn x = true ∨ c.sc.names.lookup x = some .local) (ha : DF c a f) (hs : ∀ X, InC c X → swapsWith a (some (.Name x p)) pos.line X.env = pure false) :
    DS c (.Assign [.Name x p] a pos) (sCell i f) := by
  obtain ⟨ta, pa, va⟩ := ha
  refine ⟨tAsg ta (gName i), fun X hX => ps_set (by rw [hX.N]; exact hN) (by rw [hX.N]; exact hi) (by rw [hX.sc]; exact hx) (pa X hX) (hs X hX) (by rw [hX.fn, hX.sc]; exact hf), fun e adr S σ H ρ o D I h w => ?_⟩
  unfold sCell at h
  obtain ⟨⟨m, S1⟩, e1, e2⟩ := Option.bind_eq_some_iff.mp h
  split at e2
  · rename_i hl
    cases e2
    refine va _ adr S σ H ρ m S1 _ I.eok e1 fun p adr' H' x s hp ob => ?_
    obtain ⟨adr'', I'⟩ := I.cell x s hp ob hl
    exact w adr'' _ H' I'
  · cases e2
end
end DL
namespace DL
open PySem PySem.Spec L2
open PyProof.Rows hiding St
/-! ### dicts change -/
/-- in its place, or at the end -/
def putD (dd : List (PyData × PyData)) (k v : PyData) : List (PyData × PyData) := if (dd.any fun p => PyData.eqv p.1 k) = true then dd.map (fun p => if PyData.eqv p.1 k = true then (p.1, v) else p) else dd ++ [(k, v)]
theorem put_rel {κ : Type} [DecidableEq κ] {f : κ → PyData} (hf : ∀ a b, PyData.eqv (f a) (f b) = decide (a = b)) {H : Hp} {L : AdP} {v : V} {d : PyData} (k : κ) (r : At H L v d) {kvs : List (κ × V)} {dd : List (PyData × PyData)}
    (e : dd.map (·.1) = kvs.map (fun p => f p.1)) (h : AtL H L (kvs.map (·.2)) (dd.map (·.2))) : (putD dd (f k) d).map (·.1) = (putK kvs k v).map (fun p => f p.1) ∧ AtL H L ((putK kvs k v).map (·.2)) ((putD dd (f k) d).map (·.2)) := by
  have any : ∀ (kvs : List (κ × V)) (dd : List (PyData × PyData)), dd.map (·.1) = kvs.map (fun p => f p.1) → (dd.any fun p => PyData.eqv p.1 (f k)) = (kvs.any fun p => decide (p.1 = k)) := by
    intro kvs
    induction kvs with
    | nil => intro dd e; cases dd with | nil => rfl | cons _ _ => simp at e
    | cons q kvs ih =>
      intro dd e
      cases dd with
      | nil => simp at e
      | cons p dd =>
        simp only [List.map_cons, List.cons.injEq] at e
        rw [List.any_cons, List.any_cons, ih dd e.2, e.1, hf]
  have mp : ∀ (kvs : List (κ × V)) (dd : List (PyData × PyData)), dd.map (·.1) = kvs.map (fun p => f p.1) → AtL H L (kvs.map (·.2)) (dd.map (·.2)) →
      (dd.map (fun p => if PyData.eqv p.1 (f k) = true then (p.1, d) else p)).map (·.1) = (kvs.map (fun kv => if kv.1 = k then (kv.1, v) else kv)).map (fun p => f p.1) ∧
      AtL H L ((kvs.map (fun kv => if kv.1 = k then (kv.1, v) else kv)).map (·.2)) ((dd.map (fun p => if PyData.eqv p.1 (f k) = true then (p.1, d) else p)).map (·.2)) := by
    intro kvs
    induction kvs with
    | nil => intro dd e h; cases dd with | nil => exact ⟨rfl, .nil⟩ | cons _ _ => simp at e
    | cons q kvs ih =>
      intro dd e h
      cases dd with
      | nil => simp at e
      | cons p dd =>
        simp only [List.map_cons, List.cons.injEq] at e
        cases h with
        | cons h1 h2 =>
          obtain ⟨i1, i2⟩ := ih dd e.2 h2
          simp only [List.map_cons]
          rw [e.1, hf]
          by_cases hq : q.1 = k
          · rw [if_pos (decide_eq_true hq), if_pos hq]
            exact ⟨by rw [i1], .cons r i2⟩
          · rw [if_neg (by rw [decide_eq_false hq]; exact Bool.false_ne_true), if_neg hq]
            exact ⟨by rw [i1, e.1], .cons h1 i2⟩
  unfold putD putK
  rw [any kvs dd e]
  split
  · exact mp kvs dd e h
  · exact ⟨by simp [e], by simpa using h.append (.cons r .nil)⟩
def setD (m k v : PyData) : Option PyData := match m with
  | .list ds => match k with | .int i => (ixN ds.length i).map fun j => .list (ds.set j v) | _ => none
  | .dict dd => if keyOk dd k = true ∧ dd.length < sizeLine then some (.dict (putD dd k v)) else none
  | _ => none
section
variable {X : Cx} {pins : List (Addr × Obj)} {σ : L2.St} {H : Hp} {s : Shared} {L : AdP}
theorem mk_emT {a : Addr} (I : Inv X pins σ H s) (e : H a = some (.dK [])) : Inv X pins σ (upd H a (.dT [])) s := by
  obtain ⟨_, hd, vs, rel, o, es, ep, h1, h2⟩ := dk_of I.hok e
  obtain ⟨o', es', ep', g1, g2, g3, g4, g5, g6⟩ := dK_emptyH I (.inl e)
  refine I.write (x := a) (e := a) (t' := s.toks) (h' := s.heap) (by rw [e]; trivial) (.inl rfl) (fun _ _ _ z => z) ⟨_, h1⟩ ⟨Nat.zero_le _, hd, [], .nil, o', es', ep', g1, g2, g3, g4, g6⟩
theorem mk_emK {a : Addr} (I : Inv X pins σ H s) (e : H a = some (.dT [])) : Inv X pins σ (upd H a (.dK [])) s := by
  obtain ⟨_, hd, vs, rel, o, es, ep, h1, h2⟩ := dt_of I.hok e
  refine I.write (x := a) (e := a) (t' := s.toks) (h' := s.heap) (by rw [e]; trivial) (.inl rfl) (fun _ _ _ z => z) ⟨_, h1⟩ ⟨Nat.zero_le _, hd, [], .nil, dT_emptyO I (.inl e)⟩
def rSetD : TSet := fun x y v H Q => ∃ (L : AdP) (p : Addr) (m kd vd m' : PyData), x = .ref p ∧ L p ∧ Ob H L p m ∧ At H L y kd ∧ At H L v vd ∧ setD m kd vd = some m' ∧ ∀ o, Ob (upd H p o) L p m' → Q (upd H p o)
theorem hs_set (hu : X.A.units + 1 < cLine) : PSet X rSetD := by
  intro pins s σ H x y v xv yv u Q I rx ry rv h
  obtain ⟨L, p, m, kd, vd, m', rfl, hL, ob, ak, av, e, q⟩ := h
  cases m with
  | list ds =>
    unfold setD at e
    cases kd with
    | int i =>
      obtain ⟨j, e1, rfl⟩ := Option.map_eq_some_iff.mp e
      obtain ⟨xs, hx, r⟩ := ob
      cases ak
      exact set_list pins s σ H _ _ v xv yv u Q I rx ry rv ⟨p, xs, i, j, rfl, rfl, hx, by rw [r.length]; exact e1, q _ ⟨_, upd_same, (AtL.set av j r).tr (tr_upd hL)⟩⟩
    | _ => cases e
  | dict dd =>
    unfold setD at e
    simp only at e
    split at e
    · rename_i hc
      cases e
      obtain ⟨h3, hz⟩ := hc
      cases rx
      unfold keyOk at h3
      rw [Bool.or_eq_true, Bool.and_eq_true, Bool.and_eq_true] at h3
      rcases ob with ⟨kvs, eH, ks, r⟩ | ⟨kvs, eH, ks, r⟩
      · have hz' : kvs.length < sizeLine := by have := congrArg List.length ks; simp at this; omega
        rcases h3 with ⟨k1, k2⟩ | ⟨k1, k2⟩
        · obtain ⟨key, rfl⟩ := isKK_key k1
          have ey := at_key ak
          obtain ⟨g1, g2⟩ := put_rel eqv_keyD key av ks r
          exact d_setItem hu I (.inl ⟨kvs, key, eH, ey, hz', rfl⟩) ry rv fun s' I' => ⟨_, I', q _ (.inl ⟨_, upd_same, g1, g2.tr (tr_upd hL)⟩)⟩
        · obtain ⟨key, rfl⟩ := isKT_key k1
          have e0 : kvs = [] ∧ dd = [] := by
            cases dd with
            | nil =>
              cases kvs with
              | nil => exact ⟨rfl, rfl⟩
              | cons p q => simp at ks
            | cons p dd =>
              rw [List.all_cons, Bool.and_eq_true] at k2
              cases kvs with
              | nil => simp at ks
              | cons q kvs =>
                simp only [List.map_cons, List.cons.injEq] at ks
                rw [ks.1, kk_not_kt] at k2
                cases k2.1
          obtain ⟨rfl, rfl⟩ := e0
          cases ak with
          | @tup b xs _ nb eb rb =>
            have exs := at_keys rb
            subst exs
            have I2 := mk_emT I eH
            have hbp : b ≠ p := fun z => nb (by rw [z]; exact hL)
            have ks' : ([] : List (PyData × PyData)).map (·.1) = ([] : List (List Key × V)).map (fun p => keyT p.1) := rfl
            obtain ⟨g1, g2⟩ := put_rel (f := keyT) (fun a b => eqv_keyT a b) key av ks' .nil
            refine d_setItem hu I2 (.inr ⟨[], key, b, upd_same, rfl, by rw [upd_ne hbp]; exact eb, hz', rfl⟩) ry rv fun s' I' => ⟨_, I', ?_⟩
            rw [upd_upd]
            exact q _ (.inr ⟨_, upd_same, g1, g2.tr (tr_upd hL)⟩)
      · have hz' : kvs.length < sizeLine := by have := congrArg List.length ks; simp at this; omega
        rcases h3 with ⟨k1, k2⟩ | ⟨k1, k2⟩
        · obtain ⟨key, rfl⟩ := isKK_key k1
          have ey := at_key ak
          have e0 : kvs = [] ∧ dd = [] := by
            cases dd with
            | nil =>
              cases kvs with
              | nil => exact ⟨rfl, rfl⟩
              | cons p q => simp at ks
            | cons p dd =>
              rw [List.all_cons, Bool.and_eq_true] at k2
              cases kvs with
              | nil => simp at ks
              | cons q kvs =>
                simp only [List.map_cons, List.cons.injEq] at ks
                rw [ks.1, kt_not_kk] at k2
                cases k2.1
          obtain ⟨rfl, rfl⟩ := e0
          have I2 := mk_emK I eH
          have ks' : ([] : List (PyData × PyData)).map (·.1) = ([] : List (Key × V)).map (fun p => keyD p.1) := rfl
          obtain ⟨g1, g2⟩ := put_rel eqv_keyD key av ks' .nil
          refine d_setItem hu I2 (.inl ⟨[], key, upd_same, ey, hz', rfl⟩) ry rv fun s' I' => ⟨_, I', ?_⟩
          rw [upd_upd]
          exact q _ (.inl ⟨_, upd_same, g1, g2.tr (tr_upd hL)⟩)
        · obtain ⟨key, rfl⟩ := isKT_key k1
          cases ak with
          | @tup b xs _ nb eb rb =>
            have exs := at_keys rb
            subst exs
            obtain ⟨g1, g2⟩ := put_rel (f := keyT) (fun a b => eqv_keyT a b) key av ks r
            exact d_setItem hu I (.inr ⟨kvs, key, b, eH, rfl, eb, hz', rfl⟩) ry rv fun s' I' => ⟨_, I', q _ (.inr ⟨_, upd_same, g1, g2.tr (tr_upd hL)⟩)⟩
    · cases e
  | none => exact ob.elim
  | bool => exact ob.elim
  | int => exact ob.elim
  | str => exact ob.elim
  | tuple => exact ob.elim
/-- o[i], by values -/
def rGetD : V → V → Hp → VK → Prop := fun x y H Q => ∃ (L : AdP) (p : Addr) (m kd vd : PyData), x = .ref p ∧ (∀ z, L z → H z ≠ none) ∧ Ob H L p m ∧ At H L y kd ∧ ixD m kd = some vd ∧ ∀ w, At H L w vd → Q w H
theorem hg_get (hu : X.A.units + 1 < cLine) : PGet X rGetD := by
  intro pins s σ H x y xv yv Q I rx ry h
  obtain ⟨L, p, m, kd, vd, rfl, hl, ob, ak, e, q⟩ := h
  cases m with
  | list ds =>
    unfold ixD at e
    cases kd with
    | int i =>
      obtain ⟨xs, hx, r⟩ := ob
      cases ak
      obtain ⟨z, e1, e2⟩ := atI_at r e
      cases rx
      obtain ⟨t, rfl⟩ := ry
      obtain ⟨its, rv, pl, hz⟩ := I.list (.of hx)
      obtain ⟨j, h1, h2, h3, h4, h5⟩ := atI_get e1
      obtain ⟨w, ew, rw'⟩ := rv.get h2
      have hl := rv.length
      have hn := line63
      have fin : EP X pins σ Q w s := ⟨z, H, I, rw', q _ e2⟩
      by_cases h0 : 0 ≤ i
      · have hj : i.toNat = j := by
          rw [seqIndex_of h0 h5] at h1
          exact Option.some.inj h1
        exact wpAny_getItem_list (x := w) pl.isList h0 (by omega) (by rw [hj]; simpa using ew) fin
      · have hj : (i + (its.toArray.size : Int)).toNat = j := by
          rw [seqIndex_neg (by omega) h4] at h1
          rw [List.size_toArray, ← hl]
          exact Option.some.inj h1
        exact wpAny_getItem_list_neg (x := w) pl.isList (by omega) (by rw [List.size_toArray] <;> omega) (by omega) (by rw [hj]; simpa using ew) fin
    | _ => cases e
  | dict dd =>
    unfold ixD at e
    simp only at e
    split at e
    · rename_i hc
      cases rx
      obtain ⟨a, e1, g⟩ := dlook (K := X.K) (x := .ref p) (y := y) (.ob (ob.r)) (.dat ak) hc
      cases e1
      rw [e] at g
      cases g with
      | some g a' => exact d_getItem hu I g ry fun w' s' I' r' => ⟨_, H, I', r', q _ a'⟩
    · cases e
  | none => exact ob.elim
  | bool => exact ob.elim
  | int => exact ob.elim
  | str => exact ob.elim
  | tuple => exact ob.elim
end
section
variable {c : Cxt} {e : En} {Lf : AdP} {adr : Nat → Addr} {S : Sto} {H : Hp} {L : AdP} {σ : L2.St} {ρ : Env'} {a b : Expr} {fa fb : Ev} {pos : Pos} {es : List Expr} {fs : Av}
/-- what slot i owns, or its cell: changed by g -/
def chgD (i : Nat) (g : PyData → Option PyData) : Sv := fun ρ S => match ρ[i]? with
  | some (some (.o m)) => (g m).bind fun m' => some (.nx (ρ.set i (some (.o m'))) S)
  | some (some (.c k)) => (match S[k]? with
    | some (some (.d m)) => (g m).bind fun m' => some (.nx ρ (S.set k (some (.d m'))))
    | _ => none)
  | _ => none
theorem Ok.chgd {i : Nat} {g : PyData → Option PyData} {o : Out} {D : Ends} (I : Ok c e adr S σ H ρ) (h : chgD i g ρ S = some o) (w : OutOk c e D o) :
    ∃ p m m', σ[i]? = some (some (.ref p)) ∧ Lvv (LfN e σ ρ) adr S p ∧ Ob H (Lvv (LfN e σ ρ) adr S) p m ∧ g m = some m' ∧ ∀ ob, Ob (L2.upd H p ob) (Lvv (LfN e σ ρ) adr S) p m' → D.nx σ (L2.upd H p ob) := by
  unfold chgD at h
  split at h
  · rename_i m hi
    obtain ⟨m', e1, e2⟩ := Option.bind_eq_some_iff.mp h
    cases e2
    obtain ⟨v, h1, p, rfl, l, ob⟩ := I.eok.slot i _ hi
    exact ⟨p, m, m', h1, .inl l, ob, e1, fun o' ob' => w adr _ _ (I.upd hi h1 ob')⟩
  · rename_i k hi
    split at h
    · rename_i m hk
      obtain ⟨m', e1, e2⟩ := Option.bind_eq_some_iff.mp h
      cases e2
      obtain ⟨v, h1, rfl, hkl⟩ := I.eok.slot i _ hi
      exact ⟨adr k, m, m', h1, .inr ⟨k, _, hk, rfl⟩, I.eok.sto.ob k _ hk, e1, fun o' ob' => w adr _ _ (I.updC hk ob')⟩
    · cases h
  · cases h
/-- x[k] = v -/
def sPut (i : Nat) (fk fv : Ev) : Sv := fun ρ S => (fv ρ S).bind fun p => match p.1 with
  | .p v => if i < ρ.length then (fk ρ p.2).bind fun q => (match q.1 with | .p k => chgD i (fun m => setD m k v) ρ q.2 | _ => none) else none
  | _ => none
theorem ds_put {i : Nat} {x : Str} {p p2 : Pos} {k v : Expr} {fk fv : Ev} (hN : c.N[i]? = some x) (hv : Vis c.sc x) (hd : (x == ("__debug__" : Str)) = false) (hcd : (x == ("__classdict__" : Str)) = false) (hk : DE c k fk) (hva : DE c v fv)
    (hs : ∀ X, InC c X → swapsWithSole [.Subscript (.Name x p) k p2] v pos.line X.env = pure false) (hw : ∀ X, InC c X → swappedStores [.Subscript (.Name x p) k p2] v X.env = pure none)
    (h1 : ∀ X, InC c X → (assignEach [.Subscript (.Name x p) k p2] X.env).map (·.2) = [assign (.Subscript (.Name x p) k p2) X.env])
    (ha : ∀ X, InC c X → ∀ v, assign (.Subscript (.Name x p) k p2) X.env v = (do
      let ov ← holding [v] (eval (.Name x p) X.env)
      let iv ← holding [v, ov] (eval k X.env)
      standAt p2
      holding [v, ov, iv] (setItem ov iv v)
      release [v, ov, iv] [])) : DS c (.Assign [.Subscript (.Name x p) k p2] v pos) (sPut i fk fv) := by
  obtain ⟨tk, pk, vk⟩ := hk
  obtain ⟨tv, pv, vv⟩ := hva
  refine ⟨tAsg tv (gSub (tVar i) tk rSetD), fun X hX => ps_asg (pv X hX) (pg_sub (pe_var (pos := p) (i := i) (by rw [hX.N]; exact hN) (by rw [hX.sc]; exact hv) hd hcd) (pk X hX) (hs_set (by have := hX.un; omega)) (ha X hX)) (hs X hX) (hw X hX) (h1 X hX), fun e adr S σ H ρ o D I h w => ?_⟩
  unfold sPut at h
  obtain ⟨⟨x1, S1⟩, e1, e2⟩ := Option.bind_eq_some_iff.mp h
  cases x1 with
  | p vd =>
    simp only at e2
    split at e2
    · obtain ⟨⟨x2, S2⟩, e3, e4⟩ := Option.bind_eq_some_iff.mp e2
      cases x2 with
      | p kd =>
        simp only at e4
        refine vv _ adr S σ H ρ _ _ _ I.eok e1 fun v1 adr1 H1 x1 s1 r1 => ?_
        have I1 := I.extE x1 s1
        -- the slot is there
        have hsl : ∃ pp, σ[i]? = some (some (.ref pp)) := by
          unfold chgD at e4
          split at e4
          · rename_i m hi
            obtain ⟨v, h1, a, rfl, _⟩ := I.eok.slot i _ hi
            exact ⟨a, h1⟩
          · rename_i k hi
            obtain ⟨v, h1, rfl, _⟩ := I.eok.slot i _ hi
            exact ⟨_, h1⟩
          · cases e4
        obtain ⟨pp, hpp⟩ := hsl
        refine ⟨_, hpp, vk _ adr1 S1 σ H1 ρ _ _ _ I1.eok e3 fun k1 adr2 H2 x2 s2 r2 => ?_⟩
        have I2 := I1.extE x2 s2
        obtain ⟨p', m, m', q1, q2, q3, q4, q5⟩ := I2.chgd e4 w
        rw [hpp] at q1
        cases q1
        exact ⟨_, pp, m, kd, vd, m', rfl, q2, q3, r2, At.tr (x2.tr fun a z => .inl z) vd r1, q4, q5⟩
      | _ => cases e4
    · cases e2
  | _ => cases e2
/-- x[k] op= v -/
def sPutAug (f : PyData → PyData → Option PyData) (i : Nat) (fk fv : Ev) : Sv := fun ρ S => (fk ρ S).bind fun q => match q.1 with
  | .p k => (vw1 q.2 ((ρ[i]?.bind id).getD (.p .none))).bind fun m0 => (ixD m0 k).bind fun old => (fv ρ q.2).bind fun p => (vw p.2 p.1).bind fun v => (f old v).bind fun r => chgD i (fun m => setD m k r) ρ p.2
  | _ => none
theorem ds_putAug {op : Operator} {f : PyData → PyData → Option PyData} (ho : ∀ X, InC c X → OpR X (inplaceOp op) (rD X.K f)) {i : Nat} {x : Str} {p p2 : Pos} {k v : Expr} {fk fv : Ev} (hN : c.N[i]? = some x) (hv : Vis c.sc x) (hd : (x == ("__debug__" : Str)) = false) (hcd : (x == ("__classdict__" : Str)) = false) (hk : DE c k fk) (hva : DE c v fv)
    (ha : ∀ ov iv new, augStore k ov iv new = (do holding [new, ov, iv] (setItem ov iv new); release [new, ov, iv] []; pure .next)) : DS c (.AugAssign (.Subscript (.Name x p) k p2) op v pos) (sPutAug f i fk fv) := by
  obtain ⟨tk, pk, vk⟩ := hk
  obtain ⟨tv, pv, vv⟩ := hva
  refine ⟨tAugS (tVar i) tk tv rGetD (rD c.K f) rSetD, fun X hX => ps_augS (pe_var (pos := p) (i := i) (by rw [hX.N]; exact hN) (by rw [hX.sc]; exact hv) hd hcd) (pk X hX) (hg_get (by have := hX.un; omega)) (pv X hX) (by rw [← hX.K]; exact ho X hX) (hs_set (by have := hX.un; omega)) ha, fun e adr S σ H ρ o D I h w => ?_⟩
  unfold sPutAug at h
  obtain ⟨⟨x1, S1⟩, e1, e2⟩ := Option.bind_eq_some_iff.mp h
  cases x1 with
  | p kd =>
    simp only [Option.bind_eq_some_iff] at e2
    obtain ⟨m0, e3, old, e4, ⟨x2, S2⟩, e5, vd, e6, r, e7, e8⟩ := e2
    have hsl : ∃ d pp, ρ[i]? = some (some d) ∧ σ[i]? = some (some (.ref pp)) ∧ (∀ d1, d ≠ .p d1) := by
      unfold chgD at e8
      split at e8
      · rename_i m hi
        obtain ⟨v, h1, a, rfl, _⟩ := I.eok.slot i _ hi
        exact ⟨_, a, hi, h1, fun d1 z => nomatch z⟩
      · rename_i k hi
        obtain ⟨v, h1, rfl, _⟩ := I.eok.slot i _ hi
        exact ⟨_, _, hi, h1, fun d1 z => nomatch z⟩
      · cases e8
    obtain ⟨d0, pp, hd0, hpp, hnp⟩ := hsl
    refine ⟨_, hpp, vk _ adr S σ H ρ _ _ _ I.eok e1 fun k1 adr1 H1 x1 s1 r1 => ?_⟩
    have I1 := I.extE x1 s1
    rw [hd0] at e3
    obtain ⟨v', h1', r0⟩ := I1.eok.slot i d0 hd0
    rw [hpp] at h1'
    cases h1'
    have w1 := vw1_ok s1 r0 e3
    have ob1 : Ob H1 (Lvv (LfN e σ ρ) adr1 S1) pp m0 := by
      cases d0 with
      | p d1 => exact absurd rfl (hnp d1)
      | f m => cases e3
      | o m => cases e3; obtain ⟨a, e9, _, ob⟩ := r0; cases e9; exact ob
      | c k =>
        obtain ⟨e9, _⟩ := r0
        cases e9
        have e3 : (match S1[k]? with | some (some (.d m)) => some m | _ => none) = some m0 := e3
        split at e3
        · rename_i m' hm
          cases e3
          exact s1.ob k _ hm
        · cases e3
    refine ⟨_, pp, m0, kd, old, rfl, fun z => s1.lvv, ob1, r1, e4, fun w0 a0 => ?_⟩
    refine vv _ adr1 S1 σ H1 ρ _ _ _ I1.eok e5 fun v1 adr2 H2 x2 s2 r2 => ?_
    have I2 := I1.extE x2 s2
    refine ⟨_, old, vd, r, fun z => s2.lvv, .dat (At.tr (x2.tr fun a z => .inl z) old a0), vw_ok s2 r2 e6, e7, fun z H3 k3 a3 => ?_⟩
    have I3 := I2.extE (.grow k3) (grow_ok s2 k3)
    obtain ⟨p', m, m', q1, q2, q3, q4, q5⟩ := I3.chgd e8 w
    rw [hpp] at q1
    cases q1
    exact ⟨_, pp, m, kd, r, m', rfl, q2, q3, At.tr ((x2.trans (.grow k3)).tr fun a z => .inl z) kd r1, a3, q4, q5⟩
  | _ => cases e2
end
end DL
namespace DL
open PySem PySem.Spec L2
open PyProof.Rows hiding St
section
variable {c : Cxt} {e : En} {Lf : AdP} {adr : Nat → Addr} {S : Sto} {H : Hp} {L : AdP} {σ : L2.St} {ρ : Env'} {a b : Expr} {fa fb : Ev} {pos : Pos} {es : List Expr} {fs : Av}
/-! ### dict displays -/
def fEmp : Fsv := fun _ S => some (.dict [], S)
theorem fresh_sto {p : Addr} {o : HO} (s : StOk c Lf adr S H) (hp : H p = none) (ho : ∀ xs, o ≠ .tup xs := by exact fun _ z => nomatch z) : StOk c (fun a => Lf a ∨ a = p) adr S (upd H p o) := s.grow (upd_grow hp) fun z hz => by
  refine ⟨hz.imp id fun q => by rw [q]; exact hp, ?_⟩
  rcases hz with hz | rfl
  · exact (s.lfo z hz).keep (upd_grow hp z)
  · exact ⟨_, upd_same, ho⟩
theorem df_emp : DF c (.Dict [] [] pos) fEmp := ⟨tDNewK, fun X _ => pe_dnewK, fun Lf adr S σ H ρ m S' Q I e w => by
  cases e
  exact fun p hp => w p adr _ (.grow (upd_grow hp)) (fresh_sto I.sto hp) hp (.inl ⟨[], upd_same, rfl, .nil⟩)⟩
abbrev Pv := Env' → Sto → Option (List (PyData × PyData) × Sto)
def PvOk (c : Cxt) (t : List (TE × TE)) (f : Pv) : Prop := ∀ Lf adr S σ H ρ ds S' (Q : List (V × V) → Hp → Prop), EOk c Lf adr S σ H ρ → f ρ S = some (ds, S') →
  (∀ vs adr' H', Ext adr S H adr' S' H' → StOk c Lf adr' S' H' → AtL H' (Lvv Lf adr' S') (vs.map (·.1)) (ds.map (·.1)) → AtL H' (Lvv Lf adr' S') (vs.map (·.2)) (ds.map (·.2)) → Q vs H') → tPairs t σ H Q
def DPs (c : Cxt) (pos : Pos) (ks : List (Option Expr)) (vs : List Expr) (f : Pv) : Prop := ∃ t, (∀ X, InC c X → PPs X pos ks vs t) ∧ PvOk c t f
def pNil : Pv := fun _ S => some ([], S)
def pCons (fk fv : Ev) (r : Pv) : Pv := fun ρ S => (fk ρ S).bind fun p => match p.1 with
  | .p k => (fv ρ p.2).bind fun q => (match q.1 with | .p v => (r ρ q.2).bind fun z => some ((k, v) :: z.1, z.2) | _ => none)
  | _ => none
theorem dps_nil : DPs c pos [] [] pNil := ⟨[], fun X _ => pps_nil, fun Lf adr S σ H ρ ds S' Q I e w => by cases e; exact w [] adr H .refl I.sto .nil .nil⟩
theorem dps_cons {k v : Expr} {ks : List (Option Expr)} {vs : List Expr} {fk fv : Ev} {r : Pv} (hk : DE c k fk) (hv : DE c v fv) (hr : DPs c pos ks vs r) : DPs c pos (some k :: ks) (v :: vs) (pCons fk fv r) := by
  obtain ⟨tk, pk, vk⟩ := hk
  obtain ⟨tv, pv, vv⟩ := hv
  obtain ⟨tr, pr, vr⟩ := hr
  refine ⟨_, fun X hX => pps_cons (pk X hX) (pv X hX) (pr X hX), fun Lf adr S σ H ρ ds S' Q I e w => ?_⟩
  unfold pCons at e
  obtain ⟨⟨x1, S1⟩, e1, e2⟩ := Option.bind_eq_some_iff.mp e
  cases x1 with
  | p kd =>
    obtain ⟨⟨x2, S2⟩, e3, e4⟩ := Option.bind_eq_some_iff.mp e2
    cases x2 with
    | p vd =>
      obtain ⟨⟨z, S3⟩, e5, e6⟩ := Option.bind_eq_some_iff.mp e4
      cases e6
      refine vk Lf adr S σ H ρ _ _ _ I e1 fun v1 adr1 H1 x1 s1 r1 => ?_
      refine vv Lf adr1 S1 σ H1 ρ _ _ _ (I.ext x1 s1) e3 fun v2 adr2 H2 x2 s2 r2 => ?_
      refine vr Lf adr2 S2 σ H2 ρ _ _ _ ((I.ext x1 s1).ext x2 s2) e5 fun vs adr3 H3 x3 s3 r3 r4 => ?_
      exact w _ adr3 H3 (x1.trans (x2.trans x3)) s3 (.cons (At.tr ((x2.trans x3).tr fun a z => .inl z) kd r1) r3) (.cons (At.tr (x3.tr fun a z => .inl z) vd r2) r4)
    | _ => cases e4
  | _ => cases e2
/-- {k: v, ..} -/
def mergeD (ps : List (PyData × PyData)) : List (PyData × PyData) := ps.foldl (fun acc p => putD acc p.1 p.2) []
def fDisp (f : Pv) : Fsv := fun ρ S => (f ρ S).bind fun p => if (p.1.all fun q => isKK q.1) = true ∧ p.1.length ≤ 15 then some (.dict (mergeD p.1), p.2) else none
theorem keys_of : ∀ {vs : List (V × V)} {ds : List (PyData × PyData)}, AtL H L (vs.map (·.1)) (ds.map (·.1)) → AtL H L (vs.map (·.2)) (ds.map (·.2)) → (ds.all fun q => isKK q.1) = true →
    ∃ kvs : List (Key × V), vs = kvs.map (fun kv => (kV kv.1, kv.2)) ∧ ds.map (·.1) = kvs.map (fun p => keyD p.1) ∧ AtL H L (kvs.map (·.2)) (ds.map (·.2))
  | [], [], _, _, _ => ⟨[], rfl, rfl, .nil⟩
  | [], _ :: _, h, _, _ => by cases h
  | _ :: _, [], h, _, _ => by cases h
  | (x, y) :: vs, (k, d) :: ds, h1, h2, h3 => by
    cases h1 with
    | cons a1 b1 =>
      cases h2 with
      | cons a2 b2 =>
        rw [List.all_cons, Bool.and_eq_true] at h3
        obtain ⟨kvs, e1, e2, e3⟩ := keys_of b1 b2 h3.2
        obtain ⟨key, ek⟩ := isKK_key h3.1
        simp only at ek
        subst ek
        have a1 : At H L x (keyD key) := a1
        refine ⟨(key, y) :: kvs, ?_, by simp [e2], .cons a2 e3⟩
        rw [List.map_cons, ← e1, at_key a1]
theorem merge_rel : ∀ {more : List (Key × V)} {ds : List (PyData × PyData)} {kvs : List (Key × V)} {dd : List (PyData × PyData)}, ds.map (·.1) = more.map (fun p => keyD p.1) → AtL H L (more.map (·.2)) (ds.map (·.2)) →
    dd.map (·.1) = kvs.map (fun p => keyD p.1) → AtL H L (kvs.map (·.2)) (dd.map (·.2)) →
    (ds.foldl (fun acc p => putD acc p.1 p.2) dd).map (·.1) = (mergeK kvs more).map (fun p => keyD p.1) ∧ AtL H L ((mergeK kvs more).map (·.2)) ((ds.foldl (fun acc p => putD acc p.1 p.2) dd).map (·.2))
  | [], [], _, _, _, _, h3, h4 => ⟨h3, h4⟩
  | [], _ :: _, _, _, h, _, _, _ => by simp at h
  | _ :: _, [], _, _, h, _, _, _ => by simp at h
  | (k, v) :: more, (kd, d) :: ds, kvs, dd, h1, h2, h3, h4 => by
    simp only [List.map_cons, List.cons.injEq] at h1
    cases h2 with
    | cons a b =>
      obtain ⟨g1, g2⟩ := put_rel eqv_keyD k a h3 h4
      have e : kd = keyD k := h1.1
      rw [List.foldl_cons]
      simp only
      rw [e]
      have r := merge_rel (more := more) h1.2 b g1 g2
      exact r
theorem df_disp {ks : List (Option Expr)} {vs : List Expr} {f : Pv} (h : DPs c pos ks vs f) (hall : ks.all (·.isSome) = true) (hl : ks.length = vs.length) (h0 : ks ≠ []) (h15 : ks.length ≤ 15) : DF c (.Dict ks vs pos) (fDisp f) := by
  obtain ⟨t, p, v⟩ := h
  refine ⟨_, fun X hX => pe_disp (p X hX) hall hl h0 h15, fun Lf adr S σ H ρ m S' Q I e w => ?_⟩
  unfold fDisp at e
  obtain ⟨⟨ds, S1⟩, e1, e2⟩ := Option.bind_eq_some_iff.mp e
  split at e2
  · rename_i hc
    cases e2
    intro p hp
    have x0 : Ext adr S H adr S (upd H p (.dK [])) := .grow (upd_grow hp)
    have s0 := fresh_sto (o := .dK []) I.sto hp
    have hl0 : ∀ a, (Lf a ∨ a = p) → Lf a ∨ H a = none := fun a z => z.imp id fun q => by rw [q]; exact hp
    refine v _ adr S σ _ ρ ds S1 _ (I.ext' x0 s0 hl0 fun a z => .inl z) e1 fun vs adr1 H1 x1 s1 r1 r2 => ?_
    have np : ¬ LvC adr S p := fun z => I.sto.ne z hp
    have hp1 : H1 p = some (.dK []) := x1.keep p _ upd_same np
    obtain ⟨kvs, rfl, k2, k3⟩ := keys_of r1 r2 hc.1
    have hlen : kvs.length ≤ 15 := by have := congrArg List.length k2; simp at this; have := hc.2; simp only at this; omega
    refine ⟨hp1, kvs, rfl, hlen, ?_⟩
    have t2 : Tr H1 (Lvv (fun a => Lf a ∨ a = p) adr1 S1) (upd H1 p (.dK (mergeK [] kvs))) (Lvv (fun a => Lf a ∨ a = p) adr1 S1) := tr_upd (.inl (.inr rfl))
    obtain ⟨g1, g2⟩ := merge_rel (kvs := []) (dd := []) k2 k3 rfl .nil
    have x01 := x0.trans x1
    have x2 : Ext adr S H adr1 S1 (upd H1 p (.dK (mergeK [] kvs))) := by
      refine ⟨x01.len, x01.ad, fun a o q n => ?_, fun a q => ?_, x01.live⟩
      · rw [upd_ne (ne_of_none q hp)]; exact x01.keep a o q n
      · by_cases hh : a = p
        · rw [hh, upd_same]; exact fun z => nomatch z
        · rw [upd_ne hh]; exact x01.trk a q
    refine w p adr1 _ x2 (s1.updO (.inr rfl)) hp (.inl ⟨_, upd_same, g1, g2.tr t2⟩)
  · cases e2

/-! ### a, b = x, y -/
/-- data or cells, one after another -/
def setAll : List Nat → List D → Env' → Option Env'
  | [], [], ρ => some ρ
  | i :: is, .p d :: ds, ρ => if i < ρ.length then setAll is ds (ρ.set i (some (.p d))) else none
  | i :: is, .c k :: ds, ρ => if i < ρ.length then setAll is ds (ρ.set i (some (.c k))) else none
  | _, _, _ => none
def setV : List Nat → List V → L2.St → L2.St
  | i :: is, v :: vs, σ => setV is vs (σ.set i (some v))
  | _, _, σ => σ
theorem DRL.less {K : PySem.W.Frag} {Lf' : AdP} {C : AdP} {n : Nat} (h : ∀ a, Lf' a → Lf a) : ∀ {is : List Nat} {vs : List V} {ds : List D} {ρ ρ' : Env'}, DRL K H (Lvv Lf adr S) Lf C adr n vs ds → DL.setAll is ds ρ = some ρ' → DRL K H (Lvv Lf' adr S) Lf' C adr n vs ds
  | _, _, [], _, _, r, _ => by cases r; exact .nil
  | [], _, d :: ds, _, _, r, e => by cases d <;> cases e
  | i :: is, _, .o m :: ds, _, _, r, e => by cases e
  | i :: is, _, .f m :: ds, _, _, r, e => by cases e
  | i :: is, _, .p d :: ds, ρ, ρ', r, e => by
    unfold DL.setAll at e
    split at e
    · cases r with
      | cons a b => exact .cons (At.tr (tr_less fun x z => z.imp (h x) id) d a) (DRL.less h b e)
    · cases e
  | i :: is, _, .c k :: ds, ρ, ρ', r, e => by
    unfold DL.setAll at e
    split at e
    · cases r with
      | cons a b => exact .cons a (DRL.less h b e)
    · cases e
theorem Ok.setAll : ∀ {is : List Nat} {vs : List V} {ds : List D} {σ : L2.St} {ρ ρ' : Env'}, Ok c e adr S σ H ρ → DRL c.K H (Lvv (LfN e σ ρ) adr S) (LfN e σ ρ) (LvC adr S) adr S.length vs ds → DL.setAll is ds ρ = some ρ' → vs.length = is.length ∧ Ok c e adr S (setV is vs σ) H ρ'
  | [], _, [], σ, ρ, ρ', I, r, h => by cases r; cases h; exact ⟨rfl, I⟩
  | [], _, d :: ds, _, _, _, I, r, h => by cases d <;> cases h
  | i :: is, _, [], σ, ρ, ρ', I, r, h => by cases h
  | i :: is, _, .o m :: ds, σ, ρ, ρ', I, r, h => by cases h
  | i :: is, _, .f m :: ds, σ, ρ, ρ', I, r, h => by cases h
  | i :: is, _, .p d :: ds, σ, ρ, ρ', I, r, h => by
    cases r with
    | @cons v vs _ _ a b =>
      unfold DL.setAll at h
      split at h
      · rename_i hl
        have I1 := I.set i (d := .p d) (v := v) hl a (fun m z => nomatch z) (fun m z => nomatch z)
        have own : ∀ (x : Addr), ownA (σ.set i (some v)) (ρ.set i (some (.p d))) x → ownA σ ρ x := fun x ⟨j, m, h1, h2⟩ => by
          by_cases hj : j = i
          · subst hj
            rw [List.getElem?_set_self hl] at h1
            cases h1
          · rw [List.getElem?_set_ne (Ne.symm hj)] at h1 h2
            exact ⟨j, m, h1, h2⟩
        have b' := b.less (Lf' := LfN e (σ.set i (some v)) _) (fun x (z : e.Lf x ∨ ownA _ _ x) => z.imp id (own x)) h
        obtain ⟨q1, q2⟩ := Ok.setAll I1 b' h
        exact ⟨by rw [List.length_cons, List.length_cons, q1], q2⟩
      · cases h
  | i :: is, _, .c k :: ds, σ, ρ, ρ', I, r, h => by
    cases r with
    | @cons v vs _ _ a b =>
      unfold DL.setAll at h
      split at h
      · rename_i hl
        have I1 := I.set i (d := .c k) (v := v) hl a (fun m z => nomatch z) (fun m z => nomatch z)
        have own : ∀ (x : Addr), ownA (σ.set i (some v)) (ρ.set i (some (.c k))) x → ownA σ ρ x := fun x ⟨j, m, h1, h2⟩ => by
          by_cases hj : j = i
          · subst hj
            rw [List.getElem?_set_self hl] at h1
            cases h1
          · rw [List.getElem?_set_ne (Ne.symm hj)] at h1 h2
            exact ⟨j, m, h1, h2⟩
        have b' := b.less (Lf' := LfN e (σ.set i (some v)) _) (fun x (z : e.Lf x ∨ ownA _ _ x) => z.imp id (own x)) h
        obtain ⟨q1, q2⟩ := Ok.setAll I1 b' h
        exact ⟨by rw [List.length_cons, List.length_cons, q1], q2⟩
      · cases h
def sPar (is : List Nat) (fs : Av) : Sv := fun ρ S => (fs ρ S).bind fun p => (setAll is p.1 ρ).bind fun ρ' => some (.nx ρ' p.2)
variable {px py pz pt : Pos} {x y z : Str} {d3 : Expr} {i j l kt k2 : Nat} {pt2 : Pos}
theorem ds_par (hN : c.N.Nodup) (hi : c.N[i]? = some x) (hj : c.N[j]? = some y) (hij : i ≠ j) (hx : c.sc.names.lookup x = some .local) (hy : c.sc.names.lookup y = some .local) (ha : DA c [a, b] fs)
    (hw : ∀ X, InC c X → swappedStores [.Tuple [.Name x px, .Name y py] kt pt] (.Tuple [a, b] k2 pt2) X.env = pure (some [x, y]))
    (hs : ∀ X, InC c X → swapsWithSole [.Tuple [.Name x px, .Name y py] kt pt] (.Tuple [a, b] k2 pt2) pos.line X.env = pure false) :
    DS c (.Assign [.Tuple [.Name x px, .Name y py] kt pt] (.Tuple [a, b] k2 pt2) pos) (sPar [i, j] fs) := by
  obtain ⟨ta, pa, va⟩ := ha
  refine ⟨tPar i j ta, fun X hX => ps_par hX.calm (by rw [hX.N]; exact hN) (by rw [hX.N]; exact hi) (by rw [hX.N]; exact hj) hij (by rw [hX.sc]; exact hx) (by rw [hX.sc]; exact hy) (pa X hX) (hw X hX) (hs X hX), ?_⟩
  intro e adr S σ H ρ o D I h w
  unfold sPar at h
  obtain ⟨⟨ds, S1⟩, e1, e2⟩ := Option.bind_eq_some_iff.mp h
  obtain ⟨ρ', e3, e4⟩ := Option.bind_eq_some_iff.mp e2
  cases e4
  refine va _ adr S σ H ρ _ _ _ I.eok e1 fun vs adr1 H1 x1 s1 r1 => ?_
  obtain ⟨q1, q2⟩ := (I.extE x1 s1).setAll r1 e3
  match vs, q1, q2 with
  | [v, u], _, q2 => exact ⟨v, u, rfl, w adr1 _ H1 q2⟩
theorem ds_par3 (hN : c.N.Nodup) (hi : c.N[i]? = some x) (hj : c.N[j]? = some y) (hl : c.N[l]? = some z) (hij : i ≠ j) (hil : i ≠ l) (hjl : j ≠ l) (hx : c.sc.names.lookup x = some .local) (hy : c.sc.names.lookup y = some .local) (hz : c.sc.names.lookup z = some .local) (ha : DA c [a, b, d3] fs)
    (hw : ∀ X, InC c X → swappedStores [.Tuple [.Name x px, .Name y py, .Name z pz] kt pt] (.Tuple [a, b, d3] k2 pt2) X.env = pure (some [x, y, z]))
    (hs : ∀ X, InC c X → swapsWithSole [.Tuple [.Name x px, .Name y py, .Name z pz] kt pt] (.Tuple [a, b, d3] k2 pt2) pos.line X.env = pure false) :
    DS c (.Assign [.Tuple [.Name x px, .Name y py, .Name z pz] kt pt] (.Tuple [a, b, d3] k2 pt2) pos) (sPar [i, j, l] fs) := by
  obtain ⟨ta, pa, va⟩ := ha
  refine ⟨tPar3 i j l ta, fun X hX => ps_par3 hX.calm (by rw [hX.N]; exact hN) (by rw [hX.N]; exact hi) (by rw [hX.N]; exact hj) (by rw [hX.N]; exact hl) hij hil hjl (by rw [hX.sc]; exact hx) (by rw [hX.sc]; exact hy) (by rw [hX.sc]; exact hz) (pa X hX) (hw X hX) (hs X hX), ?_⟩
  intro e adr S σ H ρ o D I h w
  unfold sPar at h
  obtain ⟨⟨ds, S1⟩, e1, e2⟩ := Option.bind_eq_some_iff.mp h
  obtain ⟨ρ', e3, e4⟩ := Option.bind_eq_some_iff.mp e2
  cases e4
  refine va _ adr S σ H ρ _ _ _ I.eok e1 fun vs adr1 H1 x1 s1 r1 => ?_
  obtain ⟨q1, q2⟩ := (I.extE x1 s1).setAll r1 e3
  match vs, q1, q2 with
  | [v, u, t], _, q2 => exact ⟨v, u, t, rfl, w adr1 _ H1 q2⟩
end
end DL
namespace DL
open PySem PySem.Spec L2
open PyProof.Rows hiding St
/-! ### a law's defs -/
section
variable {P : Program} {w : World} {K : PySem.W.Frag} {mg : Str → Option Value} {base : Heap}
/-- the context of the module alone -/
abbrev cM (P : Program) (w : World) (K : PySem.W.Frag) (mg : Str → Option Value) (base : Heap) : Cxt := ⟨P, w, K, mg, base, [], { kind := .function, names := [], isGenerator := false, isCoroutine := false }, 0, fun _ => false⟩
/-- a def of the module -/
structure FnIn (K : PySem.W.Frag) (mg : Str → Option Value) (x : Str) (st : Stmt) (ps : List Str) : Prop where
  ex : ∃ fa fd, Fun K x x st fa fd ∧ mg x = some (.ref fa) ∧ ∀ us : List Value, us.length = ps.length → bindArgs fd ⟨us, []⟩ = pure (ps.zip us)
theorem FnIn.mk' {h : Heap} {x : Str} {st : Stmt} {ps : List Str} {f : Addr} {oc : Value} {od an : Option Addr} {osl : Array (Option Value)} {kV doc pm cdv ct : Value} (X : K.In h) (G : h.Ns mainGlobals mg) (a : PySem.W.nsIn K mainGlobals x = some (some (.ref f)))
    (l : K.lookup f = some ⟨oc, od, .func (PySem.W.fnOf x x (defArgs st) (defBody st) (defScope st) .none kV doc pm an cdv ct), osl⟩) (cc : PySem.W.codeIn K cdv x = true) (k : PySem.W.keepIn K (.ref f) = true)
    (hb : ∀ (kV doc pm : Value) (an : Option Addr) (cdv ct : Value) (us : List Value), us.length = ps.length → bindArgs (PySem.W.fnOf x x (defArgs st) (defBody st) (defScope st) .none kV doc pm an cdv ct) ⟨us, []⟩ = pure (ps.zip us)) : FnIn K mg x st ps :=
  ⟨f, _, fun_mk l cc k, PySem.W.mg_of X G a, hb kV doc pm an cdv ct⟩
theorem kn_P {x : Str} {st : Stmt} {N ps : List Str} {k : Nat} {b : Sv} (F : FnIn K mg x st ps) (S : FnScope N ps (defScope st)) (h : DSs (cxD P w K mg base N st k) (defBody st) b) : Kn (cM P w K mg base) x (k + 1) (SpP (runP ps.length N.length b)) := by
  obtain ⟨fa, fd, F, hm, hb⟩ := F.ex
  exact ⟨fa, fd, ps, (fn_gen F S h (c := cM P w K mg base) rfl rfl).imp fun vs H Q E q => sp_pure q, hm, F.kp, .all hb⟩
theorem kn_G {x : Str} {st : Stmt} {N ps : List Str} {k : Nat} {b : Sv} (F : FnIn K mg x st ps) (S : FnScope N ps (defScope st)) (h : DSs (cxD P w K mg base N st k) (defBody st) b) : Kn (cM P w K mg base) x (k + 1) (SpG (cM P w K mg base).c0 (runG ps.length N.length b)) := by
  obtain ⟨fa, fd, F, hm, hb⟩ := F.ex
  exact ⟨fa, fd, ps, fn_gen F S h (c := (cM P w K mg base).c0) rfl rfl, hm, F.kp, .all hb⟩
theorem kn_0 {x : Str} {st : Stmt} {ps : List Str} (F : FnIn K mg x st ps) : Kn (cM P w K mg base) x 0 (SpP fun _ => none) := by
  obtain ⟨fa, fd, F, hm, hb⟩ := F.ex
  exact ⟨fa, fd, ps, ⟨fun vs H Q E h => (by obtain ⟨_, _, _, _, _, h, _⟩ := h; cases h), fun A outer s H args us vs Q E _ _ _ _ h => (by obtain ⟨_, _, _, _, _, h, _⟩ := h; cases h)⟩, hm, F.kp, .all hb⟩
theorem kn_0G {x : Str} {st : Stmt} {ps : List Str} (F : FnIn K mg x st ps) : Kn (cM P w K mg base) x 0 (SpG (cM P w K mg base).c0 fun _ _ => none) := by
  obtain ⟨fa, fd, F, hm, hb⟩ := F.ex
  exact ⟨fa, fd, ps, ⟨fun vs H Q E h => (by obtain ⟨_, _, _, _, _, _, _, _, h, _⟩ := h; cases h), fun A outer s H args us vs Q E _ _ _ _ h => (by obtain ⟨_, _, _, _, _, _, _, _, h, _⟩ := h; cases h)⟩, hm, F.kp, .all hb⟩
theorem kn_0m {x : Str} {st : Stmt} {ps : List Str} (F : FnIn K mg x st ps) (k : Nat) : Kn (cM P w K mg base) x k (SpP fun _ => none) := by
  obtain ⟨fa, fd, ps, G, r⟩ := (kn_0 (P := P) (w := w) (base := base) F).ex
  exact ⟨fa, fd, ps, G.mono (Nat.zero_le k), r⟩
theorem kn_0Gm {x : Str} {st : Stmt} {ps : List Str} (F : FnIn K mg x st ps) (k : Nat) : Kn (cM P w K mg base) x k (SpG (cM P w K mg base).c0 fun _ _ => none) := by
  obtain ⟨fa, fd, ps, G, r⟩ := (kn_0G (P := P) (w := w) (base := base) F).ex
  exact ⟨fa, fd, ps, G.mono (Nat.zero_le k), r⟩
/-- the same def, in a def's context -/
theorem Kn.to {c : Cxt} {x : Str} {k : Nat} {sp : Sp} (h : Kn (cM P w K mg base) x k sp) (h1 : c.P = P) (h2 : c.w = w) (h3 : c.K = K) (h4 : c.mg = mg) (h5 : c.base = base) : Kn c x k sp := by
  subst h1 h2 h3 h4 h5
  exact ⟨h.ex⟩
/-! the law -/
def spLaw (K : PySem.W.Frag) : Sp := fun vs H Q _ => ∃ (a : Addr) (ns : List Int), vs = [.ref a] ∧ SqL K H a (ns.map V.int) ∧ ns.length ≤ 63 ∧ ∀ H', Q (.bl true) H'
def lawOk (F : List D → Sto → Option (D × Sto)) : Prop := ∀ ns : List Int, ns.length ≤ 63 → ∃ S, F [.f (.list (ns.map .int))] [] = some (.p (.bool true), S)
theorem law_sp {c : Cxt} {F : List D → Sto → Option (D × Sto)} (hF : lawOk F) {vs : List V} {H : Hp} {Q : VK} {E : XK} (q : spLaw c.K vs H Q E) : SpG c F vs H Q E := by
  obtain ⟨a, ns, rfl, hS, hl, q⟩ := q
  obtain ⟨S, e⟩ := hF ns hl
  refine ⟨fun _ => False, fun _ => 0, [], [.f (.list (ns.map .int))], .p (.bool true), S, ⟨fun j k mo mo' h => by simp at h, fun k mo h => by simp at h, fun a ⟨k, mo, h, _⟩ => by simp at h, fun a z => z.elim⟩, .cons ⟨a, rfl, ns.map V.int, ?_, AtL.of_ints ns⟩ .nil, e, fun v adr' H' x s r => ?_⟩
  · rcases hS with h | h
    · exact .inl ⟨fun ⟨k, mo, h, _⟩ => by simp at h, h⟩
    · exact .inr h
  · have r : At H' _ v (.bool true) := r
    cases r
    exact q H'
/-- the law's own def, for the head -/
theorem law_mk {fa : Addr} {st : Stmt} {N : List Str} {k : Nat} {b : Sv} (hmg : mg "law" = some (.ref fa)) (F : FnIn K mg "law" st ["script"]) (S : FnScope N ["script"] (defScope st)) (hd : ∀ base, K.In base → base.Ns mainGlobals mg → DSs (cxD P w K mg base N st k) (defBody st) b) (hF : lawOk (runG 1 N.length b)) :
    ∃ fd : FuncData, (∀ (s : Shared) (v : Value), BindsTo s fd ⟨[v], []⟩ [("script", v)]) ∧ ∀ base : Heap, K.In base → base.Ns mainGlobals mg → FnOk P w K mg base CX0 (k + 1) fa fd ["script"] (spLaw K) := by
  obtain ⟨fa', fd, F, hm, hb⟩ := F.ex
  rw [hm] at hmg
  cases hmg
  refine ⟨fd, fun s v => .of_eq (hb [v] rfl), fun base h1 h2 => ?_⟩
  have G : FnOk P w K mg base CX0 (k + 1) fa fd ["script"] (SpG (cM P w K mg base).c0 (runG 1 N.length b)) := fn_gen F S (hd base h1 h2) (c := (cM P w K mg base).c0) rfl rfl
  exact G.imp fun vs H Q E q => law_sp (c := (cM P w K mg base).c0) hF q
end
/-! ### any slice, as data -/
section
variable {c : Cxt} {Lf : AdP} {adr : Nat → Addr} {S : Sto} {H : Hp} {σ : L2.St} {ρ : Env'} {a b d' : Expr} {fa fb fd : Ev} {pos : Pos} {lo hi : Option Expr} {fl fh : Ov} {p2 : Pos}
def cutD (ds : List PyData) (lo hi : Option Int) : List PyData := (ds.drop (HT.sIx ds.length 0 lo)).take (HT.sIx ds.length ds.length hi - HT.sIx ds.length 0 lo)
def sliceX (d : PyData) (lo hi : Option Int) : Option PyData := match d with
  | .tuple ds => some (.tuple (cutD ds lo hi))
  | .list ds => some (.list (cutD ds lo hi))
  | .str z => if z.length ≤ sizeLine then some (.str (cutS z lo hi)) else none
  | _ => none
def eSx (fa : Ev) (fl fh : Ov) : Ev := fun ρ S => (fa ρ S).bind fun p => (fl ρ p.2).bind fun q => (fh ρ q.2).bind fun r => (vw r.2 p.1).bind fun d => (sliceX d q.1 r.1).bind fun z => some (.p z, r.2)
theorem de_sx (ha : DE c a fa) (hl : DO c lo fl) (hh : DO c hi fh) : DE c (.Subscript a (.Slice lo hi none p2) pos) (eSx fa fl fh) := by
  obtain ⟨ta, pa, va⟩ := ha
  obtain ⟨tl, pl, vl⟩ := hl
  obtain ⟨th, ph, vh⟩ := hh
  refine ⟨_, fun X hX => by have h := pe_slice (pos := pos) (p2 := p2) ((sl_tupA.or sl_list).or sl_str) (pa X hX) (pl X hX) (ph X hX); rw [hX.K] at h; exact h, fun Lf adr S σ H ρ d S' Q I e w => ?_⟩
  unfold eSx at e
  simp only [Option.bind_eq_some_iff] at e
  obtain ⟨⟨x, S1⟩, e1, ⟨l, S2⟩, e2, ⟨u, S3⟩, e3, m, e4, z, e5, e6⟩ := e
  cases e6
  refine va Lf adr S σ H ρ _ _ _ I e1 fun v adr1 H1 x1 s1 r1 => ?_
  have I1 := I.ext x1 s1
  refine vl Lf adr1 S1 σ H1 ρ _ _ _ I1 e2 fun adr2 H2 x2 s2 => ?_
  have I2 := I1.ext x2 s2
  refine vh Lf adr2 S2 σ H2 ρ _ _ _ I2 e3 fun adr3 H3 x3 s3 => ?_
  have r := vw_ok s3 (r1.ext0 s1 (x2.trans x3)) e4
  have g := wi_gr s3 (w.trans (x1.trans (x2.trans x3)))
  cases m with
  | tuple ds =>
    cases e5
    obtain ⟨b, xs, rfl, h1, r1'⟩ := r.tuple_inv
    refine .inl (.inl ⟨b, xs, rfl, h1, fun hw => ?_, fun _ p hp => ?_⟩)
    · refine g _ _ (fun _ _ q => q) ?_
      have e : cutD ds l u = ds := by
        unfold cutD
        rw [r1'.length] at hw
        rw [hw.1, hw.2]
        simp
      rw [e]
      exact r.tuple_at
    · exact g _ _ (upd_grow hp) (.newT (fun z => s3.lvv) hp (r1'.cut l u))
  | list ds =>
    cases e5
    obtain ⟨b, xs, rfl, h1, r1'⟩ := r.list_inv
    exact .inl (.inr ⟨b, xs, rfl, h1, fun p hp => g _ _ (upd_grow hp) (.newL (fun z => s3.lvv) hp (r1'.cut l u))⟩)
  | str t =>
    have e5 : (if t.length ≤ sizeLine then some (PyData.str (cutS t l u)) else none) = some z := e5
    split at e5
    · rename_i hz
      cases e5
      cases r.str_inv
      exact .inr ⟨t, rfl, hz, g _ _ (fun _ _ q => q) (.str _)⟩
    · cases e5
  | _ => cases e5
end
end DL
namespace DL
open PySem PySem.Spec L2
open PyProof.Rows hiding St
/-! ### the rules in short -/
section
variable {c : Cxt} {a b d3 : Expr} {fa fb fk fv : Ev} {pos p q p2 cpos apos : Pos} {es : List Expr} {fs : Av} {x y z : Str} {e : Expr}
theorem vr (i : Nat) (hN : c.N[i]? = some x := by rfl) (hv : Vis c.sc x := by first | exact Or.inl rfl | exact Or.inr (Or.inl rfl) | exact Or.inr (Or.inr rfl)) (hd : (x == ("__debug__" : Str)) = false := by decide) (hcd : (x == ("__classdict__" : Str)) = false := by decide) : DE c (.Name x pos) (eVar i) := de_var hN hv hd hcd
theorem rv (i : Nat) (hN : c.N[i]? = some x := by rfl) (hv : Vis c.sc x := by first | exact Or.inl rfl | exact Or.inr (Or.inl rfl) | exact Or.inr (Or.inr rfl)) (hd : (x == ("__debug__" : Str)) = false := by decide) (hcd : (x == ("__classdict__" : Str)) = false := by decide) : DS c (.Return (some (.Name x p)) pos) (sRetV i) := ds_retV hN hv hd hcd
theorem gnm (i : Nat) (hN : c.N.Nodup) (hi : c.N[i]? = some x := by rfl) (hx : Loc c.sc x := by first | exact Or.inl rfl | exact Or.inr rfl) (hf : c.fn x = true ∨ c.sc.names.lookup x = some .local := by first | exact Or.inl rfl | exact Or.inr rfl) : DG c [i] (.Name x pos) (gN i) := dg_name hN hi hx hf
theorem set (i : Nat) (hN : c.N.Nodup) (ha : DE c a fa) (hi : c.N[i]? = some x := by rfl) (hx : Loc c.sc x := by first | exact Or.inl rfl | exact Or.inr rfl) (hf : c.fn x = true ∨ c.sc.names.lookup x = some .local := by first | exact Or.inl rfl | exact Or.inr rfl)
    (hs : ∀ X, InC c X → swapsWith a (some (.Name x p)) pos.line X.env = pure false := by exact fun _ _ => rfl) : DS c (.Assign [.Name x p] a pos) (sAsg fa (gN i)) := ds_set hN hi hx hf ha hs
theorem own (i : Nat) {fl : Lsv} (hN : c.N.Nodup) (ha : DLs c a fl) (hi : c.N[i]? = some x := by rfl) (hx : Loc c.sc x := by first | exact Or.inl rfl | exact Or.inr rfl) (hf : c.fn x = true ∨ c.sc.names.lookup x = some .local := by first | exact Or.inl rfl | exact Or.inr rfl)
    (hs : ∀ X, InC c X → swapsWith a (some (.Name x p)) pos.line X.env = pure false := by exact fun _ _ => rfl) : DS c (.Assign [.Name x p] a pos) (sOwn i fl) := ds_own hN hi hx hf ha hs
theorem ownF (i : Nat) {fl : Fsv} (hN : c.N.Nodup) (ha : DF c a fl) (hi : c.N[i]? = some x := by rfl) (hx : Loc c.sc x := by first | exact Or.inl rfl | exact Or.inr rfl) (hf : c.fn x = true ∨ c.sc.names.lookup x = some .local := by first | exact Or.inl rfl | exact Or.inr rfl)
    (hs : ∀ X, InC c X → swapsWith a (some (.Name x p)) pos.line X.env = pure false := by exact fun _ _ => rfl) : DS c (.Assign [.Name x p] a pos) (sOwnF i fl) := ds_ownF hN hi hx hf ha hs
theorem cell (i : Nat) {fl : Fsv} (hN : c.N.Nodup) (ha : DF c a fl) (hi : c.N[i]? = some x := by rfl) (hx : Loc c.sc x := by first | exact Or.inl rfl | exact Or.inr rfl) (hf : c.fn x = true ∨ c.sc.names.lookup x = some .local := by first | exact Or.inl rfl | exact Or.inr rfl)
    (hs : ∀ X, InC c X → swapsWith a (some (.Name x p)) pos.line X.env = pure false := by exact fun _ _ => rfl) : DS c (.Assign [.Name x p] a pos) (sCell i fl) := ds_cell hN hi hx hf ha hs
theorem aug (i : Nat) {op : Operator} {f : PyData → PyData → Option PyData} (hN : c.N.Nodup) (ho : ∀ X, InC c X → OpR X (inplaceOp op) (rD X.K f)) (ha : DE c a fa) (hi : c.N[i]? = some x := by rfl) (hx : Loc c.sc x := by first | exact Or.inl rfl | exact Or.inr rfl) (hf : c.fn x = true ∨ c.sc.names.lookup x = some .local := by first | exact Or.inl rfl | exact Or.inr rfl) :
    DS c (.AugAssign (.Name x p) op a pos) (sAug f i fa) := ds_aug ho hN hi hx hf ha
theorem paug (i : Nat) {op : Operator} {f : PyData → PyData → Option PyData} (ho : ∀ X, InC c X → OpR X (inplaceOp op) (rD X.K f)) (hk : DE c a fk) (hva : DE c b fv) (hN : c.N[i]? = some x := by rfl) (hv : Vis c.sc x := by first | exact Or.inl rfl | exact Or.inr (Or.inl rfl) | exact Or.inr (Or.inr rfl)) (hd : (x == ("__debug__" : Str)) = false := by decide) (hcd : (x == ("__classdict__" : Str)) = false := by decide)
    (ha : ∀ ov iv new, augStore a ov iv new = (do holding [new, ov, iv] (setItem ov iv new); release [new, ov, iv] []; pure .next) := by exact fun _ _ _ => rfl) : DS c (.AugAssign (.Subscript (.Name x p) a p2) op b pos) (sPutAug f i fk fv) := ds_putAug ho hN hv hd hcd hk hva ha
theorem put (i : Nat) (hk : DE c a fk) (hva : DE c b fv) (hN : c.N[i]? = some x := by rfl) (hv : Vis c.sc x := by first | exact Or.inl rfl | exact Or.inr (Or.inl rfl) | exact Or.inr (Or.inr rfl)) (hd : (x == ("__debug__" : Str)) = false := by decide) (hcd : (x == ("__classdict__" : Str)) = false := by decide)
    (hs : ∀ X, InC c X → swapsWithSole [.Subscript (.Name x p) a p2] b pos.line X.env = pure false := by exact fun _ _ => rfl) (hw : ∀ X, InC c X → swappedStores [.Subscript (.Name x p) a p2] b X.env = pure none := by exact fun _ _ => rfl)
    (h1 : ∀ X, InC c X → (assignEach [.Subscript (.Name x p) a p2] X.env).map (·.2) = [assign (.Subscript (.Name x p) a p2) X.env] := by exact fun _ _ => rfl)
    (ha : ∀ X, InC c X → ∀ v, assign (.Subscript (.Name x p) a p2) X.env v = (do
      let ov ← holding [v] (eval (.Name x p) X.env)
      let iv ← holding [v, ov] (eval a X.env)
      standAt p2
      holding [v, ov, iv] (setItem ov iv v)
      release [v, ov, iv] []) := by exact fun _ _ _ => rfl) : DS c (.Assign [.Subscript (.Name x p) a p2] b pos) (sPut i fk fv) := ds_put hN hv hd hcd hk hva hs hw h1 ha
theorem mutm (i : Nat) {id : String} {name : Str} {hh : PyData → PyData → Option PyData} (slot : Slot "list" name id) (hty : typeOf (.builtin id) = pure (.type "method_descriptor")) (hmt : ∀ X, MtR X id (rMut X.K hh))
    (hm : ∀ m d m', hh m d = some m' → ∃ ds, m = .list ds) (ha : DE c a fa) (hN : c.N[i]? = some x := by rfl) (hv : Vis c.sc x := by first | exact Or.inl rfl | exact Or.inr (Or.inl rfl) | exact Or.inr (Or.inr rfl)) (hd : (x == ("__debug__" : Str)) = false := by decide) (hcd : (x == ("__classdict__" : Str)) = false := by decide) (hst : noStar [a] = true := by rfl)
    (hbase : ∀ X, InC c X → attributeBase (.Name x p) name X.env (eval (.Name x p) X.env) = eval (.Name x p) X.env := by exact fun _ _ => rfl)
    (hfew : ∀ X, InC c X → ((backTo cpos (starEach [a] X.env)).all (fun x => !x.1) && (backToKw cpos (keywordEach [] X.env)).all (fun x => x.1.isSome)
      && decide ([a].length + ([] : List Keyword).length + (if ([] : List Keyword).isEmpty then 0 else 1) < 30)) = true := by exact fun _ _ => rfl)
    (hline : (apos.endLine == cpos.line) = true := by rfl) (hs : ∀ X, InC c X → swapsWith (.Call (.Attribute (.Name x p) name apos) [a] [] cpos) none pos.line X.env = pure false := by exact fun _ _ => rfl) :
    DS c (.Expr (.Call (.Attribute (.Name x p) name apos) [a] [] cpos) pos) (sMut hh i fa) := ds_mut slot hty hmt hm hN hv hd hcd ha hst hbase hfew hline hs
theorem isa (T : String) (hm : c.mg "isinstance" = none) (hm2 : c.mg y = none) (ha : DE c a fa) (hg : c.sc.names.lookup ("isinstance" : Str) = some .globalImplicit := by rfl) (hg2 : c.sc.names.lookup y = some .globalImplicit := by rfl) (hv : bootBuiltins y = some (.type T) := by kernel_rfl) (hn : y ≠ "__name__" := by decide) (hdb : (y == ("__debug__" : Str)) = false := by decide)
    (hst : noStar [a, .Name y q] = true := by rfl) : DE c (.Call (.Name "isinstance" p) [a, .Name y q] [] pos) (eIsa T fa) := de_isa rfl hg hm hg2 hm2 hv ha hn hdb hst
theorem cb {id : String} {f : List PyData → Option PyData} (hc : ∀ X, InC c X → CallR X (.builtin id) (rCD X.K f)) (hm : c.mg x = none) (ha : DA c (e :: es) fs) (hg : c.sc.names.lookup x = some .globalImplicit := by rfl) (hv : bootBuiltins x = some (.builtin id) := by kernel_rfl)
    (hn : x ≠ "__name__" := by decide) (hdb : (x == ("__debug__" : Str)) = false := by decide) (hst : noStar (e :: es) = true := by rfl) : DE c (.Call (.Name x p) (e :: es) [] pos) (eB f fs) := de_callB hc hg hm hv ha hn hdb hst
theorem ct {T : String} {f : List PyData → Option PyData} (hc : ∀ X, InC c X → CallR X (.type T) (rCD X.K f)) (hm : c.mg x = none) (ha : DA c (e :: es) fs) (hg : c.sc.names.lookup x = some .globalImplicit := by rfl) (hv : bootBuiltins x = some (.type T) := by kernel_rfl)
    (hn : x ≠ "__name__" := by decide) (hdb : (x == ("__debug__" : Str)) = false := by decide) (hst : noStar (e :: es) = true := by rfl) : DE c (.Call (.Name x p) (e :: es) [] pos) (eB f fs) := de_callTy hc hg hm hv ha hn hdb hst
theorem lcb {id : String} {f : List PyData → Option (List PyData)} (hc : ∀ X, InC c X → CallR X (.builtin id) (rCL X.K f)) (hm : c.mg x = none) (ha : DA c (e :: es) fs) (hg : c.sc.names.lookup x = some .globalImplicit := by rfl) (hv : bootBuiltins x = some (.builtin id) := by kernel_rfl)
    (hn : x ≠ "__name__" := by decide) (hdb : (x == ("__debug__" : Str)) = false := by decide) (hst : noStar (e :: es) = true := by rfl) : DLs c (.Call (.Name x p) (e :: es) [] pos) (lB f fs) := dl_callB hc hg hm hv ha hn hdb hst
theorem lct {T : String} {f : List PyData → Option (List PyData)} (hc : ∀ X, InC c X → CallR X (.type T) (rCL X.K f)) (hm : c.mg x = none) (ha : DA c (e :: es) fs) (hg : c.sc.names.lookup x = some .globalImplicit := by rfl) (hv : bootBuiltins x = some (.type T) := by kernel_rfl)
    (hn : x ≠ "__name__" := by decide) (hdb : (x == ("__debug__" : Str)) = false := by decide) (hst : noStar (e :: es) = true := by rfl) : DLs c (.Call (.Name x p) (e :: es) [] pos) (lB f fs) := dl_callTy hc hg hm hv ha hn hdb hst
section
variable {P : Program} {w : World} {K : PySem.W.Frag} {mg : Str → Option Value} {base : Heap} {k : Nat}
theorem cpk {f : List PyData → Option PyData} (hk : k ≤ c.k) (kn : Kn (cM P w K mg base) x k (SpP f)) (ha : DA c (e :: es) fs) (h1 : c.P = P := by rfl) (h2 : c.w = w := by rfl) (h3 : c.K = K := by rfl) (h4 : c.mg = mg := by rfl) (h5 : c.base = base := by rfl) (hg : c.sc.names.lookup x = some .globalImplicit := by rfl)
    (hdb : (x == ("__debug__" : Str)) = false := by decide) (hst : noStar (e :: es) = true := by rfl) : DE c (.Call (.Name x p) (e :: es) [] pos) (eCP f fs) := de_callP (kn.to h1 h2 h3 h4 h5) hk hg ha hdb hst
theorem cp0 {f : List PyData → Option PyData} (hk : k ≤ c.k) (kn : Kn (cM P w K mg base) x k (SpP f)) (h1 : c.P = P := by rfl) (h2 : c.w = w := by rfl) (h3 : c.K = K := by rfl) (h4 : c.mg = mg := by rfl) (h5 : c.base = base := by rfl) (hg : c.sc.names.lookup x = some .globalImplicit := by rfl)
    (hdb : (x == ("__debug__" : Str)) = false := by decide) : DE c (.Call (.Name x p) [] [] pos) (eCP f aNil) := de_call0 (kn.to h1 h2 h3 h4 h5) hk hg hdb
theorem cgk {F : List D → Sto → Option (D × Sto)} (hk : k ≤ c.k) (kn : Kn (cM P w K mg base) x k (SpG (cM P w K mg base).c0 F)) (ha : DA c (e :: es) fs) (h1 : c.P = P := by rfl) (h2 : c.w = w := by rfl) (h3 : c.K = K := by rfl) (h4 : c.mg = mg := by rfl) (h5 : c.base = base := by rfl) (hg : c.sc.names.lookup x = some .globalImplicit := by rfl)
    (hdb : (x == ("__debug__" : Str)) = false := by decide) (hst : noStar (e :: es) = true := by rfl) : DE c (.Call (.Name x p) (e :: es) [] pos) (eCG F fs) := by
  subst h1 h2 h3 h4 h5
  exact de_callG ⟨kn.ex⟩ hk hg ha hdb hst
end
variable {g : Gv} {t : Tv} {f : Ev} {it : Lsv} {is : List Nat} {tg iter elt : Expr} {ifs : List Expr} {scope : Scope} {lpos : Pos}
theorem lcomp (hN : c.N.Nodup) {own : List (Str × Nat)} (hi : DI c false tg iter it) (ok : BlkOk c.N c.sc scope own) (hg : DG (c.blk scope) is tg g) (ht : DTs (c.blk scope) ifs t) (he : DE (c.blk scope) elt f)
    (his : ∀ i ∈ is, i ∈ own.map (·.2)) (hs : ∀ X, InC c X → ∀ x, foldedSetIterable iter X.env x = pure x := by exact fun _ _ _ => rfl) : DLs c (.ListComp elt [⟨tg, iter, ifs, 0⟩] scope pos) (lComp (own.map (·.2)) it g t f) := dl_comp hN hi ok hg ht he his hs
theorem lc (i : Nat) (hN : c.N.Nodup) {own : List (Str × Nat)} (hi : DI c false tg iter it) (ok : BlkOk c.N c.sc scope own) (hg : DG (c.blk scope) is tg g) (ht : DTs (c.blk scope) ifs t) (he : DE (c.blk scope) elt f)
    (his : ∀ i ∈ is, i ∈ own.map (·.2)) (hy : c.N[i]? = some y := by rfl) (hyl : c.sc.names.lookup y = some .local := by rfl) (hk : c.sc.kind = .function := by rfl) (hl : (q.line == lpos.line) = true := by rfl)
    (ha : (scope.names.any fun (n, k) => n == y && (k == .local || k == .cell)) = false := by kernel_rfl) (hs : ∀ X, InC c X → ∀ x, foldedSetIterable iter X.env x = pure x := by exact fun _ _ _ => rfl) :
    ∃ tl, (∀ X, InC c X → PS X (.Assign [.Name y q] (.ListComp elt [⟨tg, iter, ifs, 0⟩] scope lpos) pos) (tAsg tl (gName i))) ∧ LvOk c tl (lComp (own.map (·.2)) it g t f) :=
  ds_lc hN hy hyl (fun X hX => sw_true (by rw [hX.sc]; exact hk) (by rw [hX.sc]; exact hyl) hl ha) hi ok hg ht he his hs
variable {px py pz pt pt2 : Pos} {kt k2 : Nat}
def isStar : Expr → Bool
  | .Starred _ _ => true
  | _ => false
theorem no_star : ∀ {es : List Expr}, noStar es = true → es.any isStar = false
  | [], _ => rfl
  | e :: es, h => by
    have h1 : isStar e = false := by cases e <;> first | rfl | (simp [noStar] at h)
    rw [List.any_cons, h1, no_star (star_tl h)]
    rfl
theorem swp2 {env : Env} (hk : env.scope.kind = .function) (hx : env.scope.names.lookup x = some .local) (hy : env.scope.names.lookup y = some .local) (hl : (py.line == px.line) = true) (hne : [x, y].eraseDups.length = 2)
    (hst : noStar [a, b] = true) (hf : [a, b].all (foldedForSure 8) = false) (hc : [a, b].all (constantsAlone 8) = false) : swappedStores [.Tuple [.Name x px, .Name y py] kt pt] (.Tuple [a, b] k2 pt2) env = pure (some [x, y]) := by
  have ky : env.kindOf y = some .local := hy
  have kx : env.kindOf x = some .local := hx
  have hb : env.blockKind = .function := by unfold Env.blockKind; rw [hk]; rfl
  have h1 : (Expr.Name x px).pos.line = px.line := rfl
  unfold swappedStores
  simp only [hb, kx, ky, hf, hc, h1, List.head?_cons, Option.map_some, Option.getD_some, List.filterMap_cons, List.filterMap_nil, hl, beq_self_eq_true, Bool.and_true, if_true, hne, List.length_cons, List.length_nil]
  refine (if_neg (by decide)).trans ((if_neg fun h => ?_).trans rfl)
  have h : [a, b].any isStar = true := h
  rw [no_star hst] at h
  cases h
theorem swp3 {env : Env} (hk : env.scope.kind = .function) (hx : env.scope.names.lookup x = some .local) (hy : env.scope.names.lookup y = some .local) (hz : env.scope.names.lookup z = some .local) (hl : (py.line == px.line) = true) (hl2 : (pz.line == px.line) = true) (hne : [x, y, z].eraseDups.length = 3)
    (hst : noStar [a, b, d3] = true) (hf : [a, b, d3].all (foldedForSure 8) = false) (hc : [a, b, d3].all (constantsAlone 8) = false) : swappedStores [.Tuple [.Name x px, .Name y py, .Name z pz] kt pt] (.Tuple [a, b, d3] k2 pt2) env = pure (some [x, y, z]) := by
  have ky : env.kindOf y = some .local := hy
  have kx : env.kindOf x = some .local := hx
  have kz : env.kindOf z = some .local := hz
  have hb : env.blockKind = .function := by unfold Env.blockKind; rw [hk]; rfl
  have h1 : (Expr.Name x px).pos.line = px.line := rfl
  unfold swappedStores
  simp only [hb, kx, ky, kz, hf, hc, h1, List.head?_cons, Option.map_some, Option.getD_some, List.filterMap_cons, List.filterMap_nil, hl, hl2, beq_self_eq_true, Bool.and_true, if_true, hne, List.length_cons, List.length_nil]
  refine (if_neg (by decide)).trans ((if_neg fun h => ?_).trans rfl)
  have h : [a, b, d3].any isStar = true := h
  rw [no_star hst] at h
  cases h
theorem par2 (i j : Nat) (hN : c.N.Nodup) (ha : DA c [a, b] fs) (hi : c.N[i]? = some x := by rfl) (hj : c.N[j]? = some y := by rfl) (hij : i ≠ j := by decide) (hx : c.sc.names.lookup x = some .local := by rfl) (hy : c.sc.names.lookup y = some .local := by rfl)
    (hk : c.sc.kind = .function := by rfl) (hl : (py.line == px.line) = true := by rfl) (hne : [x, y].eraseDups.length = 2 := by kernel_rfl) (hst : noStar [a, b] = true := by rfl) (hf : [a, b].all (foldedForSure 8) = false := by kernel_rfl) (hc : [a, b].all (constantsAlone 8) = false := by kernel_rfl)
    (hs : ∀ X, InC c X → swapsWithSole [.Tuple [.Name x px, .Name y py] kt pt] (.Tuple [a, b] k2 pt2) pos.line X.env = pure false := by exact fun _ _ => rfl) :
    DS c (.Assign [.Tuple [.Name x px, .Name y py] kt pt] (.Tuple [a, b] k2 pt2) pos) (sPar [i, j] fs) := ds_par hN hi hj hij hx hy ha (fun X hX => swp2 (by rw [hX.sc]; exact hk) (by rw [hX.sc]; exact hx) (by rw [hX.sc]; exact hy) hl hne hst hf hc) hs
theorem par3 (i j l : Nat) (hN : c.N.Nodup) (ha : DA c [a, b, d3] fs) (hi : c.N[i]? = some x := by rfl) (hj : c.N[j]? = some y := by rfl) (hlz : c.N[l]? = some z := by rfl) (hij : i ≠ j := by decide) (hil : i ≠ l := by decide) (hjl : j ≠ l := by decide) (hx : c.sc.names.lookup x = some .local := by rfl) (hy : c.sc.names.lookup y = some .local := by rfl) (hz : c.sc.names.lookup z = some .local := by rfl)
    (hk : c.sc.kind = .function := by rfl) (hl : (py.line == px.line) = true := by rfl) (hl2 : (pz.line == px.line) = true := by rfl) (hne : [x, y, z].eraseDups.length = 3 := by kernel_rfl) (hst : noStar [a, b, d3] = true := by rfl) (hf : [a, b, d3].all (foldedForSure 8) = false := by kernel_rfl) (hc : [a, b, d3].all (constantsAlone 8) = false := by kernel_rfl)
    (hs : ∀ X, InC c X → swapsWithSole [.Tuple [.Name x px, .Name y py, .Name z pz] kt pt] (.Tuple [a, b, d3] k2 pt2) pos.line X.env = pure false := by exact fun _ _ => rfl) :
    DS c (.Assign [.Tuple [.Name x px, .Name y py, .Name z pz] kt pt] (.Tuple [a, b, d3] k2 pt2) pos) (sPar [i, j, l] fs) := ds_par3 hN hi hj hlz hij hil hjl hx hy hz ha (fun X hX => swp3 (by rw [hX.sc]; exact hk) (by rw [hX.sc]; exact hx) (by rw [hX.sc]; exact hy) (by rw [hX.sc]; exact hz) hl hl2 hne hst hf hc) hs
/-- a tuple target's slots hold data -/
def NfG (is : List Nat) (g : Gv) : Prop := ∀ d ρ ρ', g d ρ = some ρ' → ∀ (i : Nat) (m : PyData), ρ'[i]? = some (some (D.f m)) → ρ[i]? = some (some (D.f m)) ∧ i ∉ is
def NfGs (is : List Nat) (g : Gsv) : Prop := ∀ d ρ ρ', g d ρ = some ρ' → ∀ (i : Nat) (m : PyData), ρ'[i]? = some (some (D.f m)) → ρ[i]? = some (some (D.f m)) ∧ i ∉ is
theorem nf_name (i : Nat) : NfG [i] (gN i) := fun d ρ ρ' h j m e => by
  unfold gN at h
  split at h
  · rename_i hl
    cases h
    by_cases hj : j = i
    · subst hj
      rw [List.getElem?_set_self hl] at e
      cases e
    · rw [List.getElem?_set_ne (Ne.symm hj)] at e
      exact ⟨e, by simpa using hj⟩
  · cases h
theorem nfs_nil : NfGs [] gNil := fun d ρ ρ' h i m e => by
  cases d with
  | nil => cases h; exact ⟨e, by simp⟩
  | cons _ _ => cases h
theorem nfs_cons {is js : List Nat} {g : Gv} {gs : Gsv} (hg : NfG is g) (hgs : NfGs js gs) : NfGs (is ++ js) (gCons g gs) := fun d ρ ρ' h i m e => by
  cases d with
  | nil => cases h
  | cons d ds =>
    obtain ⟨ρ1, e1, e2⟩ := Option.bind_eq_some_iff.mp (show (g d ρ).bind (fun ρ1 => gs ds ρ1) = _ from h)
    obtain ⟨q1, q2⟩ := hgs ds ρ1 ρ' e2 i m e
    obtain ⟨q3, q4⟩ := hg d ρ ρ1 e1 i m q1
    exact ⟨q3, fun z => (List.mem_append.mp z).elim q4 q2⟩
theorem nf_tup {is : List Nat} {gs : Gsv} (h : NfGs is gs) : NfG is (gT gs) := fun d ρ ρ' e => by
  cases d with
  | tuple ds => exact h ds ρ ρ' e
  | _ => cases e
theorem NfG.gnf {is : List Nat} {g : Gv} (h : NfG is g) : GNf is g := fun d ρ ρ' e i m q => (h d ρ ρ' e i m q).2
theorem sw_env {tgs : List Expr} {v : Expr} {env env' : Env} (h : env.scope = env'.scope) : swappedStores tgs v env = swappedStores tgs v env' := by
  unfold swappedStores Env.kindOf Env.blockKind
  rw [h]
theorem asg {is : List Nat} {g : Gv} (ha : DE c a fa) (hg : DG c is tg g) (nf : GNf is g) (hw : ∀ env : Env, swappedStores [tg] a { env with scope := c.sc } = pure none := by exact fun _ => rfl) (hs : ∀ X, InC c X → swapsWithSole [tg] a pos.line X.env = pure false := by exact fun _ _ => rfl)
    (h1 : ∀ X, InC c X → (assignEach [tg] X.env).map (·.2) = [assign tg X.env] := by exact fun _ _ => rfl) : DS c (.Assign [tg] a pos) (sAsg fa g) := ds_asg ha hg nf hs (fun X hX => (sw_env (env' := { X.env with scope := c.sc }) hX.sc).trans (hw _)) h1
theorem sws_env {tg : Option Expr} {v : Expr} {l : Nat} {env env' : Env} (h : env.scope = env'.scope) : swapsWith v tg l env = swapsWith v tg l env' := by
  unfold swapsWith Env.kindOf Env.blockKind
  rw [h]
/-- a comprehension to a name that is a cell -/
theorem setX (i : Nat) (hN : c.N.Nodup) (ha : DE c a fa) (hi : c.N[i]? = some x := by rfl) (hx : Loc c.sc x := by first | exact Or.inl rfl | exact Or.inr rfl) (hf : c.fn x = true ∨ c.sc.names.lookup x = some .local := by first | exact Or.inl rfl | exact Or.inr rfl)
    (hs : ∀ env : Env, swapsWith a (some (.Name x p)) pos.line { env with scope := c.sc } = pure false := by exact fun _ => rfl) : DS c (.Assign [.Name x p] a pos) (sAsg fa (gN i)) := ds_set hN hi hx hf ha fun X hX => (sws_env (env' := { X.env with scope := c.sc }) hX.sc).trans (hs _)
theorem ownX (i : Nat) {fl : Lsv} (hN : c.N.Nodup) (ha : DLs c a fl) (hi : c.N[i]? = some x := by rfl) (hx : Loc c.sc x := by first | exact Or.inl rfl | exact Or.inr rfl) (hf : c.fn x = true ∨ c.sc.names.lookup x = some .local := by first | exact Or.inl rfl | exact Or.inr rfl)
    (hs : ∀ env : Env, swapsWith a (some (.Name x p)) pos.line { env with scope := c.sc } = pure false := by exact fun _ => rfl) : DS c (.Assign [.Name x p] a pos) (sOwn i fl) := ds_own hN hi hx hf ha fun X hX => (sws_env (env' := { X.env with scope := c.sc }) hX.sc).trans (hs _)
end
end DL
namespace DL
open PySem PySem.Spec L2
open PyProof.Rows hiding St
/-! ### zip -/
def zipD (xs ys : List PyData) : List PyData := List.zipWith (fun x y => .tuple [x, y]) xs ys
theorem zipD_get {xs ys : List PyData} {i : Nat} {d : PyData} (h : (zipD xs ys)[i]? = some d) : ∃ x y, xs[i]? = some x ∧ ys[i]? = some y ∧ d = .tuple [x, y] := by
  unfold zipD at h
  rw [List.getElem?_zipWith] at h
  split at h
  · rename_i x y h1 h2
    cases h
    exact ⟨x, y, h1, h2, rfl⟩
  · cases h
theorem zipD_len {xs ys : List PyData} : (zipD xs ys).length = min xs.length ys.length := by
  unfold zipD
  simp
section
variable {K : PySem.W.Frag} {H' : Hp} {L' : AdP} {a b : Addr} {xs ys : List V} {ds es : List PyData}
theorem zip_new {H : Hp} {L : AdP} {T : Addr} {x y : V} {d e : PyData} (hn : H T = none) (h1 : At H L x d) (h2 : At H L y e) : (∀ a o, H a = some o → upd H T (.tup [x, y]) a = some o) ∧ ((∀ a, L a → Nt H a) → At (upd H T (.tup [x, y])) L (.ref T) (.tuple [d, e])) :=
  ⟨upd_grow hn, fun hl => .newT (fun a z => (hl a z).ne) hn (.cons h1 (.cons h2 .nil))⟩
theorem now_zipL (h : H' a = some (.lst xs)) (h2 : H' b = some (.lst ys)) (r : AtL H' L' xs ds) (r2 : AtL H' L' ys es) : ItNow H' L' (Itz K a b) (zipD ds es) := by
  refine ⟨fun i d e => ?_, fun i d x H2 e y => ?_, ⟨xs, ys, .of h, .of h2, ?_⟩⟩
  · obtain ⟨u, v, e1, e2, rfl⟩ := zipD_get e
    obtain ⟨x, q1, _⟩ := r.get e1
    obtain ⟨y, q2, _⟩ := r2.get e2
    exact ⟨xs, ys, x, y, .of h, .of h2, q1, q2⟩
  · obtain ⟨u, v, e1, e2, rfl⟩ := zipD_get e
    obtain ⟨T, x1, y1, rfl, hn, rfl, f1, f2⟩ := y
    obtain ⟨x2, q1, a1⟩ := r.get e1
    obtain ⟨y2, q2, a2⟩ := r2.get e2
    have g1 := f1 xs (.of h)
    have g2 := f2 ys (.of h2)
    rw [q1] at g1
    rw [q2] at g2
    cases g1
    cases g2
    exact zip_new hn a1 a2
  · rw [zipD_len, r.length, r2.length]
    omega
theorem now_zipT (h : H' a = some (.tup xs)) (h2 : H' b = some (.tup ys)) (r : AtL H' L' xs ds) (r2 : AtL H' L' ys es) : ItNow H' L' (RZ.ItzT K a b) (zipD ds es) := by
  refine ⟨fun i d e => ?_, fun i d x H2 e y => ?_, ⟨xs, ys, .of h, .of h2, ?_⟩⟩
  · obtain ⟨u, v, e1, e2, rfl⟩ := zipD_get e
    obtain ⟨x, q1, _⟩ := r.get e1
    obtain ⟨y, q2, _⟩ := r2.get e2
    exact ⟨xs, ys, x, y, .of h, .of h2, q1, q2⟩
  · obtain ⟨u, v, e1, e2, rfl⟩ := zipD_get e
    obtain ⟨T, x1, y1, rfl, hn, rfl, f1, f2⟩ := y
    obtain ⟨x2, q1, a1⟩ := r.get e1
    obtain ⟨y2, q2, a2⟩ := r2.get e2
    have g1 := f1 xs (.of h)
    have g2 := f2 ys (.of h2)
    rw [q1] at g1
    rw [q2] at g2
    cases g1
    cases g2
    exact zip_new hn a1 a2
  · rw [zipD_len, r.length, r2.length]
    omega
end
def iZ (fs : Av) : Lsv := fun ρ S => (fs ρ S).bind fun p => match p.1 with
  | [.p (.list ds), .p (.list es)] => if ds.length ≤ sizeLine then some (zipD ds es, p.2) else none
  | [.p (.tuple ds), .p (.tuple es)] => if ds.length ≤ sizeLine then some (zipD ds es, p.2) else none
  | _ => none
section
variable {c : Cxt} {a b : Expr} {fa fb : Ev} {fs : Av} {p pos tpos : Pos} {elts : List Expr} {kk : Nat}
theorem di_zip (hg : c.sc.names.lookup ("zip" : Str) = some .globalImplicit) (hm : c.mg ("zip" : Str) = none) (ha : DA c [a, b] fs) (hst : noStar [a, b] = true) : DI c true (.Tuple elts kk tpos) (.Call (.Name "zip" p) [a, b] [] pos) (iZ fs) := by
  obtain ⟨ta, pa, va⟩ := ha
  refine ⟨_, fun X hX => by have h := RZ.pi_zipA (X := X) (p := p) (pos := pos) (tpos := tpos) (elts := elts) (kk := kk) (by show X.env.scope.names.lookup _ = _; rw [hX.sc]; exact hg) (by rw [hX.mg]; exact hm) (pa X hX) (star_cons hst) (star_any (star_tl hst)); rw [hX.K] at h; exact h, fun Lf adr S σ H ρ ds S' R I e w => ?_⟩
  unfold iZ at e
  obtain ⟨⟨x, S1⟩, e1, e2⟩ := Option.bind_eq_some_iff.mp e
  refine va Lf adr S σ H ρ _ _ _ I e1 fun vs adr1 H1 x1 s1 r1 => ?_
  simp only at e2
  split at e2
  · rename_i ds' es'
    split at e2
    · rename_i hz
      cases e2
      cases r1 with
      | cons q1 rr =>
        cases rr with
        | cons q2 rr =>
          cases rr
          have q1 : At H1 _ _ (.list ds') := q1
          have q2 : At H1 _ _ (.list es') := q2
          cases q1 with
          | lst n1 h1 k1 =>
            cases q2 with
            | lst n2 h2 k2 =>
              refine ⟨_, _, _, _, rfl, .inl ⟨.of h1, .of h2, w _ adr1 H1 x1 s1 (fun H' L' t _ => ?_) (by rw [zipD_len]; omega)⟩⟩
              have t1 := t _ (by rw [h1]; exact fun z => nomatch z) n1
              have t2 := t _ (by rw [h2]; exact fun z => nomatch z) n2
              exact now_zipL (t1.1.1 _ h1) (t2.1.1 _ h2) (k1.tr t) (k2.tr t)
    · cases e2
  · rename_i ds' es'
    split at e2
    · rename_i hz
      cases e2
      cases r1 with
      | cons q1 rr =>
        cases rr with
        | cons q2 rr =>
          cases rr
          have q1 : At H1 _ _ (.tuple ds') := q1
          have q2 : At H1 _ _ (.tuple es') := q2
          cases q1 with
          | tup n1 h1 k1 =>
            cases q2 with
            | tup n2 h2 k2 =>
              refine ⟨_, _, _, _, rfl, .inr ⟨.of h1, .of h2, w _ adr1 H1 x1 s1 (fun H' L' t _ => ?_) (by rw [zipD_len]; omega)⟩⟩
              have t1 := t _ (by rw [h1]; exact fun z => nomatch z) n1
              have t2 := t _ (by rw [h2]; exact fun z => nomatch z) n2
              exact now_zipT (t1.1.2.1 _ h1) (t2.1.2.1 _ h2) (k1.tr t) (k2.tr t)
    · cases e2
  · cases e2
/-! ### range with a step -/
def rngC (lo c : Int) (n : Nat) : List PyData := (List.range n).map fun i => .int (lo + (i : Nat) * c)
theorem now_rngC {H' : Hp} {L' : AdP} {lo cc : Int} {n : Nat} : ItNow H' L' (Itc lo cc n) (rngC lo cc n) := by
  have hl : (rngC lo cc n).length = n := by unfold rngC; simp
  refine ⟨fun i d e => ?_, fun i d x H2 e y => ?_, by rw [hl]; exact Nat.le_refl n⟩
  · have := (List.getElem?_eq_some_iff.mp e).1
    rw [hl] at this
    exact this
  · obtain ⟨rfl, rfl⟩ := y
    have hi := (List.getElem?_eq_some_iff.mp e).1
    rw [hl] at hi
    unfold rngC at e
    rw [List.getElem?_map, List.getElem?_range hi] at e
    cases e
    exact ⟨fun _ _ z => z, fun _ => .int _⟩
/-- range(i, j, -1) -/
def iRm (fs : Av) : Lsv := fun ρ S => (fs ρ S).bind fun p => match p.1 with
  | [.p (.int i), .p (.int j), .p (.int c)] => if c = -1 ∧ -4611686018427387904 ≤ i ∧ i < 4611686018427387904 ∧ -4611686018427387904 ≤ j ∧ j < 4611686018427387904 ∧ (i - j).toNat ≤ 16777216 then some (rngC i (-1) (i - j).toNat, p.2) else none
  | _ => none
theorem di_rm {tg d : Expr} (hg : c.sc.names.lookup ("range" : Str) = some .globalImplicit) (hm : c.mg ("range" : Str) = none) (ha : DA c [a, b, d] fs) (hst : noStar [a, b, d] = true) : DI c true tg (.Call (.Name "range" p) [a, b, d] [] pos) (iRm fs) := by
  obtain ⟨ta, pa, va⟩ := ha
  refine ⟨_, fun X hX => pi_range3 (by show X.env.scope.names.lookup _ = _; rw [hX.sc]; exact hg) (by rw [hX.mg]; exact hm) (pa X hX) (star_cons hst) (star_any (star_tl hst)), fun Lf adr S σ H ρ ds S' R I e w => ?_⟩
  unfold iRm at e
  obtain ⟨⟨x, S1⟩, e1, e2⟩ := Option.bind_eq_some_iff.mp e
  refine va Lf adr S σ H ρ _ _ _ I e1 fun vs adr1 H1 x1 s1 r1 => ?_
  simp only at e2
  split at e2
  · rename_i i j cc
    split at e2
    · rename_i hz
      cases e2
      obtain ⟨rfl, h1, h2, h3, h4, h5⟩ := hz
      cases r1 with
      | cons q1 rr =>
        cases rr with
        | cons q2 rr =>
          cases rr with
          | cons q3 rr =>
            cases rr
            have q1 : At H1 _ _ (.int i) := q1
            have q2 : At H1 _ _ (.int j) := q2
            have q3 : At H1 _ _ (.int (-1)) := q3
            cases q1
            cases q2
            cases q3
            exact ⟨i, j, -1, _, rfl, RgC.neg (by omega) (by omega) (by omega) (by omega), w _ adr1 H1 x1 s1 (fun H' L' t _ => now_rngC) (by rw [sizeLine_eq]; unfold rngC; simp; omega)⟩
    · cases e2
  · cases e2
end
end DL
namespace DL
open PySem PySem.Spec L2
open PyProof.Rows hiding St
/-! ### methods of lists that give a value -/
def rMV (K : PySem.W.Frag) (f : PyData → PyData → Option PyData) : V → List V → Hp → VK → Prop := fun x vs H Q => ∃ (L : AdP) (v : V) (m d r : PyData), (∀ z, L z → H z ≠ none) ∧ vs = [v] ∧ Vw K H L x m ∧ Vw K H L v d ∧ f m d = some r ∧ Gr H L Q r
def countD (m d : PyData) : Option PyData := match m with | .list xs => if xs.all fit = true ∧ fit d = true then some (.int ((xs.countP fun y => PyData.eqv y d : Nat) : Int)) else none | _ => none
section
variable {X : Cx}
theorem hm_count (hu : X.A.units + 100 < cLine) : MtR X "list.count" (rMV X.K countD) := by
  intro pins s σ H x vs v us Q I rx rv h
  obtain ⟨L, y, m, d, r, hl, rfl, hm, hd, e, q⟩ := h
  unfold countD at e
  split at e
  · rename_i ds
    split at e
    · rename_i hc
      cases e
      obtain ⟨p1, p2⟩ := fitL_ok hc.1
      obtain ⟨p3, p4⟩ := fitN_ok 20 d hc.2
      obtain ⟨a, xs, its, rfl, rvs, hl', h2, r2, e1, e2⟩ := hm.isList I
      cases rx
      obtain ⟨u, rfl, ru⟩ := vals1 rv
      obtain ⟨as, ha⟩ := r2.reads I rvs p1
      obtain ⟨bs, hb⟩ := hd.reads I ru p3
      exact PySem.SeqAt.count_list_data hl' (by simpa using ha) hb p1 p3 (by omega) ⟨.int _, H, I.tok _, ⟨_, rfl⟩, q _ _ (fun _ _ z => z) (.int _)⟩
    · cases e
  · cases e
def indexD (m d : PyData) : Option PyData := match m with | .list xs => if xs.all fit = true ∧ fit d = true ∧ xs.length ≤ sizeLine then (PySem.SeqAt.dataPlace xs d).map fun j => .int (j : Nat) else none | _ => none
theorem hm_index (hu : X.A.units + 100 < cLine) : MtR X "list.index" (rMV X.K indexD) := by
  intro pins s σ H x vs v us Q I rx rv h
  obtain ⟨L, y, m, d, r, hl, rfl, hm, hd, e, q⟩ := h
  unfold indexD at e
  split at e
  · rename_i ds
    split at e
    · rename_i hc
      obtain ⟨j, ej, rfl⟩ := Option.map_eq_some_iff.mp e
      obtain ⟨p1, p2⟩ := fitL_ok hc.1
      obtain ⟨p3, p4⟩ := fitN_ok 20 d hc.2.1
      obtain ⟨a, xs, its, rfl, rvs, hl', h2, r2, e1, e2⟩ := hm.isList I
      cases rx
      obtain ⟨u, rfl, ru⟩ := vals1 rv
      obtain ⟨as, ha⟩ := r2.reads I rvs p1
      obtain ⟨bs, hb⟩ := hd.reads I ru p3
      have ha' : ReadsAll s.heap its.toArray.toList ds as := by simpa using ha
      obtain ⟨hj, hit, hno⟩ := PySem.SeqAt.hit_at ha' p1 ej
      obtain ⟨⟨cls, dd, data, sl⟩, ho, hc1, n, hd1⟩ := id hl'
      simp only at hc1 hd1
      subst hc1 hd1
      have hln := PySem.SeqAt.len_at ha'
      have hjz : (j : Int) < 2 ^ 63 - 1 := by have := sizeLine_eq; have := hc.2.2; omega
      exact call_meets PySem.F.slot_list_index ⟨_, ho, rfl⟩ PySem.F.entry_list_index (PySem.F.args_list_index_2 _ _)
        (SeqAt.list_indexAt a its.toArray n dd sl u (fun z => PyData.eqv (SeqAt.readOf s.heap z) d) j hj hjz hit hno) ⟨ho, SeqAt.items_plain ha' hb p1 p3 (by omega), .int _, H, I.tok _, ⟨_, rfl⟩, q _ _ (fun _ _ z => z) (.int _)⟩
    · cases e
  · cases e
end
section
variable {c : Cxt} {o a : Expr} {fo fa : Ev}
def eMeth (f : PyData → PyData → Option PyData) (fo fa : Ev) : Ev := fun ρ S => (fo ρ S).bind fun p => (vw p.2 p.1).bind fun m0 => match m0 with
  | .list _ => (fa ρ p.2).bind fun q => (vw q.2 p.1).bind fun m => (vw q.2 q.1).bind fun d => (f m d).bind fun r => some (.p r, q.2)
  | _ => none
theorem de_meth {id : String} {name : Str} {f : PyData → PyData → Option PyData} {apos cpos : Pos} (slot : Slot "list" name id) (hty : typeOf (.builtin id) = pure (.type "method_descriptor")) (hmt : ∀ X, InC c X → MtR X id (rMV X.K f)) (ho : DE c o fo) (ha : DE c a fa) (hst : noStar [a] = true := by rfl)
    (hbase : ∀ X, InC c X → attributeBase o name X.env (eval o X.env) = eval o X.env := by exact fun _ _ => rfl)
    (hfew : ∀ X, InC c X → ((backTo cpos (starEach [a] X.env)).all (fun x => !x.1) && (backToKw cpos (keywordEach [] X.env)).all (fun x => x.1.isSome)
      && decide ([a].length + ([] : List Keyword).length + (if ([] : List Keyword).isEmpty then 0 else 1) < 30)) = true := by exact fun _ _ => rfl)
    (hline : (apos.endLine == cpos.line) = true := by rfl) : DE c (.Call (.Attribute o name apos) [a] [] cpos) (eMeth f fo fa) := by
  obtain ⟨to, po, vo⟩ := ho
  obtain ⟨ta, pa, va⟩ := ha
  refine ⟨tBM c.K "list" (rMV c.K f) to (tCons ta tNil), fun X hX => by
    have h := pe_bm (cpos := cpos) (apos := apos) PySem.F.plainAttrs_list slot hty (hmt X hX) (po X hX) (pa_cons (pa X hX) pa_nil (star_cons hst)) (hbase X hX) (hfew X hX) hline (star_cons hst) rfl
    rw [hX.K] at h
    exact h, fun Lf adr S σ H ρ d S' Q I e w => ?_⟩
  unfold eMeth at e
  simp only [Option.bind_eq_some_iff] at e
  obtain ⟨⟨x, S1⟩, e1, m0, e2, e3⟩ := e
  cases m0 with
  | list ds0 =>
    simp only [Option.bind_eq_some_iff] at e3
    obtain ⟨⟨y, S2⟩, e4, m, e5, dd, e6, r, e7, e8⟩ := e3
    cases e8
    refine vo Lf adr S σ H ρ x S1 _ I e1 fun v adr1 H1 x1 s1 r1 => ?_
    obtain ⟨b, xs, rfl, hq, _⟩ := (vw_ok s1 r1 e2).list_inv
    refine ⟨.inl ⟨rfl, _, hq⟩, va Lf adr1 S1 σ H1 ρ y S2 _ (I.ext x1 s1) e4 fun u adr2 H2 x2 s2 r2 => ?_⟩
    exact ⟨_, u, m, dd, r, fun z => s2.lvv, rfl, vw_ok s2 (r1.ext0 s1 x2) e5, vw_ok s2 r2 e6, e7, wi_gr s2 (w.trans (x1.trans x2))⟩
  | _ => cases e3
end
end DL
namespace DL
open PySem PySem.Spec L2
open PyProof.Rows hiding St
/-! ### plain walking: what an option gives -/
def W {α : Type} (o : Option α) (Q : α → Prop) : Prop := ∃ x, o = some x ∧ Q x
theorem W_congr {α : Type} {o o' : Option α} {Q : α → Prop} (h : o = o') : W o Q = W o' Q := by rw [h]
@[simp ↓] theorem W_some {α : Type} {x : α} {Q : α → Prop} : W (some x) Q = Q x := propext ⟨fun ⟨_, e, q⟩ => by cases e; exact q, fun q => ⟨x, rfl, q⟩⟩
@[simp ↓] theorem W_none {α : Type} {Q : α → Prop} : W none Q = False := propext ⟨fun ⟨_, e, _⟩ => (by cases e), False.elim⟩
theorem W_bind {α β : Type} {o : Option α} {f : α → Option β} {Q : β → Prop} : W (o.bind f) Q = W o fun x => W (f x) Q := propext (by
  cases o with
  | none => simp [W]
  | some x => simp [W])
theorem W_ite {α : Type} {c : Prop} [Decidable c] {a b : Option α} {Q : α → Prop} : W (if c then a else b) Q = (if c then W a Q else W b Q) := by split <;> rfl
theorem W_map {α β : Type} {o : Option α} {f : α → β} {Q : β → Prop} : W (o.map f) Q = W o fun x => Q (f x) := by
  cases o <;> simp [W_some, W_none]
theorem W_req {α : Type} {c : Prop} [Decidable c] {x : α} {Q : α → Prop} : W (if c then some x else none) Q = (c ∧ Q x) := by
  rw [W_ite, W_some, W_none]
  split <;> simp [*]
theorem W.mono {α : Type} {o : Option α} {Q Q' : α → Prop} (h : W o Q) (k : ∀ x, Q x → Q' x) : W o Q' := let ⟨x, e, q⟩ := h; ⟨x, e, k x q⟩
theorem W.eq {α : Type} {o : Option α} {Q : α → Prop} {x : α} (e : o = some x) (q : Q x) : W o Q := ⟨x, e, q⟩
theorem W_out {α : Type} {o : Option α} {x : α} (h : W o fun y => y = x) : o = some x := let ⟨_, e, q⟩ := h; q ▸ e
section
variable {ρ : Env'} {S : Sto} {fa fb fc : Ev} {fs : Av} {t u : Tv} {i : Nat} {d : PyData} {f g : Sv}
abbrev QE := D × Sto → Prop
variable {Q : QE} {QT : Bool × Sto → Prop} {QA : List D × Sto → Prop} {QL : List PyData × Sto → Prop} {QF : PyData × Sto → Prop} {QS : Out → Prop} {QR : Env' → Prop}
/-- a slot's content -/
def sl (ρ : Env') (i : Nat) : Option D := ρ[i]?.bind id
@[simp ↓] theorem w_var : W (eVar i ρ S) Q = W (sl ρ i) fun d => Q (d, S) := by
  unfold eVar sl
  rcases h : ρ[i]? with _ | (_ | d) <;> simp [W_none, W_some]
@[simp ↓] theorem w_c : W (eC d ρ S) Q = Q (.p d, S) := W_some
@[simp ↓] theorem w_e2 {op : PyData → PyData → Option PyData} : W (e2 op fa fb ρ S) Q = W (fa ρ S) fun p => W (fb ρ p.2) fun q => W (vw q.2 p.1) fun a => W (vw q.2 q.1) fun b => W (op a b) fun r => Q (.p r, q.2) := by
  unfold e2
  simp only [W_bind, W_some]
@[simp ↓] theorem w_e3 {op op' : PyData → PyData → Option PyData} : W (e3 op op' fa fb fc ρ S) Q = W (fa ρ S) fun p => W (fb ρ p.2) fun q => W (vw q.2 p.1) fun a => W (vw q.2 q.1) fun b => W (op a b) fun r =>
    match r with
    | .bool k => if k = true then W (fc ρ q.2) fun w => W (vw w.2 q.1) fun b' => W (vw w.2 w.1) fun c => W (op' b' c) fun r => Q (.p r, w.2) else Q (.p (.bool false), q.2)
    | _ => False := by
  unfold e3
  simp only [W_bind]
  congr; funext p; congr; funext q; congr; funext a; congr; funext b; congr; funext r
  cases r with
  | bool k => simp only [W_ite, W_bind, W_some]
  | _ => exact W_none
@[simp ↓] theorem w_not : W (eNot fa ρ S) Q = W (fa ρ S) fun p => match p.1 with | .p (.bool b) => Q (.p (.bool (!b)), p.2) | _ => False := by
  unfold eNot
  simp only [W_bind]
  congr; funext p
  obtain ⟨x, S1⟩ := p
  cases x <;> first | exact W_none | (rename_i d; cases d <;> first | exact W_none | exact W_some)
@[simp ↓] theorem w_neg : W (eNeg fa ρ S) Q = W (fa ρ S) fun p => match p.1 with | .p (.int b) => Q (.p (.int (-b)), p.2) | _ => False := by
  unfold eNeg
  simp only [W_bind]
  congr; funext p
  obtain ⟨x, S1⟩ := p
  cases x <;> first | exact W_none | (rename_i d; cases d <;> first | exact W_none | exact W_some)
@[simp ↓] theorem w_and : W (eAnd fa fb ρ S) Q = W (fa ρ S) fun p => match p.1 with | .p (.bool b) => (if b = true then W (fb ρ p.2) Q else Q (.p (.bool false), p.2)) | _ => False := by
  unfold eAnd
  simp only [W_bind]
  congr; funext p
  obtain ⟨x, S1⟩ := p
  cases x <;> first | exact W_none | (rename_i d; cases d <;> first | exact W_none | exact W_ite.trans (by rw [W_some]))
@[simp ↓] theorem w_or : W (eOr fa fb ρ S) Q = W (fa ρ S) fun p => match p.1 with | .p (.bool b) => (if b = true then Q (.p (.bool true), p.2) else W (fb ρ p.2) Q) | _ => False := by
  unfold eOr
  simp only [W_bind]
  congr; funext p
  obtain ⟨x, S1⟩ := p
  cases x <;> first | exact W_none | (rename_i d; cases d <;> first | exact W_none | exact W_ite.trans (by rw [W_some]))
@[simp ↓] theorem w_if : W (eIf t fa fb ρ S) Q = W (t ρ S) fun p => if p.1 = true then W (fa ρ p.2) Q else W (fb ρ p.2) Q := by
  unfold eIf
  simp only [W_bind, W_ite]
@[simp ↓] theorem w_tup : W (eTup fs ρ S) Q = W (fs ρ S) fun p => W (pvs p.1) fun ds => ds.length ≤ 10000 ∧ Q (.p (.tuple ds), p.2) := by
  unfold eTup
  simp only [W_bind, W_ite, W_some, W_none]
  congr; funext p; congr; funext ds
  split <;> simp [*]
@[simp ↓] theorem w_b {op : List PyData → Option PyData} : W (eB op fs ρ S) Q = W (fs ρ S) fun p => W (vws p.2 p.1) fun ds => W (op ds) fun r => Q (.p r, p.2) := by
  unfold eB
  simp only [W_bind, W_some]
@[simp ↓] theorem w_isa {T : String} : W (eIsa T fa ρ S) Q = W (fa ρ S) fun p => W (vw p.2 p.1) fun d => W (isaN T d) fun r => Q (.p r, p.2) := by
  unfold eIsa
  simp only [W_bind, W_some]
@[simp ↓] theorem w_sx {fl fh : Ov} : W (eSx fa fl fh ρ S) Q = W (fa ρ S) fun p => W (fl ρ p.2) fun q => W (fh ρ q.2) fun r => W (vw r.2 p.1) fun d => W (sliceX d q.1 r.1) fun z => Q (.p z, r.2) := by
  unfold eSx
  simp only [W_bind, W_some]
@[simp ↓] theorem w_o0 {QO : Option Int × Sto → Prop} : W (oNone ρ S) QO = QO (none, S) := W_some
@[simp ↓] theorem w_o1 {QO : Option Int × Sto → Prop} : W (oSome fa ρ S) QO = W (fa ρ S) fun p => match p.1 with | .p (.int i) => QO (some i, p.2) | _ => False := by
  unfold oSome
  simp only [W_bind]
  congr; funext p
  obtain ⟨x, S1⟩ := p
  cases x <;> first | exact W_none | (rename_i d; cases d <;> first | exact W_none | exact W_some)
@[simp ↓] theorem w_l {fl : Lsv} : W (eL fl ρ S) Q = W (fl ρ S) fun p => Q (.p (.list p.1), p.2) := by
  unfold eL
  simp only [W_bind, W_some]
@[simp ↓] theorem w_f {fl : Fsv} : W (eF fl ρ S) Q = W (fl ρ S) fun p => Q (.p p.1, p.2) := by
  unfold eF
  simp only [W_bind, W_some]
@[simp ↓] theorem w_cp {F : List PyData → Option PyData} : W (eCP F fs ρ S) Q = W (fs ρ S) fun p => W (pvs p.1) fun ds => W (F ds) fun r => Q (.p r, p.2) := by
  unfold eCP
  simp only [W_bind, W_some]
@[simp ↓] theorem w_cg {F : List D → Sto → Option (D × Sto)} : W (eCG F fs ρ S) Q = W (fs ρ S) fun p => W (F p.1 p.2) Q := by
  unfold eCG
  simp only [W_bind]
@[simp ↓] theorem w_meth {op : PyData → PyData → Option PyData} : W (eMeth op fa fb ρ S) Q = W (fa ρ S) fun p => W (vw p.2 p.1) fun m0 => match m0 with
    | .list _ => W (fb ρ p.2) fun q => W (vw q.2 p.1) fun m => W (vw q.2 q.1) fun d => W (op m d) fun r => Q (.p r, q.2)
    | _ => False := by
  unfold eMeth
  simp only [W_bind]
  congr; funext p; congr; funext m
  cases m <;> first | exact W_none | (simp only [W_bind, W_some])
/-! tests -/
@[simp ↓] theorem w_tb : W (tB fa ρ S) QT = W (fa ρ S) fun p => match p.1 with | .p (.bool b) => QT (b, p.2) | _ => False := by
  unfold tB
  simp only [W_bind]
  congr; funext p
  obtain ⟨x, S1⟩ := p
  cases x <;> first | exact W_none | (rename_i d; cases d <;> first | exact W_none | exact W_some)
@[simp ↓] theorem w_tt : W (tTr fa ρ S) QT = W (fa ρ S) fun p => W (vw p.2 p.1) fun d => W (truthD d) fun b => QT (b, p.2) := by
  unfold tTr
  simp only [W_bind, W_some]
@[simp ↓] theorem w_tand : W (tAnd t u ρ S) QT = W (t ρ S) fun p => if p.1 = true then W (u ρ p.2) QT else QT (false, p.2) := by
  unfold tAnd
  simp only [W_bind, W_ite, W_some]
@[simp ↓] theorem w_tor : W (tOr t u ρ S) QT = W (t ρ S) fun p => if p.1 = true then QT (true, p.2) else W (u ρ p.2) QT := by
  unfold tOr
  simp only [W_bind, W_ite, W_some]
@[simp ↓] theorem w_tnot : W (tNot t ρ S) QT = W (t ρ S) fun p => QT (!p.1, p.2) := by
  unfold tNot
  simp only [W_bind, W_some]
@[simp ↓] theorem w_tyes : W (tYes ρ S) QT = QT (true, S) := W_some
/-! arguments -/
@[simp ↓] theorem w_a0 : W (aNil ρ S) QA = QA ([], S) := W_some
@[simp ↓] theorem w_a1 : W (aCons fa fs ρ S) QA = W (fa ρ S) fun p => W (fs ρ p.2) fun q => QA (p.1 :: q.1, q.2) := by
  unfold aCons
  simp only [W_bind, W_some]
/-! fresh lists, objects -/
@[simp ↓] theorem w_ldisp : W (lDisp fs ρ S) QL = W (fs ρ S) fun p => W (pvs p.1) fun ds => ds.length ≤ 10000 ∧ QL (ds, p.2) := by
  unfold lDisp
  simp only [W_bind, W_ite, W_some, W_none]
  congr; funext p; congr; funext ds
  split <;> simp [*]
@[simp ↓] theorem w_lb {op : List PyData → Option (List PyData)} : W (lB op fs ρ S) QL = W (fs ρ S) fun p => W (vws p.2 p.1) fun ds => W (op ds) fun r => QL (r, p.2) := by
  unfold lB
  simp only [W_bind, W_some]
@[simp ↓] theorem w_le2 {op : PyData → PyData → Option (List PyData)} : W (lE2 op fa fb ρ S) QL = W (fa ρ S) fun p => W (fb ρ p.2) fun q => W (vw1 q.2 p.1) fun a => W (vw1 q.2 q.1) fun b => W (op a b) fun r => QL (r, q.2) := by
  unfold lE2
  simp only [W_bind, W_some]
@[simp ↓] theorem w_lcomp {is : List Nat} {it : Lsv} {gg : Gv} : W (lComp is it gg t fa ρ S) QL = W (it ρ S) fun p => W (compL gg t fa (wipeE ρ is) p.1 p.2) QL := by
  unfold lComp
  simp only [W_bind]
@[simp ↓] theorem w_fl {fl : Lsv} : W (fL fl ρ S) QF = W (fl ρ S) fun p => QF (.list p.1, p.2) := by
  unfold fL
  simp only [W_bind, W_some]
@[simp ↓] theorem w_femp : W (fEmp ρ S) QF = QF (.dict [], S) := W_some
@[simp ↓] theorem w_fdisp {pv : Pv} : W (fDisp pv ρ S) QF = W (pv ρ S) fun p => ((p.1.all fun q => isKK q.1) = true ∧ p.1.length ≤ 15) ∧ QF (.dict (mergeD p.1), p.2) := by
  unfold fDisp
  simp only [W_bind, W_req]
@[simp ↓] theorem w_p0 {QP : List (PyData × PyData) × Sto → Prop} : W (pNil ρ S) QP = QP ([], S) := W_some
@[simp ↓] theorem w_p1 {QP : List (PyData × PyData) × Sto → Prop} {r : Pv} : W (pCons fa fb r ρ S) QP = W (fa ρ S) fun p => match p.1 with
    | .p k => W (fb ρ p.2) fun q => (match q.1 with | .p v => W (r ρ q.2) fun z => QP ((k, v) :: z.1, z.2) | _ => False)
    | _ => False := by
  unfold pCons
  simp only [W_bind]
  congr; funext p
  obtain ⟨x, S1⟩ := p
  cases x <;> first | exact W_none | skip
  refine W_bind.trans ?_
  congr; funext q
  obtain ⟨y, S2⟩ := q
  cases y <;> first | exact W_none | (refine W_bind.trans ?_; simp only [W_some])
/-! iterators -/
@[simp ↓] theorem w_ir : W (iR fs ρ S) QL = W (fs ρ S) fun p => match p.1 with
    | [.p (.int j)] => (j ≤ 16777216 ∧ -4611686018427387904 ≤ j) ∧ QL (rngD 0 j.toNat, p.2)
    | [.p (.int i), .p (.int j)] => (-4611686018427387904 ≤ i ∧ i < 4611686018427387904 ∧ -4611686018427387904 ≤ j ∧ j < 4611686018427387904 ∧ (j - i).toNat ≤ 16777216) ∧ QL (rngD i (j - i).toNat, p.2)
    | _ => False := by
  unfold iR
  simp only [W_bind]
  congr; funext p
  obtain ⟨x, S1⟩ := p
  simp only
  split
  · exact W_req
  · exact W_req
  · rename_i h1 h2
    rw [W_none] <;> (split; (exact absurd rfl (h1 _)); (exact absurd rfl (h2 _ _)); rfl)
@[simp ↓] theorem w_iz : W (iZ fs ρ S) QL = W (fs ρ S) fun p => match p.1 with
    | [.p (.list ds), .p (.list es)] => ds.length ≤ sizeLine ∧ QL (zipD ds es, p.2)
    | [.p (.tuple ds), .p (.tuple es)] => ds.length ≤ sizeLine ∧ QL (zipD ds es, p.2)
    | _ => False := by
  unfold iZ
  simp only [W_bind]
  congr; funext p
  obtain ⟨x, S1⟩ := p
  simp only
  split
  · exact W_req
  · exact W_req
  · rename_i h1 h2
    rw [W_none] <;> (split; (exact absurd rfl (h1 _ _)); (exact absurd rfl (h2 _ _)); rfl)
@[simp ↓] theorem w_irm : W (iRm fs ρ S) QL = W (fs ρ S) fun p => match p.1 with
    | [.p (.int i), .p (.int j), .p (.int c)] => (c = -1 ∧ -4611686018427387904 ≤ i ∧ i < 4611686018427387904 ∧ -4611686018427387904 ≤ j ∧ j < 4611686018427387904 ∧ (i - j).toNat ≤ 16777216) ∧ QL (rngC i (-1) (i - j).toNat, p.2)
    | _ => False := by
  unfold iRm
  simp only [W_bind]
  congr; funext p
  obtain ⟨x, S1⟩ := p
  simp only
  split
  · exact W_req
  · rename_i h1
    rw [W_none] <;> (split; (exact absurd rfl (h1 _ _ _)); rfl)
@[simp ↓] theorem w_ip : W (iP fa ρ S) QL = W (fa ρ S) fun p => match p.1 with
    | .p (.list ds) => ds.length ≤ sizeLine ∧ QL (ds, p.2)
    | .p (.tuple ds) => ds.length ≤ sizeLine ∧ QL (ds, p.2)
    | _ => False := by
  unfold iP
  simp only [W_bind]
  congr; funext p
  obtain ⟨x, S1⟩ := p
  cases x <;> first | exact W_none | (rename_i d; cases d <;> first | exact W_none | exact W_req)
@[simp ↓] theorem w_ipo : W (iPO fa ρ S) QL = W (fa ρ S) fun p => match p.1 with
    | .p (.list ds) => ds.length ≤ sizeLine ∧ QL (ds, p.2)
    | .p (.tuple ds) => ds.length ≤ sizeLine ∧ QL (ds, p.2)
    | .o (.list ds) => ds.length ≤ sizeLine ∧ QL (ds, p.2)
    | _ => False := by
  unfold iPO
  simp only [W_bind]
  congr; funext p
  obtain ⟨x, S1⟩ := p
  cases x <;> first | exact W_none | (rename_i d; cases d <;> first | exact W_none | exact W_req)
/-! statements -/
@[simp ↓] theorem w_nx : W (sNx ρ S) QS = QS (.nx ρ S) := W_some
@[simp ↓] theorem w_bk : W (sBk ρ S) QS = QS (.bk ρ S) := W_some
@[simp ↓] theorem w_ct : W (sCt ρ S) QS = QS (.ct ρ S) := W_some
@[simp ↓] theorem w_seq : W (sSeq f g ρ S) QS = W (f ρ S) fun o => match o with | .nx ρ' S' => W (g ρ' S') QS | .rt d S' => QS (.rt d S') | .bk ρ' S' => QS (.bk ρ' S') | .ct ρ' S' => QS (.ct ρ' S') := by
  unfold sSeq
  rw [W_bind]
  congr; funext o
  cases o <;> first | rfl | exact W_some
@[simp ↓] theorem w_sif : W (sIf t f g ρ S) QS = W (t ρ S) fun p => if p.1 = true then W (f ρ p.2) QS else W (g ρ p.2) QS := by
  unfold sIf
  simp only [W_bind, W_ite]
@[simp ↓] theorem w_ret : W (sRet fa ρ S) QS = W (fa ρ S) fun p => match p.1 with | .p d => QS (.rt (.p d) p.2) | .c k => QS (.rt (.c k) p.2) | _ => False := by
  unfold sRet
  simp only [W_bind]
  congr; funext p
  obtain ⟨x, S1⟩ := p
  cases x <;> first | exact W_none | exact W_some
@[simp ↓] theorem w_retN : W (sRetN ρ S) QS = QS (.rt (.p .none) S) := W_some
@[simp ↓] theorem w_retV : W (sRetV i ρ S) QS = W (sl ρ i) fun d => match d with | .o m => QS (.rt (.p m) S) | .p m => QS (.rt (.p m) S) | .c k => QS (.rt (.c k) S) | _ => False := by
  unfold sRetV sl
  rcases h : ρ[i]? with _ | (_ | d)
  · simp [W_none]
  · simp [W_none]
  · cases d <;> simp [W_none, W_some]
@[simp ↓] theorem w_asg {gg : Gv} : W (sAsg fa gg ρ S) QS = W (fa ρ S) fun p => match p.1 with | .p d => W (gg d ρ) fun ρ' => QS (.nx ρ' p.2) | _ => False := by
  unfold sAsg
  simp only [W_bind]
  congr; funext p
  obtain ⟨x, S1⟩ := p
  cases x <;> first | exact W_none | (refine W_bind.trans ?_; simp only [W_some])
@[simp ↓] theorem w_gn : W (gN i d ρ) QR = (i < ρ.length ∧ QR (ρ.set i (some (.p d)))) := W_req
@[simp ↓] theorem w_gt {gs : Gsv} : W (gT gs d ρ) QR = match d with | .tuple ds => W (gs ds ρ) QR | _ => False := by
  unfold gT
  cases d <;> first | exact W_none | rfl
@[simp ↓] theorem w_g0 : W (gNil [] ρ) QR = QR ρ := W_some
@[simp ↓] theorem w_g1 {gg : Gv} {gs : Gsv} {ds : List PyData} : W (gCons gg gs (d :: ds) ρ) QR = W (gg d ρ) fun ρ1 => W (gs ds ρ1) QR := W_bind
@[simp ↓] theorem w_g1n {gg : Gv} {gs : Gsv} : W (gCons gg gs [] ρ) QR = False := W_none
@[simp ↓] theorem w_g0c {ds : List PyData} : W (gNil (d :: ds) ρ) QR = False := W_none
@[simp ↓] theorem w_own {fl : Lsv} : W (sOwn i fl ρ S) QS = W (fl ρ S) fun p => i < ρ.length ∧ QS (.nx (ρ.set i (some (.o (.list p.1)))) p.2) := by
  unfold sOwn
  simp only [W_bind, W_req]
@[simp ↓] theorem w_ownF {fl : Fsv} : W (sOwnF i fl ρ S) QS = W (fl ρ S) fun p => i < ρ.length ∧ QS (.nx (ρ.set i (some (.o p.1))) p.2) := by
  unfold sOwnF
  simp only [W_bind, W_req]
@[simp ↓] theorem w_cell {fl : Fsv} : W (sCell i fl ρ S) QS = W (fl ρ S) fun p => i < ρ.length ∧ QS (.nx (ρ.set i (some (.c p.2.length))) (p.2 ++ [some (.d p.1)])) := by
  unfold sCell
  simp only [W_bind, W_req]
/-- a cell's data -/
def cd (S : Sto) (k : Nat) : Option PyData := match S[k]? with | some (some (.d m)) => some m | _ => none
@[simp ↓] theorem w_mut {hh : PyData → PyData → Option PyData} : W (sMut hh i fa ρ S) QS = W (sl ρ i) fun x => match x with
    | .o m => W (fa ρ S) fun p => (match p.1 with | .p d => W (hh m d) fun m' => QS (.nx (ρ.set i (some (.o m'))) p.2) | _ => False)
    | .c k => W (cd S k) fun m0 => (match m0 with | .list _ => W (fa ρ S) fun p => (match p.1 with | .p d => W (cd p.2 k) fun m => W (hh m d) fun m' => QS (.nx ρ (p.2.set k (some (.d m')))) | _ => False) | _ => False)
    | _ => False := by
  unfold sMut sl cd
  rcases h : ρ[i]? with _ | (_ | x)
  · simp [W_none]
  · simp [W_none]
  · cases x with
    | o m =>
      simp only [Option.bind_some, id, W_some, W_bind]
      congr; funext p
      obtain ⟨y, S1⟩ := p
      cases y <;> first | exact W_none | (refine W_bind.trans ?_; simp only [W_some])
    | c k =>
      simp only [Option.bind_some, id, W_some]
      split
      · rename_i ds hk
        simp only [hk, W_bind, W_some]
        congr; funext p
        obtain ⟨y, S1⟩ := p
        cases y <;> first | exact W_none | skip
        simp only
        split
        · rename_i m hm
          simp only [hm, W_bind, W_some]
        · rename_i hm
          simp only [W_none]
      · rename_i hk
        rw [W_none]
        split
        · rename_i m hm
          rw [W_some]
          cases m <;> first | rfl | exact absurd hm (hk _)
        · rw [W_none]
    | _ => simp [W_none, W_some]
@[simp ↓] theorem w_drop : W (sDrop fa ρ S) QS = W (fa ρ S) fun p => QS (.nx ρ p.2) := by
  unfold sDrop
  simp only [W_bind, W_some]
@[simp ↓] theorem w_aug {op : PyData → PyData → Option PyData} : W (sAug op i fa ρ S) QS = W (sl ρ i) fun x => match x with
    | .p a => W (fa ρ S) fun p => W (vw p.2 p.1) fun b => W (op a b) fun r => QS (.nx (ρ.set i (some (.p r))) p.2)
    | _ => False := by
  unfold sAug sl
  rcases h : ρ[i]? with _ | (_ | x)
  · simp [W_none]
  · simp [W_none]
  · cases x with
    | p a => simp only [Option.bind_some, id, W_some, W_bind]
    | _ => simp [W_none, W_some]
@[simp ↓] theorem w_chgd {gg : PyData → Option PyData} : W (chgD i gg ρ S) QS = W (sl ρ i) fun x => match x with
    | .o m => W (gg m) fun m' => QS (.nx (ρ.set i (some (.o m'))) S)
    | .c k => W (cd S k) fun m => W (gg m) fun m' => QS (.nx ρ (S.set k (some (.d m'))))
    | _ => False := by
  unfold chgD sl cd
  rcases h : ρ[i]? with _ | (_ | x)
  · simp [W_none]
  · simp [W_none]
  · cases x with
    | o m => simp only [Option.bind_some, id, W_some, W_bind]
    | c k =>
      simp only [Option.bind_some, id, W_some]
      split
      · rename_i m hm
        simp only [hm, W_bind, W_some]
      · rename_i hm
        simp only [W_none]
    | _ => simp [W_none, W_some]
@[simp ↓] theorem w_put {fk fv : Ev} : W (sPut i fk fv ρ S) QS = W (fv ρ S) fun p => match p.1 with
    | .p v => i < ρ.length ∧ W (fk ρ p.2) fun q => (match q.1 with | .p k => W (chgD i (fun m => setD m k v) ρ q.2) QS | _ => False)
    | _ => False := by
  unfold sPut
  rw [W_bind]
  congr; funext p
  obtain ⟨x, S1⟩ := p
  cases x <;> first | exact W_none | skip
  simp only [W_ite, W_none, W_bind]
  split
  · rename_i hl
    simp only [hl, true_and]
    congr; funext q
    obtain ⟨y, S2⟩ := q
    cases y <;> first | exact W_none | rfl
  · rename_i hl
    simp [hl]
@[simp ↓] theorem w_putAug {op : PyData → PyData → Option PyData} {fk fv : Ev} : W (sPutAug op i fk fv ρ S) QS = W (fk ρ S) fun q => match q.1 with
    | .p k => W (vw1 q.2 ((sl ρ i).getD (.p .none))) fun m0 => W (ixD m0 k) fun old => W (fv ρ q.2) fun p => W (vw p.2 p.1) fun v => W (op old v) fun r => W (chgD i (fun m => setD m k r) ρ p.2) QS
    | _ => False := by
  unfold sPutAug sl
  rw [W_bind]
  congr; funext p
  obtain ⟨x, S1⟩ := p
  cases x <;> first | exact W_none | skip
  simp only [W_bind]
@[simp ↓] theorem w_par {is : List Nat} : W (sPar is fs ρ S) QS = W (fs ρ S) fun p => W (setAll is p.1 ρ) fun ρ' => QS (.nx ρ' p.2) := by
  unfold sPar
  simp only [W_bind, W_some]
@[simp ↓] theorem w_fz : W (sFz i f ρ S) QS = W (f (frzE i ρ) S) QS := rfl
@[simp ↓] theorem w_fg {is : List Nat} : W (sFg is f ρ S) QS = W (f ρ S) fun o => QS (fgO is o) := by
  unfold sFg
  simp only [W_bind, W_some]
@[simp ↓] theorem w_for {is : List Nat} {it : Lsv} {gg : Gv} {b : Sv} : W (sFor is it gg b ρ S) QS = W (it ρ S) fun p => W (forL gg (sFg is b) p.1 (wipeE ρ is) p.2) QS := by
  unfold sFor
  simp only [W_bind]
end
end DL
namespace DL
open PySem PySem.Spec L2
open PyProof.Rows hiding St
/-! ### plain walking: places -/
@[simp] theorem sl_0 {x : Option D} {ρ : Env'} : sl (x :: ρ) 0 = x := by cases x <;> rfl
@[simp] theorem sl_s {x : Option D} {ρ : Env'} {i : Nat} : sl (x :: ρ) (i + 1) = sl ρ i := rfl
@[simp] theorem wipe_0 {ρ : Env'} : wipeE ρ [] = ρ := rfl
@[simp] theorem wipe_s {ρ : Env'} {i : Nat} {is : List Nat} : wipeE ρ (i :: is) = (wipeE ρ is).set i none := rfl
@[simp] theorem frz_o {ρ : Env'} {m : PyData} : frzE 0 (some (.o m) :: ρ) = some (.p m) :: ρ := rfl
@[simp] theorem frz_p {ρ : Env'} {m : PyData} : frzE 0 (some (.p m) :: ρ) = some (.p m) :: ρ := rfl
@[simp] theorem frz_n {ρ : Env'} : frzE 0 (none :: ρ) = none :: ρ := rfl
@[simp] theorem frz_s {ρ : Env'} {x : Option D} {i : Nat} : frzE (i + 1) (x :: ρ) = x :: frzE i ρ := by
  unfold frzE
  rw [List.getElem?_cons_succ]
  split
  · rename_i h; simp [h]
  · rfl
@[simp] theorem fgO_nx {is : List Nat} {ρ : Env'} {S : Sto} : fgO is (.nx ρ S) = .nx (wipeE ρ is) S := rfl
@[simp] theorem fgO_rt {is : List Nat} {d : D} {S : Sto} : fgO is (.rt d S) = .rt d S := rfl
@[simp] theorem fgO_bk {is : List Nat} {ρ : Env'} {S : Sto} : fgO is (.bk ρ S) = .bk (wipeE ρ is) S := rfl
@[simp] theorem fgO_ct {is : List Nat} {ρ : Env'} {S : Sto} : fgO is (.ct ρ S) = .ct (wipeE ρ is) S := rfl
@[simp] theorem vw_p {S : Sto} {d : PyData} : vw S (.p d) = some d := rfl
@[simp] theorem vw_o {S : Sto} {d : PyData} : vw S (.o d) = some d := rfl
@[simp] theorem vw_f {S : Sto} {d : PyData} : vw S (.f d) = some d := rfl
@[simp] theorem vw_c {S : Sto} {k : Nat} : vw S (.c k) = cd S k := rfl
@[simp] theorem vw1_p {S : Sto} {d : PyData} : vw1 S (.p d) = some d := rfl
@[simp] theorem vw1_o {S : Sto} {d : PyData} : vw1 S (.o d) = some d := rfl
@[simp] theorem vw1_c {S : Sto} {k : Nat} : vw1 S (.c k) = cd S k := rfl
@[simp] theorem cd_0 {S : Sto} {m : PyData} : cd (some (.d m) :: S) 0 = some m := rfl
@[simp] theorem cd_s {S : Sto} {x : Option MO} {k : Nat} : cd (x :: S) (k + 1) = cd S k := rfl
@[simp] theorem vws_0 {S : Sto} : vws S [] = some [] := rfl
@[simp ↓] theorem w_vws0 {S : Sto} {Q : List PyData → Prop} : W (vws S []) Q = Q [] := W_some
@[simp ↓] theorem w_vws1 {S : Sto} {d : D} {ds : List D} {Q : List PyData → Prop} : W (vws S (d :: ds)) Q = W (vw S d) fun x => W (vws S ds) fun xs => Q (x :: xs) := by
  rw [vws]
  cases vw S d with
  | none => simp [W_none]
  | some x => cases h : vws S ds <;> simp [W_none, W_some, h]
@[simp ↓] theorem w_pvs0 {Q : List PyData → Prop} : W (pvs []) Q = Q [] := W_some
@[simp ↓] theorem w_pvs1 {d : PyData} {ds : List D} {Q : List PyData → Prop} : W (pvs (.p d :: ds)) Q = W (pvs ds) fun xs => Q (d :: xs) := by
  rw [pvs, W_map]
@[simp ↓] theorem w_pvs1o {d : PyData} {ds : List D} {Q : List PyData → Prop} : W (pvs (.o d :: ds)) Q = False := W_none
@[simp ↓] theorem w_pvs1f {d : PyData} {ds : List D} {Q : List PyData → Prop} : W (pvs (.f d :: ds)) Q = False := W_none
@[simp ↓] theorem w_sa0 {ρ : Env'} {Q : Env' → Prop} : W (setAll [] [] ρ) Q = Q ρ := W_some
@[simp ↓] theorem w_sap {i : Nat} {is : List Nat} {d : PyData} {ds : List D} {ρ : Env'} {Q : Env' → Prop} : W (setAll (i :: is) (.p d :: ds) ρ) Q = (i < ρ.length ∧ W (setAll is ds (ρ.set i (some (.p d)))) Q) := by
  show W (if _ then _ else _) Q = _
  rw [W_ite, W_none]
  split <;> simp [*]
@[simp ↓] theorem w_sac {i k : Nat} {is : List Nat} {ds : List D} {ρ : Env'} {Q : Env' → Prop} : W (setAll (i :: is) (.c k :: ds) ρ) Q = (i < ρ.length ∧ W (setAll is ds (ρ.set i (some (.c k)))) Q) := by
  show W (if _ then _ else _) Q = _
  rw [W_ite, W_none]
  split <;> simp [*]
/-! ### plain walking: data -/
section
variable {i j : Int} {x y : Str} {a b : PyData} {xs ys : List PyData}
@[simp] theorem addD_i : addD (.int i) (.int j) = some (.int (i + j)) := rfl
@[simp] theorem addI_i : addI (.int i) (.int j) = some (.int (i + j)) := rfl
@[simp] theorem subD_i : subD (.int i) (.int j) = some (.int (i - j)) := rfl
@[simp ↓] theorem w_addT {Q : PyData → Prop} : W (addD (.tuple xs) (.tuple ys)) Q = (xs.length + ys.length ≤ sizeLine ∧ Q (.tuple (xs ++ ys))) := W_req
@[simp ↓] theorem w_addS {Q : PyData → Prop} : W (addD (.str x) (.str y)) Q = (x.length + y.length ≤ sizeLine ∧ Q (.str (x ++ y))) := W_req
@[simp ↓] theorem w_mulI {Q : PyData → Prop} : W (mulI (.int i) (.int j)) Q = ((i.natAbs < 2 ^ 64 ∨ j.natAbs < 2 ^ 64) ∧ Q (.int (i * j))) := W_req
@[simp ↓] theorem w_fdiv {Q : PyData → Prop} : W (fdivD (.int i) (.int j)) Q = ((j ≠ 0 ∧ j.natAbs < 340282366920938463463374607431768211456) ∧ Q (.int (i.fdiv j))) := W_req
@[simp ↓] theorem w_mod {Q : PyData → Prop} : W (modD (.int i) (.int j)) Q = (j ≠ 0 ∧ Q (.int (i.fmod j))) := W_req
@[simp ↓] theorem w_pow {Q : PyData → Prop} : W (powD (.int i) (.int j)) Q = ((0 ≤ j ∧ j ≤ 1000000 ∧ i.natAbs < 2 ^ 64) ∧ Q (.int (i ^ j.toNat))) := W_req
@[simp] theorem fit_i : fit (.int i) = true := rfl
@[simp] theorem fit_b {k : Bool} : fit (.bool k) = true := rfl
@[simp] theorem fit_s : fit (.str x) = true := rfl
@[simp] theorem fit_n : fit .none = true := rfl
@[simp] theorem eqD_i : eqD (.int i) (.int j) = some (.bool (decide (i = j))) := by
  show some (PyData.bool (i == j)) = _
  rw [Bool.beq_eq_decide_eq]
@[simp] theorem neD_i : neD (.int i) (.int j) = some (.bool (decide (i ≠ j))) := by
  show some (PyData.bool (!(i == j))) = _
  rw [Bool.beq_eq_decide_eq]
  simp
theorem eqv_bb {k l : Bool} : PyData.eqv (.bool k) (.bool l) = (k == l) := by
  cases k <;> cases l <;> rfl
@[simp] theorem eqD_b {k l : Bool} : eqD (.bool k) (.bool l) = some (.bool (k == l)) := by
  show some (PyData.bool (PyData.eqv (.bool k) (.bool l))) = _
  rw [eqv_bb]
@[simp] theorem eqD_s : eqD (.str x) (.str y) = some (.bool (x == y)) := rfl
@[simp] theorem neD_s : neD (.str x) (.str y) = some (.bool (!(x == y))) := rfl
@[simp] theorem ltD_i : ltD (.int i) (.int j) = some (.bool (decide (i < j))) := rfl
@[simp] theorem gtD_i : gtD (.int i) (.int j) = some (.bool (decide (j < i))) := rfl
@[simp] theorem leD_i : leD (.int i) (.int j) = some (.bool (decide (i ≤ j))) := rfl
@[simp] theorem geD_i : geD (.int i) (.int j) = some (.bool (decide (j ≤ i))) := rfl
@[simp] theorem isD_n : isD a .none = some (.bool (isND a)) := rfl
@[simp] theorem isD_b {k l : Bool} : isD (.bool k) (.bool l) = some (.bool (decide (k = l))) := rfl
@[simp] theorem isNotD_b {k l : Bool} : isNotD (.bool k) (.bool l) = some (.bool (!decide (k = l))) := rfl
@[simp] theorem isNotD_n : isNotD a .none = some (.bool (!isND a)) := rfl
@[simp] theorem isND_i : isND (.int i) = false := rfl
@[simp] theorem isND_n : isND .none = true := rfl
@[simp] theorem isND_t : isND (.tuple xs) = false := rfl
@[simp] theorem isND_l : isND (.list xs) = false := rfl
@[simp] theorem isND_b {k : Bool} : isND (.bool k) = false := rfl
@[simp] theorem isND_s : isND (.str x) = false := rfl
@[simp] theorem truth_b {k : Bool} : truthD (.bool k) = some k := rfl
@[simp] theorem truth_i : truthD (.int i) = some (i != 0) := rfl
@[simp] theorem truth_n : truthD .none = some false := rfl
@[simp] theorem truth_l : truthD (.list xs) = some (!xs.isEmpty) := rfl
@[simp] theorem truth_t : truthD (.tuple xs) = some (!xs.isEmpty) := rfl
@[simp] theorem ixD_t : ixD (.tuple xs) (.int i) = atI xs i := rfl
@[simp] theorem ixD_l : ixD (.list xs) (.int i) = atI xs i := rfl
theorem atI_pos {n : Nat} : atI xs (n : Int) = xs[n]? := by
  unfold atI
  by_cases h : n < xs.length
  · unfold ixN
    rw [if_pos (by omega), if_pos (by omega)]
    simp
  · rw [List.getElem?_eq_none (by omega)]
    unfold ixN
    rw [if_pos (by omega), if_neg (by omega)]
    rfl
theorem atI_i (h0 : 0 ≤ i) : atI xs i = xs[i.toNat]? := by
  obtain ⟨n, rfl⟩ : ∃ n : Nat, i = n := ⟨i.toNat, by omega⟩
  rw [atI_pos]
  rfl
theorem atI_n (h0 : i < 0) (h : -(xs.length : Int) ≤ i) : atI xs i = xs[(i + xs.length).toNat]? := by
  unfold atI ixN
  rw [if_neg (by omega), if_pos h]
  rfl
@[simp] theorem atI_0 : atI (a :: xs) 0 = some a := by rw [atI_i (by omega)]; rfl
@[simp] theorem sx_t {lo hi : Option Int} : sliceX (.tuple xs) lo hi = some (.tuple (cutD xs lo hi)) := rfl
@[simp] theorem sx_l {lo hi : Option Int} : sliceX (.list xs) lo hi = some (.list (cutD xs lo hi)) := rfl
@[simp] theorem lenD_t : lenD [.tuple xs] = some (.int xs.length) := rfl
@[simp] theorem lenD_l : lenD [.list xs] = some (.int xs.length) := rfl
@[simp] theorem absD_i : absD [.int i] = some (.int i.natAbs) := by
  show some (PyData.int (if i < 0 then -i else i)) = _
  congr 2
  split <;> omega
@[simp] theorem intD_i : intD [.int i] = some (.int i) := rfl
@[simp] theorem tupleD_l : tupleD [.list xs] = some (.tuple xs) := rfl
@[simp] theorem tupleD_t : tupleD [.tuple xs] = some (.tuple xs) := rfl
@[simp ↓] theorem w_app {Q : PyData → Prop} : W (appD (.list xs) a) Q = (xs.length < sizeLine ∧ Q (.list (xs ++ [a]))) := W_req
@[simp ↓] theorem w_addL {Q : List PyData → Prop} : W (addL (.list xs) (.list ys)) Q = (xs.length + ys.length ≤ sizeLine ∧ Q (xs ++ ys)) := W_req
@[simp] theorem isa_tt : isaN "tuple" (.tuple xs) = some (.bool true) := by kernel_rfl
@[simp] theorem isa_ti : isaN "tuple" (.int i) = some (.bool false) := by kernel_rfl
@[simp] theorem isa_tb {k : Bool} : isaN "tuple" (.bool k) = some (.bool false) := by kernel_rfl
@[simp] theorem isa_ts : isaN "tuple" (.str x) = some (.bool false) := by kernel_rfl
@[simp] theorem isa_tn : isaN "tuple" .none = some (.bool false) := by kernel_rfl
@[simp] theorem isa_tl : isaN "tuple" (.list xs) = some (.bool false) := by kernel_rfl
@[simp] theorem isa_st : isaN "str" (.tuple xs) = some (.bool false) := by kernel_rfl
@[simp] theorem isa_si : isaN "str" (.int i) = some (.bool false) := by kernel_rfl
@[simp] theorem isa_sb {k : Bool} : isaN "str" (.bool k) = some (.bool false) := by kernel_rfl
@[simp] theorem isa_ss : isaN "str" (.str x) = some (.bool true) := by kernel_rfl
@[simp] theorem isa_sn : isaN "str" .none = some (.bool false) := by kernel_rfl
@[simp] theorem isa_sl : isaN "str" (.list xs) = some (.bool false) := by kernel_rfl
@[simp] theorem isa_it : isaN "int" (.tuple xs) = some (.bool false) := by kernel_rfl
@[simp] theorem isa_ii : isaN "int" (.int i) = some (.bool true) := by kernel_rfl
@[simp] theorem isa_ib {k : Bool} : isaN "int" (.bool k) = some (.bool true) := by kernel_rfl
@[simp] theorem isa_is : isaN "int" (.str x) = some (.bool false) := by kernel_rfl
@[simp] theorem isa_in : isaN "int" .none = some (.bool false) := by kernel_rfl
@[simp] theorem isa_il : isaN "int" (.list xs) = some (.bool false) := by kernel_rfl
@[simp] theorem isa_bt : isaN "bool" (.tuple xs) = some (.bool false) := by kernel_rfl
@[simp] theorem isa_bi : isaN "bool" (.int i) = some (.bool false) := by kernel_rfl
@[simp] theorem isa_bb {k : Bool} : isaN "bool" (.bool k) = some (.bool true) := by kernel_rfl
@[simp] theorem isa_bs : isaN "bool" (.str x) = some (.bool false) := by kernel_rfl
@[simp] theorem isa_bn : isaN "bool" .none = some (.bool false) := by kernel_rfl
@[simp] theorem isa_bl : isaN "bool" (.list xs) = some (.bool false) := by kernel_rfl
end
section
variable {n : Nat} {i : Int} {x : Str} {k : Bool} {xs ys : List PyData} {α : Type}
@[simp] theorem fitN_i : fitN n (.int i) = true := by cases n <;> rfl
@[simp] theorem fitN_b : fitN n (.bool k) = true := by cases n <;> rfl
@[simp] theorem fitN_s : fitN n (.str x) = true := by cases n <;> rfl
@[simp] theorem fitN_n : fitN n .none = true := by cases n <;> rfl
@[simp] theorem fitN_l : fitN (n + 1) (.list xs) = xs.all (fitN n) := rfl
@[simp] theorem fitN_t : fitN (n + 1) (.tuple xs) = xs.all (fitN n) := rfl
theorem eqv_l0 : PyData.eqv (.list xs) (.list []) = xs.isEmpty := by
  rw [PyData.eqv]
  cases xs <;> rfl
theorem eqv_t0 : PyData.eqv (.tuple xs) (.tuple []) = xs.isEmpty := by
  rw [PyData.eqv]
  cases xs <;> rfl
theorem eqD_l0 (h : xs.all (fitN 19) = true) : eqD (.list xs) (.list []) = some (.bool xs.isEmpty) := by
  unfold eqD
  rw [if_pos ⟨h, rfl⟩, eqv_l0]
theorem neD_l0 (h : xs.all (fitN 19) = true) : neD (.list xs) (.list []) = some (.bool (!xs.isEmpty)) := by
  unfold neD
  rw [if_pos ⟨h, rfl⟩, eqv_l0]
theorem eqD_t0 (h : xs.all (fitN 19) = true) : eqD (.tuple xs) (.tuple []) = some (.bool xs.isEmpty) := by
  unfold eqD
  rw [if_pos ⟨h, rfl⟩, eqv_t0]
theorem neD_t0 (h : xs.all (fitN 19) = true) : neD (.tuple xs) (.tuple []) = some (.bool (!xs.isEmpty)) := by
  unfold neD
  rw [if_pos ⟨h, rfl⟩, eqv_t0]
@[simp] theorem eqD_l00 : eqD (.list []) (.list []) = some (.bool true) := rfl
@[simp] theorem neD_l00 : neD (.list []) (.list []) = some (.bool false) := rfl
@[simp] theorem eqD_l0i {ns : List α} {F : α → Int} : eqD (.list (ns.map fun a => .int (F a))) (.list []) = some (.bool ns.isEmpty) := by
  rw [eqD_l0 (by simp)]
  cases ns <;> rfl
@[simp] theorem neD_l0i {ns : List α} {F : α → Int} : neD (.list (ns.map fun a => .int (F a))) (.list []) = some (.bool (!ns.isEmpty)) := by
  rw [neD_l0 (by simp)]
  cases ns <;> rfl
end
/-! ### runs -/
@[simp ↓] theorem w_runG {n N : Nat} {b : Sv} {ds : List D} {S : Sto} {Q : D × Sto → Prop} : W (runG n N b ds S) Q = (ds.length = n ∧ W (b (ds.map (fun d => some (inS d)) ++ List.replicate (N - n) none) S) fun o => match o with | .rt d S' => Q (d, S') | .nx _ S' => Q (.p .none, S') | _ => False) := by
  unfold runG
  rw [W_ite, W_none]
  split
  · rename_i h
    simp only [h, true_and]
    cases b (ds.map (fun d => some (inS d)) ++ List.replicate (N - n) none) S with
    | none => simp [W_none]
    | some o => cases o <;> simp [W_none, W_some]
  · rename_i h
    simp [h]
theorem w_runP {n N : Nat} {b : Sv} {ds : List PyData} {Q : PyData → Prop} : W (runP n N b ds) Q = W (runG n N b (ds.map .p) []) fun q => match q.1 with | .p d => Q d | _ => False := by
  unfold runP
  cases runG n N b (ds.map .p) [] with
  | none => simp [W_none]
  | some o =>
    obtain ⟨d, S⟩ := o
    cases d <;> simp [W_none, W_some]
@[simp] theorem inS_p {d : PyData} : inS (.p d) = .p d := rfl
@[simp] theorem inS_c {d : Nat} : inS (.c d) = .c d := rfl
@[simp] theorem inS_o {d : PyData} : inS (.o d) = .f d := rfl
@[simp] theorem inS_f {d : PyData} : inS (.f d) = .f d := rfl
/-! ### loops -/
theorem forL_ind {α : Type} {F : α → PyData} {g : Gv} {b : Sv} {Q : Out → Prop} (I : List α → Env' → Sto → Prop)
    (h : ∀ x r ρ S, I (x :: r) ρ S → W (g (F x) ρ) fun ρ1 => W (b ρ1 S) fun o => match o with | .nx ρ' S' => I r ρ' S' | .ct ρ' S' => I r ρ' S' | .bk ρ' S' => Q (.nx ρ' S') | .rt d S' => Q (.rt d S'))
    (hn : ∀ ρ S, I [] ρ S → Q (.nx ρ S)) : ∀ (xs : List α) (ρ : Env') (S : Sto), I xs ρ S → W (forL g b (xs.map F) ρ S) Q
  | [], ρ, S, i => ⟨_, rfl, hn ρ S i⟩
  | x :: r, ρ, S, i => by
    obtain ⟨ρ1, e1, o, e2, q⟩ := h x r ρ S i
    rw [List.map_cons]
    cases o with
    | nx ρ' S' =>
      obtain ⟨z, e3, q3⟩ := forL_ind I h hn r ρ' S' q
      exact ⟨z, by simp [forL, e1, e2, e3], q3⟩
    | ct ρ' S' =>
      obtain ⟨z, e3, q3⟩ := forL_ind I h hn r ρ' S' q
      exact ⟨z, by simp [forL, e1, e2, e3], q3⟩
    | bk ρ' S' => exact ⟨_, by simp [forL, e1, e2], q⟩
    | rt d S' => exact ⟨_, by simp [forL, e1, e2], q⟩
/-- a loop that folds -/
theorem forL_fold {α β : Type} {F : α → PyData} {g : Gv} {b : Sv} {Q : Out → Prop} (E : β → Env') (T : β → Sto) (stp : β → α → β) (P : List α → β → Prop) {xs : List α} {a : β}
    (h : ∀ x r a, P (x :: r) a → W (g (F x) (E a)) fun ρ1 => W (b ρ1 (T a)) fun o => (o = .nx (E (stp a x)) (T (stp a x)) ∨ o = .ct (E (stp a x)) (T (stp a x))) ∧ P r (stp a x)) (h0 : P xs a) (hn : P [] (xs.foldl stp a) → Q (.nx (E (xs.foldl stp a)) (T (xs.foldl stp a)))) : W (forL g b (xs.map F) (E a) (T a)) Q := by
  refine forL_ind (fun r ρ S => ∃ a', ρ = E a' ∧ S = T a' ∧ P r a' ∧ r.foldl stp a' = xs.foldl stp a) (fun x r ρ S hi => ?_) (fun ρ S hi => ?_) xs _ _ ⟨a, rfl, rfl, h0, rfl⟩
  · obtain ⟨a', rfl, rfl, p, e⟩ := hi
    refine (h x r a' p).mono fun ρ1 w => w.mono fun o ho => ?_
    rcases ho with ⟨rfl | rfl, p'⟩ <;> exact ⟨_, rfl, rfl, p', e⟩
  · obtain ⟨a', rfl, rfl, p, e⟩ := hi
    have e : a' = xs.foldl stp a := e
    subst e
    exact hn p
/-! ### comprehensions -/
theorem compL_map {α : Type} {F : α → PyData} {g : Gv} {t : Tv} {f : Ev} {ρ : Env'} {S : Sto} (p : α → Bool) (r : α → PyData) :
    ∀ (xs : List α), (∀ x ∈ xs, W (g (F x) ρ) fun ρ1 => W (t ρ1 S) fun b => b = (p x, S) ∧ (p x = true → W (f ρ1 S) fun y => y = (.p (r x), S))) → compL g t f ρ (xs.map F) S = some ((xs.filter p).map r, S)
  | [], _ => rfl
  | x :: xs, h => by
    obtain ⟨ρ1, e1, b, e2, rfl, k⟩ := h x List.mem_cons_self
    have ih := compL_map p r xs fun y hy => h y (List.mem_cons_of_mem _ hy)
    rw [List.map_cons]
    cases hp : p x with
    | true =>
      obtain ⟨y, e3, rfl⟩ := k hp
      simp [compL, e1, e2, hp, e3, ih]
    | false => simp [compL, e1, e2, hp, ih]
/-- each item gives one, and the store moves -/
theorem compL_ind {α β : Type} {F : α → PyData} {G : β → PyData} {g : Gv} {f : Ev} {ρ : Env'} (J : Sto → Prop) (R : β → Prop) :
    ∀ (xs : List α) (S : Sto), J S → (∀ x ∈ xs, ∀ S, J S → W (g (F x) ρ) fun ρ1 => W (f ρ1 S) fun y => ∃ z, y.1 = .p (G z) ∧ R z ∧ J y.2) → W (compL g tYes f ρ (xs.map F) S) fun q => ∃ zs : List β, q.1 = zs.map G ∧ zs.length = xs.length ∧ (∀ z ∈ zs, R z) ∧ J q.2
  | [], S, j, _ => ⟨_, rfl, [], rfl, rfl, fun z hz => by simp at hz, j⟩
  | x :: xs, S, j, h => by
    obtain ⟨ρ1, e1, ⟨y, S1⟩, e2, z, e3, rz, j1⟩ := h x List.mem_cons_self S j
    simp only at e3 j1
    subst e3
    obtain ⟨q, e4, zs, e5, l, r, j2⟩ := compL_ind J R xs S1 j1 fun y hy => h y (List.mem_cons_of_mem _ hy)
    rw [List.map_cons]
    refine ⟨(G z :: q.1, q.2), by simp [compL, tYes, e1, e2, e4], z :: zs, by simp [e5], by simp [l], fun y hy => ?_, j2⟩
    rcases List.mem_cons.mp hy with rfl | hy
    · exact rz
    · exact r y hy
theorem rng_0 {n : Nat} : rngD 0 n = (List.range n).map fun i : Nat => PyData.int i := by
  unfold rngD
  simp
end DL
namespace DL
open PySem PySem.Spec L2
open PyProof.Rows hiding St
/-! ### the defs that many laws have -/
/-! _law_draws -/
noncomputable def b__law_draws : Sv := sSeq (sOwn 2 (lDisp (aNil))) (sSeq (sAsg (eC (.int 7)) (gN 3)) (sSeq (sFor [4, 5, 6, 7] (iR (aCons (eB lenD (aCons (eVar 0) (aNil))) (aNil))) (gN 4) (sSeq (sAsg (eB absD (aCons (eB intD (aCons (e2 ixD (eVar 0) (eVar 4)) (aNil))) (aNil))) (gN 5)) (sSeq (sAsg (e2 modD (eB intD (aCons (e2 addD (e2 addD (e2 mulI (eVar 3) (eC (.int 48271))) (e2 modD (eVar 5) (eC (.int 1000003)))) (eVar 4)) (aNil))) (eC (.int 65537))) (gN 3)) (sSeq (sAsg (eC (.int 0)) (gN 6)) (sSeq (sIf (tB (e2 geD (eVar 5) (e2 powD (eC (.int 10)) (eC (.int 18))))) (sAsg (eVar 5) (gN 6)) (sSeq (sMut appD 2 (e2 modD (eB intD (aCons (eVar 5) (aNil))) (eC (.int 997)))) (sMut appD 2 (e2 modD (e2 modD (eB intD (aCons (e2 addD (e2 mulI (eVar 3) (eC (.int 69621))) (eC (.int 5))) (aNil))) (eC (.int 65521))) (eC (.int 997)))))) (sFor [7] (iR (aCons (eC (.int 60)) (aNil))) (gN 7) (sIf (tB (e2 gtD (eVar 6) (eC (.int 0)))) (sSeq (sMut appD 2 (e2 modD (eB intD (aCons (eVar 6) (aNil))) (eC (.int 997)))) (sAsg (e2 fdivD (eVar 6) (eC (.int 997))) (gN 6))) (sNx)))))))) (sSeq (sFor [4] (iR (aCons (eVar 1) (aNil))) (gN 4) (sSeq (sAsg (e2 modD (eB intD (aCons (e2 addD (e2 addD (e2 mulI (eVar 3) (eC (.int 16807))) (eVar 4)) (eC (.int 1))) (aNil))) (eC (.int 65537))) (gN 3)) (sMut appD 2 (e2 modD (eB intD (aCons (eVar 3) (aNil))) (eC (.int 997)))))) (sRet (eSx (eVar 2) (oNone) (oSome (eVar 1)))))))
/-! _law_next -/
noncomputable def b__law_next : Sv := sSeq (sPutAug addI 0 (eC (.str "at")) (eC (.int 1))) (sSeq (sIf (tB (e2 gtD (e2 ixD (eVar 0) (eC (.str "at"))) (eB lenD (aCons (e2 ixD (eVar 0) (eC (.str "draws"))) (aNil))))) (sRet (eC (.int 0))) (sNx)) (sRet (e2 modD (eB intD (aCons (e2 ixD (e2 ixD (eVar 0) (eC (.str "draws"))) (e2 subD (e2 ixD (eVar 0) (eC (.str "at"))) (eC (.int 1)))) (aNil))) (eVar 1))))
noncomputable def f__law_draws := runG 2 8 b__law_draws
noncomputable def f__law_next := runG 2 2 b__law_next
noncomputable def b__law_same (self : List PyData → Option PyData) : Sv := sSeq (sIf (tTr (eIsa "tuple" (eVar 1))) (sSeq (sIf (tOr (tNot (tTr (eIsa "tuple" (eVar 0)))) (tB (e2 neD (eB lenD (aCons (eVar 0) (aNil))) (eB lenD (aCons (eVar 1) (aNil)))))) (sRet (eC (.bool false))) (sNx)) (sRet (e2 eqD (eL (lComp [2] (iR (aCons (eB lenD (aCons (eVar 1) (aNil))) (aNil))) (gN 2) (tNot (tTr (eCP self (aCons (e2 ixD (eVar 0) (eVar 2)) (aCons (e2 ixD (eVar 1) (eVar 2)) (aNil)))))) (eVar 2))) (eL (lDisp (aNil)))))) (sNx)) (sSeq (sIf (tB (e2 isD (eVar 1) (eC .none))) (sRet (e2 isD (eVar 0) (eC .none))) (sNx)) (sSeq (sIf (tTr (eIsa "str" (eVar 1))) (sRet (eAnd (eIsa "str" (eVar 0)) (e2 eqD (eVar 0) (eVar 1)))) (sNx)) (sRet (eAnd (eIsa "int" (eVar 0)) (eAnd (e2 eqD (eIsa "bool" (eVar 0)) (eIsa "bool" (eVar 1))) (e2 eqD (eVar 0) (eVar 1)))))))
noncomputable def f__law_same : Nat → List PyData → Option PyData
  | 0 => fun _ => none
  | n + 1 => runP 2 3 (b__law_same (f__law_same n))
/-- a list of ints -/
def IntL (l : List PyData) : Prop := ∃ ds : List Int, l = ds.map .int
theorem IntL.nil : IntL [] := ⟨[], rfl⟩
theorem IntL.snoc {l : List PyData} {x : Int} (h : IntL l) : IntL (l ++ [.int x]) := let ⟨ds, e⟩ := h; ⟨ds ++ [x], by simp [e]⟩
theorem IntL.snoc2 {l : List PyData} {x y : Int} (h : IntL l) : IntL (l ++ [.int x, .int y]) := let ⟨ds, e⟩ := h; ⟨ds ++ [x, y], by simp [e]⟩
theorem IntL.cut {l : List PyData} {lo hi : Option Int} (h : IntL l) : IntL (cutD l lo hi) := by
  obtain ⟨ds, rfl⟩ := h
  unfold cutD
  exact ⟨(ds.drop _).take _, by rw [List.map_take, List.map_drop]⟩
theorem draws_in {A B C E F : Option D} {S : Sto} {Q : Out → Prop} (hs : 10000 < sizeLine) (r : List Nat) (l : List PyData) (x : Int) (hL : IntL l) (hl : l.length + r.length ≤ 10000)
    (hQ : ∀ (l' : List PyData) (x' : Int), IntL l' → l'.length ≤ l.length + r.length → Q (.nx [A, B, some (.o (.list l')), C, E, F, some (.p (.int x')), none] S)) :
    W (forL (gN 7) (sFg [7] (sIf (tB (e2 gtD (eVar 6) (eC (PyData.int 0)))) (sSeq (sMut appD 2 (e2 modD (eB intD (aCons (eVar 6) aNil)) (eC (PyData.int 997)))) (sAsg (e2 fdivD (eVar 6) (eC (PyData.int 997))) (gN 6))) sNx)) (r.map fun i : Nat => PyData.int i)
      [A, B, some (.o (.list l)), C, E, F, some (.p (.int x)), none] S) Q := by
  refine forL_ind (fun r' ρ S' => S' = S ∧ ∃ (l' : List PyData) (x' : Int), ρ = [A, B, some (.o (.list l')), C, E, F, some (.p (.int x')), none] ∧ IntL l' ∧ l'.length + r'.length ≤ l.length + r.length) (fun k' r' ρ S' hi => ?_) (fun ρ S' hi => ?_) _ _ _ ⟨rfl, l, x, rfl, hL, Nat.le_refl _⟩
  · obtain ⟨rfl, l', x', rfl, hL', hl'⟩ := hi
    simp only [List.length_cons] at hl'
    simp
    split
    · exact ⟨by omega, hL'.snoc, by omega⟩
    · exact ⟨hL', by omega⟩
  · obtain ⟨rfl, ds', x', rfl, hL', hl'⟩ := hi
    exact hQ ds' x' hL' (by simpa using hl')
theorem draws_okN {many : Nat} (hm : many ≤ 5000) (ns : List Int) (h : ns.length ≤ 63) (S : Sto) : ∃ ds : List Int, f__law_draws [.f (.list (ns.map .int)), .p (.int (many : Int))] S = some (.p (.list (ds.map .int)), S) := by
  suffices H : W (f__law_draws [.f (.list (ns.map .int)), .p (.int (many : Int))] S) fun q => ∃ l, IntL l ∧ q = (.p (.list l), S) by
    obtain ⟨q, e, l, ⟨ds, rfl⟩, rfl⟩ := H
    exact ⟨ds, e⟩
  unfold f__law_draws b__law_draws
  have hz : (sizeLine : Nat) = 16777216 := sizeLine_eq
  simp
  rw [rng_0]
  refine ⟨by omega, ?_⟩
  refine forL_ind (fun r ρ S' => S' = S ∧ ∃ (l : List PyData) (m : Int), ρ = [some (.f (.list (ns.map .int))), some (.p (.int (many : Int))), some (.o (.list l)), some (.p (.int m)), none, none, none, none] ∧ IntL l ∧ (∀ x ∈ r, x < ns.length) ∧ l.length + 62 * r.length ≤ 62 * 63) (fun k r ρ S' hi => ?_) (fun ρ S' hi => ?_) _ _ _ ?_
  · obtain ⟨rfl, l, m, rfl, hL, hr, hl⟩ := hi
    have hk : k < ns.length := hr k List.mem_cons_self
    have hr' : ∀ x ∈ r, x < ns.length := fun x hx => hr x (List.mem_cons_of_mem _ hx)
    simp only [List.length_cons] at hl
    simp [atI_pos, hk]
    split
    · rw [rng_0]
      refine draws_in (by omega) _ l _ hL (by simp; omega) fun l' x' hL' hl' => ?_
      simp at hl' ⊢
      exact ⟨hL', hr', by omega⟩
    · refine ⟨by omega, by omega, ?_⟩
      rw [rng_0]
      refine draws_in (by omega) _ _ _ hL.snoc2 (by simp; omega) fun l' x' hL' hl' => ?_
      simp at hl' ⊢
      exact ⟨hL', hr', by omega⟩
  · obtain ⟨rfl, l, m, rfl, hL, hr, hl⟩ := hi
    simp
    refine ⟨by omega, ?_⟩
    rw [rng_0]
    refine forL_ind (fun r ρ S'' => S'' = S' ∧ ∃ (l : List PyData) (m : Int), ρ = [some (.f (.list (ns.map .int))), some (.p (.int (many : Int))), some (.o (.list l)), some (.p (.int m)), none, none, none, none] ∧ IntL l ∧ l.length + r.length ≤ 10000) (fun k r ρ S'' hi => ?_) (fun ρ S'' hi => ?_) _ _ _ ?_
    · obtain ⟨rfl, l, m, rfl, hL, hl⟩ := hi
      simp only [List.length_cons] at hl
      simp
      exact ⟨by omega, hL.snoc, by omega⟩
    · obtain ⟨rfl, l, m, rfl, hL, hl⟩ := hi
      simp
      exact hL.cut
    · refine ⟨rfl, l, m, rfl, hL, ?_⟩
      simp at hl ⊢
      omega
  · refine ⟨rfl, [], 7, rfl, .nil, fun x hx => by simpa using hx, ?_⟩
    simp
    omega
theorem draws_ok {m : Int} (h0 : 0 ≤ m) (hm : m ≤ 5000) (ns : List Int) (h : ns.length ≤ 63) (S : Sto) : ∃ ds : List Int, f__law_draws [.f (.list (ns.map .int)), .p (.int m)] S = some (.p (.list (ds.map .int)), S) := by
  obtain ⟨many, rfl⟩ : ∃ n : Nat, m = n := ⟨m.toNat, by omega⟩
  exact draws_okN (by omega) ns h S
/-! the draws, and where they are read -/
def Wd (ds : List Int) (a : Nat) : PyData := .dict [(.str "draws", .list (ds.map .int)), (.str "at", .int a)]
def Wdi (ds : List Int) (a : Int) : PyData := .dict [(.str "draws", .list (ds.map .int)), (.str "at", .int a)]
theorem wd_at {ds : List Int} {a : Int} : ixD (Wdi ds a) (.str "at") = some (.int a) := by kernel_rfl
theorem wd_draws {ds : List Int} {a : Int} : ixD (Wdi ds a) (.str "draws") = some (.list (ds.map .int)) := by kernel_rfl
theorem wd_set {ds : List Int} {a b : Int} : setD (Wdi ds a) (.str "at") (.int b) = some (Wdi ds b) := by kernel_rfl
theorem wd_i {ds : List Int} {a : Nat} : Wd ds a = Wdi ds a := rfl
theorem w_next {ds : List Int} {a : Nat} {m : Int} {rest : Sto} {Q : D × Sto → Prop} (hm : 0 < m) (h : ∀ (r : Int) (a' : Nat), 0 ≤ r → r < m → Q (.p (.int r), some (.d (Wd ds a')) :: rest)) : W (f__law_next [.c 0, .p (.int m)] (some (.d (Wd ds a)) :: rest)) Q := by
  unfold f__law_next b__law_next
  rw [wd_i]
  simp [wd_at, wd_draws, wd_set]
  split
  · exact h 0 (a + 1) (Int.le_refl _) hm
  · have e : (a : Int) + 1 - 1 = (a : Int) := by omega
    have ha : a < ds.length := by omega
    simp [e, atI_pos, ha]
    refine ⟨by omega, ?_⟩
    exact h _ (a + 1) (Int.fmod_nonneg_of_pos _ hm) (Int.fmod_lt_of_pos _ hm)
/-! the same -/
theorem same_refl_t {n : Nat} {xs : List PyData} (h : ∀ x ∈ xs, f__law_same n [x, x] = some (.bool true)) (hz : xs.length ≤ 100000) : f__law_same (n + 1) [.tuple xs, .tuple xs] = some (.bool true) := by
  suffices H : W (f__law_same (n + 1) [.tuple xs, .tuple xs]) fun q => q = .bool true from W_out H
  show W (runP 2 3 (b__law_same (f__law_same n)) _) _
  unfold b__law_same
  rw [w_runP]
  have hz : (sizeLine : Nat) = 16777216 := sizeLine_eq
  simp
  refine ⟨by omega, ?_⟩
  rw [rng_0]
  refine W.eq (compL_map (fun _ => false) (fun k : Nat => .int k) _ fun k hk => ?_) ?_
  · simp at hk
    simp [atI_pos, hk, h _ (List.getElem_mem hk)]
  · have e : List.filter (fun _ : Nat => false) (List.range xs.length) = [] := by simp
    rw [e]
    simp
theorem same_refl_i {n : Nat} {i : Int} : f__law_same (n + 1) [.int i, .int i] = some (.bool true) := by
  suffices H : W (f__law_same (n + 1) [.int i, .int i]) fun q => q = .bool true from W_out H
  show W (runP 2 3 (b__law_same (f__law_same n)) _) _
  unfold b__law_same
  rw [w_runP]
  simp
theorem same_refl_b {n : Nat} {i : Bool} : f__law_same (n + 1) [.bool i, .bool i] = some (.bool true) := by
  suffices H : W (f__law_same (n + 1) [.bool i, .bool i]) fun q => q = .bool true from W_out H
  show W (runP 2 3 (b__law_same (f__law_same n)) _) _
  unfold b__law_same
  rw [w_runP]
  simp
theorem same_refl_s {n : Nat} {i : Str} : f__law_same (n + 1) [.str i, .str i] = some (.bool true) := by
  suffices H : W (f__law_same (n + 1) [.str i, .str i]) fun q => q = .bool true from W_out H
  show W (runP 2 3 (b__law_same (f__law_same n)) _) _
  unfold b__law_same
  rw [w_runP]
  simp
theorem same_refl_n {n : Nat} : f__law_same (n + 1) [.none, .none] = some (.bool true) := by
  suffices H : W (f__law_same (n + 1) [.none, .none]) fun q => q = .bool true from W_out H
  show W (runP 2 3 (b__law_same (f__law_same n)) _) _
  unfold b__law_same
  rw [w_runP]
  simp
noncomputable def b__law_alike (self : List PyData → Option PyData) : Sv := sSeq (sIf (tTr (eIsa "tuple" (eVar 1))) (sSeq (sIf (tOr (tNot (tTr (eIsa "tuple" (eVar 0)))) (tB (e2 neD (eB lenD (aCons (eVar 0) (aNil))) (eB lenD (aCons (eVar 1) (aNil)))))) (sRet (eC (.bool false))) (sNx)) (sRet (e2 eqD (eL (lComp [2] (iR (aCons (eB lenD (aCons (eVar 1) (aNil))) (aNil))) (gN 2) (tNot (tTr (eCP self (aCons (e2 ixD (eVar 0) (eVar 2)) (aCons (e2 ixD (eVar 1) (eVar 2)) (aNil)))))) (eVar 2))) (eL (lDisp (aNil)))))) (sNx)) (sSeq (sIf (tB (e2 isD (eVar 1) (eC .none))) (sRet (e2 isD (eVar 0) (eC .none))) (sNx)) (sSeq (sIf (tTr (eIsa "bool" (eVar 1))) (sRet (eAnd (eIsa "bool" (eVar 0)) (e2 eqD (eVar 0) (eVar 1)))) (sNx)) (sSeq (sIf (tTr (eIsa "int" (eVar 1))) (sRet (eAnd (eIsa "int" (eVar 0)) (eAnd (eNot (eIsa "bool" (eVar 0))) (e2 eqD (eVar 0) (eVar 1))))) (sNx)) (sRet (eAnd (eIsa "str" (eVar 0)) (e2 eqD (eVar 0) (eVar 1)))))))
noncomputable def f__law_alike : Nat → List PyData → Option PyData
  | 0 => fun _ => none
  | n + 1 => runP 2 3 (b__law_alike (f__law_alike n))
theorem alike_refl_t {n : Nat} {xs : List PyData} (h : ∀ x ∈ xs, f__law_alike n [x, x] = some (.bool true)) (hz : xs.length ≤ 100000) : f__law_alike (n + 1) [.tuple xs, .tuple xs] = some (.bool true) := by
  suffices H : W (f__law_alike (n + 1) [.tuple xs, .tuple xs]) fun q => q = .bool true from W_out H
  show W (runP 2 3 (b__law_alike (f__law_alike n)) _) _
  unfold b__law_alike
  rw [w_runP]
  have hz : (sizeLine : Nat) = 16777216 := sizeLine_eq
  simp
  refine ⟨by omega, ?_⟩
  rw [rng_0]
  refine W.eq (compL_map (fun _ => false) (fun k : Nat => .int k) _ fun k hk => ?_) ?_
  · simp at hk
    simp [atI_pos, hk, h _ (List.getElem_mem hk)]
  · have e : List.filter (fun _ : Nat => false) (List.range xs.length) = [] := by simp
    rw [e]
    simp
theorem alike_refl_i {n : Nat} {i : Int} : f__law_alike (n + 1) [.int i, .int i] = some (.bool true) := by
  suffices H : W (f__law_alike (n + 1) [.int i, .int i]) fun q => q = .bool true from W_out H
  show W (runP 2 3 (b__law_alike (f__law_alike n)) _) _
  unfold b__law_alike
  rw [w_runP]
  simp
theorem alike_refl_b {n : Nat} {i : Bool} : f__law_alike (n + 1) [.bool i, .bool i] = some (.bool true) := by
  suffices H : W (f__law_alike (n + 1) [.bool i, .bool i]) fun q => q = .bool true from W_out H
  show W (runP 2 3 (b__law_alike (f__law_alike n)) _) _
  unfold b__law_alike
  rw [w_runP]
  simp
theorem alike_refl_s {n : Nat} {i : Str} : f__law_alike (n + 1) [.str i, .str i] = some (.bool true) := by
  suffices H : W (f__law_alike (n + 1) [.str i, .str i]) fun q => q = .bool true from W_out H
  show W (runP 2 3 (b__law_alike (f__law_alike n)) _) _
  unfold b__law_alike
  rw [w_runP]
  simp
theorem alike_refl_n {n : Nat} : f__law_alike (n + 1) [.none, .none] = some (.bool true) := by
  suffices H : W (f__law_alike (n + 1) [.none, .none]) fun q => q = .bool true from W_out H
  show W (runP 2 3 (b__law_alike (f__law_alike n)) _) _
  unfold b__law_alike
  rw [w_runP]
  simp
end DL
namespace DL
open PySem PySem.Spec L2
open PyProof.Rows hiding St
/-! ### more of ints -/
section
variable {i j : Int} {ns : List Int} {α : Type} {xs : List α} {F : α → PyData} {G : α → Int}
@[simp] theorem maxD_ii : maxD [.int i, .int j] = some (.int (max i j)) := by
  show some (PyData.int (if j > i then j else i)) = _
  congr 2
  split <;> omega
@[simp] theorem minD_ii : minD [.int i, .int j] = some (.int (min i j)) := by
  show some (PyData.int (if j < i then j else i)) = _
  congr 2
  split <;> omega
theorem intsD_map : intsD (xs.map fun a => .int (G a)) = some (xs.map G) := by
  induction xs with
  | nil => rfl
  | cons x xs ih => rw [List.map_cons, intsD, ih]; rfl
@[simp] theorem sumD_l : sumD [.list (xs.map fun a => .int (G a))] = some (.int (xs.map G).sum) := by
  show (intsD _).map _ = _
  rw [intsD_map]; rfl
@[simp] theorem sumD_t : sumD [.tuple (xs.map fun a => .int (G a))] = some (.int (xs.map G).sum) := by
  show (intsD _).map _ = _
  rw [intsD_map]; rfl
@[simp] theorem sumD_l1 : sumD [.list (ns.map .int)] = some (.int ns.sum) := by
  have := sumD_l (G := id) (xs := ns)
  simpa using this
@[simp] theorem sumD_t1 : sumD [.tuple (ns.map .int)] = some (.int ns.sum) := by
  have := sumD_t (G := id) (xs := ns)
  simpa using this
def cut {α : Type} (xs : List α) (lo hi : Option Int) : List α := (xs.drop (HT.sIx xs.length 0 lo)).take (HT.sIx xs.length xs.length hi - HT.sIx xs.length 0 lo)
@[simp] theorem cutD_map {lo hi : Option Int} : cutD (xs.map F) lo hi = (cut xs lo hi).map F := by
  unfold cutD cut
  rw [List.length_map, List.map_take, List.map_drop]
theorem cut_nn {a b : Nat} (h : a ≤ b) (hb : b ≤ xs.length) : cut xs (some (a : Int)) (some (b : Int)) = (xs.drop a).take (b - a) := by
  unfold cut
  rw [HT.sIx_nat, HT.sIx_nat, Nat.min_eq_left hb, Nat.min_eq_left (by omega)]
theorem cut_n1 {a b : Nat} (h : a ≤ b + 1) (hb : b + 1 ≤ xs.length) : cut xs (some (a : Int)) (some ((b : Int) + 1)) = (xs.drop a).take (b + 1 - a) := cut_nn (b := b + 1) h hb
theorem alikeB_int : alikeB (xs.map fun a => .int (G a)) = true := by
  unfold alikeB
  rw [List.all_eq_true]
  intro d hd
  obtain ⟨a, _, rfl⟩ := List.mem_map.mp hd
  rw [Bool.and_eq_true, List.all_eq_true]
  refine ⟨fun e he => ?_, rfl⟩
  obtain ⟨b, _, rfl⟩ := List.mem_map.mp he
  rfl
theorem maxF_int : PySem.W.maxD (.int i) (xs.map fun a => .int (G a)) = .int ((xs.map G).foldl max i) := by
  unfold PySem.W.maxD
  induction xs generalizing i with
  | nil => rfl
  | cons x xs ih =>
    rw [List.map_cons, List.foldl_cons, List.map_cons, List.foldl_cons]
    have : (if PySem.W.dataLt (PyData.int i) (.int (G x)) = true then PyData.int (G x) else .int i) = .int (max i (G x)) := by
      have e : PySem.W.dataLt (PyData.int i) (.int (G x)) = decide (i < G x) := PySem.W.dataLt_int _ _
      rw [e]
      by_cases h : i < G x
      · rw [if_pos (decide_eq_true h), Int.max_eq_right (by omega)]
      · rw [if_neg (by rw [decide_eq_false h]; exact Bool.false_ne_true), Int.max_eq_left (by omega)]
    rw [this, ih]
theorem minF_int : PySem.W.minD (.int i) (xs.map fun a => .int (G a)) = .int ((xs.map G).foldl min i) := by
  unfold PySem.W.minD
  induction xs generalizing i with
  | nil => rfl
  | cons x xs ih =>
    rw [List.map_cons, List.foldl_cons, List.map_cons, List.foldl_cons]
    have : (if PySem.W.dataLt (PyData.int (G x)) (.int i) = true then PyData.int (G x) else .int i) = .int (min i (G x)) := by
      have e : PySem.W.dataLt (PyData.int (G x)) (.int i) = decide (G x < i) := PySem.W.dataLt_int _ _
      rw [e]
      by_cases h : G x < i
      · rw [if_pos (decide_eq_true h), Int.min_eq_right (by omega)]
      · rw [if_neg (by rw [decide_eq_false h]; exact Bool.false_ne_true), Int.min_eq_left (by omega)]
    rw [this, ih]
/-- max of ints -/
def maxOf : List Int → Int
  | [] => 0
  | x :: xs => xs.foldl max x
def minOf : List Int → Int
  | [] => 0
  | x :: xs => xs.foldl min x
theorem maxD_l (h : xs ≠ []) : maxD [.list (xs.map fun a => .int (G a))] = some (.int (maxOf (xs.map G))) := by
  cases xs with
  | nil => exact absurd rfl h
  | cons x xs =>
    show (if _ then _ else _) = _
    rw [← List.map_cons (f := fun a => PyData.int (G a)), if_pos ⟨by simp, alikeB_int⟩, maxF_int]
    rfl
theorem maxD_t (h : xs ≠ []) : maxD [.tuple (xs.map fun a => .int (G a))] = some (.int (maxOf (xs.map G))) := by
  cases xs with
  | nil => exact absurd rfl h
  | cons x xs =>
    show (if _ then _ else _) = _
    rw [← List.map_cons (f := fun a => PyData.int (G a)), if_pos ⟨by simp, alikeB_int⟩, maxF_int]
    rfl
theorem minD_l (h : xs ≠ []) : minD [.list (xs.map fun a => .int (G a))] = some (.int (minOf (xs.map G))) := by
  cases xs with
  | nil => exact absurd rfl h
  | cons x xs =>
    show (if _ then _ else _) = _
    rw [← List.map_cons (f := fun a => PyData.int (G a)), if_pos ⟨by simp, alikeB_int⟩, minF_int]
    rfl
theorem minD_t (h : xs ≠ []) : minD [.tuple (xs.map fun a => .int (G a))] = some (.int (minOf (xs.map G))) := by
  cases xs with
  | nil => exact absurd rfl h
  | cons x xs =>
    show (if _ then _ else _) = _
    rw [← List.map_cons (f := fun a => PyData.int (G a)), if_pos ⟨by simp, alikeB_int⟩, minF_int]
    rfl
theorem le_foldl_max : ∀ (xs : List Int) (i : Int), i ≤ xs.foldl max i ∧ ∀ x ∈ xs, x ≤ xs.foldl max i
  | [], i => ⟨Int.le_refl _, by simp⟩
  | y :: xs, i => by
    obtain ⟨a, b⟩ := le_foldl_max xs (max i y)
    rw [List.foldl_cons]
    refine ⟨by omega, fun x hx => ?_⟩
    rcases List.mem_cons.mp hx with rfl | hx
    · omega
    · exact b x hx
theorem foldl_max_mem : ∀ (xs : List Int) (i : Int), xs.foldl max i = i ∨ xs.foldl max i ∈ xs
  | [], i => .inl rfl
  | y :: xs, i => by
    rw [List.foldl_cons]
    rcases foldl_max_mem xs (max i y) with h | h
    · rw [h]
      by_cases hh : i ≤ y
      · rw [Int.max_eq_right hh]; exact .inr List.mem_cons_self
      · rw [Int.max_eq_left (by omega)]; exact .inl rfl
    · exact .inr (List.mem_cons_of_mem _ h)
theorem maxOf_le {x : Int} (h : x ∈ ns) : x ≤ maxOf ns := by
  cases ns with
  | nil => simp at h
  | cons y ns =>
    obtain ⟨a, b⟩ := le_foldl_max ns y
    rcases List.mem_cons.mp h with rfl | h
    · exact a
    · exact b x h
theorem maxOf_mem (h : ns ≠ []) : maxOf ns ∈ ns := by
  cases ns with
  | nil => exact absurd rfl h
  | cons y ns =>
    rcases foldl_max_mem ns y with e | e
    · show ns.foldl max y ∈ _; rw [e]; exact List.mem_cons_self
    · exact List.mem_cons_of_mem _ e
theorem foldl_min_le : ∀ (xs : List Int) (i : Int), xs.foldl min i ≤ i ∧ ∀ x ∈ xs, xs.foldl min i ≤ x
  | [], i => ⟨Int.le_refl _, by simp⟩
  | y :: xs, i => by
    obtain ⟨a, b⟩ := foldl_min_le xs (min i y)
    rw [List.foldl_cons]
    refine ⟨by omega, fun x hx => ?_⟩
    rcases List.mem_cons.mp hx with rfl | hx
    · omega
    · exact b x hx
theorem foldl_min_mem : ∀ (xs : List Int) (i : Int), xs.foldl min i = i ∨ xs.foldl min i ∈ xs
  | [], i => .inl rfl
  | y :: xs, i => by
    rw [List.foldl_cons]
    rcases foldl_min_mem xs (min i y) with h | h
    · rw [h]
      by_cases hh : y ≤ i
      · rw [Int.min_eq_right hh]; exact .inr List.mem_cons_self
      · rw [Int.min_eq_left (by omega)]; exact .inl rfl
    · exact .inr (List.mem_cons_of_mem _ h)
theorem minOf_le {x : Int} (h : x ∈ ns) : minOf ns ≤ x := by
  cases ns with
  | nil => simp at h
  | cons y ns =>
    obtain ⟨a, b⟩ := foldl_min_le ns y
    rcases List.mem_cons.mp h with rfl | h
    · exact a
    · exact b x h
theorem minOf_mem (h : ns ≠ []) : minOf ns ∈ ns := by
  cases ns with
  | nil => exact absurd rfl h
  | cons y ns =>
    rcases foldl_min_mem ns y with e | e
    · show ns.foldl min y ∈ _; rw [e]; exact List.mem_cons_self
    · exact List.mem_cons_of_mem _ e
end
/-- a comprehension: what it gives -/
theorem w_compL {α : Type} {F : α → PyData} {g : Gv} {t : Tv} {f : Ev} {ρ : Env'} {S : Sto} {Q : List PyData × Sto → Prop} (p : α → Bool) (r : α → PyData) {xs ys : List α} (e : xs.filter p = ys) (h : ∀ x ∈ xs, W (g (F x) ρ) fun ρ1 => W (t ρ1 S) fun b => b = (p x, S) ∧ (p x = true → W (f ρ1 S) fun y => y = (.p (r x), S)))
    (q : Q (ys.map r, S)) : W (compL g t f ρ (xs.map F) S) Q := W.eq (compL_map p r xs h) (by rw [e]; exact q)
/-- .. of all -/
theorem w_compA {α : Type} {F : α → PyData} {g : Gv} {f : Ev} {ρ : Env'} {S : Sto} {Q : List PyData × Sto → Prop} (r : α → PyData) {xs : List α} (h : ∀ x ∈ xs, W (g (F x) ρ) fun ρ1 => W (f ρ1 S) fun y => y = (.p (r x), S))
    (q : Q (xs.map r, S)) : W (compL g tYes f ρ (xs.map F) S) Q :=
  w_compL (fun _ => true) r (by simp) (fun x hx => (h x hx).mono fun ρ1 w => W.eq (show tYes ρ1 S = some (true, S) from rfl) ⟨rfl, fun _ => w⟩) q
@[simp] theorem atI_m1 {xs : List PyData} : atI xs (-1) = xs.getLast? := by
  rw [List.getLast?_eq_getElem?]
  cases xs with
  | nil => rfl
  | cons x xs =>
    rw [atI_n (by omega) (by simp; omega)]
    congr 1
    simp only [List.length_cons]
    omega
@[simp] theorem isKK_s {x : Str} : isKK (.str x) = true := rfl
@[simp] theorem isKK_i {x : Int} : isKK (.int x) = true := rfl
/-- the store of a law without objects of its own -/
def Stw (ds : List Int) (S : Sto) : Prop := ∃ a, S = [some (.d (Wd ds a))]
@[simp] theorem merge_w {ds : List Int} : PyData.dict (mergeD [(.str "draws", .list (ds.map .int)), (.str "at", .int 0)]) = Wd ds 0 := by kernel_rfl
/-- a comprehension of draws -/
theorem w_compW {α β : Type} {F : α → PyData} {g : Gv} {f : Ev} {ρ : Env'} {S : Sto} {Q : List PyData × Sto → Prop} {ds : List Int} {xs : List α} (G : β → PyData) (R : β → Prop) (hS : Stw ds S)
    (h : ∀ x ∈ xs, ∀ a, W (g (F x) ρ) fun ρ1 => W (f ρ1 [some (.d (Wd ds a))]) fun y => ∃ z, y.1 = .p (G z) ∧ R z ∧ Stw ds y.2)
    (q : ∀ (zs : List β) (a : Nat), zs.length = xs.length → (∀ z ∈ zs, R z) → Q (zs.map G, [some (.d (Wd ds a))])) : W (compL g tYes f ρ (xs.map F) S) Q :=
  (compL_ind (G := G) (Stw ds) R xs S hS fun x hx S hS => by obtain ⟨a, rfl⟩ := hS; exact h x hx a).mono fun ⟨y, S'⟩ ⟨zs, e, l, r, a, e2⟩ => by
    simp only at e e2
    subst e e2
    exact q zs a l r
/-- loops over a range, by the turn -/
theorem forL_rng {g : Gv} {b : Sv} {Q : Out → Prop} {n : Nat} {ρ : Env'} {S : Sto} (I : Nat → Env' → Sto → Prop)
    (h : ∀ k, k < n → ∀ ρ S, I k ρ S → W (g (.int k) ρ) fun ρ1 => W (b ρ1 S) fun o => match o with | .nx ρ' S' => I (k + 1) ρ' S' | .ct ρ' S' => I (k + 1) ρ' S' | .bk ρ' S' => Q (.nx ρ' S') | .rt d S' => Q (.rt d S'))
    (hn : ∀ ρ S, I n ρ S → Q (.nx ρ S)) (h0 : I 0 ρ S) : W (forL g b (rngD 0 n) ρ S) Q := by
  rw [rng_0]
  refine forL_ind (fun r ρ S => ∃ k, r = (List.range n).drop k ∧ k ≤ n ∧ I k ρ S) (fun x r ρ S hi => ?_) (fun ρ S hi => ?_) _ _ _ ⟨0, by simp, Nat.zero_le _, h0⟩
  · obtain ⟨k, e, hk, i⟩ := hi
    have hlt : k < n := by
      rcases Nat.lt_or_ge k n with z | z
      · exact z
      · rw [List.drop_of_length_le (by simpa using z)] at e; cases e
    have e2 : (List.range n).drop k = k :: (List.range n).drop (k + 1) := by
      rw [List.drop_eq_getElem_cons (by simpa using hlt)]
      simp
    rw [e2] at e
    obtain ⟨rfl, rfl⟩ := List.cons.inj e
    refine (h x hlt ρ S i).mono fun ρ1 w => w.mono fun o q => ?_
    cases o with
    | nx ρ' S' => exact ⟨x + 1, rfl, hlt, q⟩
    | ct ρ' S' => exact ⟨x + 1, rfl, hlt, q⟩
    | bk ρ' S' => exact q
    | rt d S' => exact q
  · obtain ⟨k, e, hk, i⟩ := hi
    have hge : n ≤ k := by
      rcases Nat.lt_or_ge k n with z | z
      · have := congrArg List.length e
        simp at this
        omega
      · exact z
    have : k = n := by omega
    subst this
    exact hn ρ S i
/-- .. over a list, by the turn -/
theorem forL_ix {α : Type} {F : α → PyData} {g : Gv} {b : Sv} {Q : Out → Prop} {xs : List α} {ρ : Env'} {S : Sto} (I : Nat → Env' → Sto → Prop)
    (h : ∀ k (hk : k < xs.length), ∀ ρ S, I k ρ S → W (g (F xs[k]) ρ) fun ρ1 => W (b ρ1 S) fun o => match o with | .nx ρ' S' => I (k + 1) ρ' S' | .ct ρ' S' => I (k + 1) ρ' S' | .bk ρ' S' => Q (.nx ρ' S') | .rt d S' => Q (.rt d S'))
    (hn : ∀ ρ S, I xs.length ρ S → Q (.nx ρ S)) (h0 : I 0 ρ S) : W (forL g b (xs.map F) ρ S) Q := by
  refine forL_ind (fun r ρ S => ∃ k, r = xs.drop k ∧ k ≤ xs.length ∧ I k ρ S) (fun x r ρ S hi => ?_) (fun ρ S hi => ?_) _ _ _ ⟨0, by simp, Nat.zero_le _, h0⟩
  · obtain ⟨k, e, hk, i⟩ := hi
    have hlt : k < xs.length := by
      rcases Nat.lt_or_ge k xs.length with z | z
      · exact z
      · rw [List.drop_of_length_le z] at e; cases e
    rw [List.drop_eq_getElem_cons hlt] at e
    cases e
    refine (h k hlt ρ S i).mono fun ρ1 w => w.mono fun o q => ?_
    cases o with
    | nx ρ' S' => exact ⟨k + 1, rfl, hlt, q⟩
    | ct ρ' S' => exact ⟨k + 1, rfl, hlt, q⟩
    | bk ρ' S' => exact q
    | rt d S' => exact q
  · obtain ⟨k, e, hk, i⟩ := hi
    have hge : xs.length ≤ k := by
      rcases Nat.lt_or_ge k xs.length with z | z
      · have := congrArg List.length e
        simp at this
        omega
      · exact z
    have : k = xs.length := by omega
    subst this
    exact hn ρ S i
theorem maxOf_eq {l : List Int} {M : Int} (h1 : M ∈ l) (h2 : ∀ x ∈ l, x ≤ M) : maxOf l = M := by
  have h3 := maxOf_le h1
  have h4 := h2 _ (maxOf_mem (ns := l) (by intro e; rw [e] at h1; simp at h1))
  omega
theorem minOf_eq {l : List Int} {M : Int} (h1 : M ∈ l) (h2 : ∀ x ∈ l, M ≤ x) : minOf l = M := by
  have h3 := minOf_le h1
  have h4 := h2 _ (minOf_mem (ns := l) (by intro e; rw [e] at h1; simp at h1))
  omega
theorem same_ints {n : Nat} {l : List Int} (h : l.length ≤ 100000) : f__law_same (n + 2) [.tuple (l.map .int), .tuple (l.map .int)] = some (.bool true) :=
  same_refl_t (fun x hx => by obtain ⟨i, _, rfl⟩ := List.mem_map.mp hx; exact same_refl_i) (by simpa using h)
end DL
namespace DL
open PySem PySem.Spec L2
open PyProof.Rows hiding St
/-! ### sorted -/
section
variable {α : Type} {xs : List α} {F : α → PyData} {G : α → Int} {ns : List Int}
theorem sorted_map {le : α → α → Bool} (h : sortB (xs.map F) = true) (hle : ∀ a b, le a b = PySem.W.dataLe false id (F a) (F b)) : sortedL [.list (xs.map F)] = some ((xs.mergeSort le).map F) := by
  show (if _ then _ else _) = _
  rw [if_pos h, List.map_mergeSort fun a _ b _ => hle a b]
theorem sortB_int : sortB (xs.map fun a => .int (G a)) = true := by
  unfold sortB
  rw [alikeB_int]
  simp [ntB]
def sortI (ns : List Int) : List Int := ns.mergeSort fun a b => decide (a ≤ b)
@[simp] theorem sorted_i : sortedL [.list (ns.map .int)] = some ((sortI ns).map .int) :=
  sorted_map (F := PyData.int) (by have := sortB_int (G := id) (xs := ns); simpa using this) fun a b => by
    show _ = !PySem.W.dataLt (.int b) (.int a)
    rw [PySem.W.dataLt_int]
    by_cases h : a ≤ b
    · rw [decide_eq_true h, decide_eq_false (by omega)]; rfl
    · rw [decide_eq_false h, decide_eq_true (by omega)]; rfl
@[simp] theorem sorted_it : sortedL [.tuple (ns.map .int)] = some ((sortI ns).map .int) := sorted_i
@[simp] theorem sortI_len : (sortI ns).length = ns.length := List.length_mergeSort _
theorem sortI_perm : (sortI ns).Perm ns := List.mergeSort_perm _ _
theorem sortI_of (h : ns.Pairwise (· ≤ ·)) : sortI ns = ns := List.mergeSort_of_pairwise (h.imp fun h => decide_eq_true h)
/-! pairs of ints -/
def pr (p : Int × Int) : PyData := .tuple [.int p.1, .int p.2]
@[simp] theorem fitN_pr {n : Nat} {p : Int × Int} : fitN (n + 1) (pr p) = true := by simp [pr]
theorem alike_pr (p q : Int × Int) : PySem.W.alike (pr p) (pr q) = true := rfl
theorem sortB_pr {ps : List (Int × Int)} : sortB (ps.map pr) = true := by
  unfold sortB alikeB
  rw [Bool.and_eq_true, Bool.and_eq_true]
  refine ⟨⟨by simp, ?_⟩, by simp [pr, tupB]⟩
  rw [List.all_eq_true]
  intro d hd
  obtain ⟨a, _, rfl⟩ := List.mem_map.mp hd
  rw [Bool.and_eq_true, List.all_eq_true]
  refine ⟨fun e he => ?_, rfl⟩
  obtain ⟨b, _, rfl⟩ := List.mem_map.mp he
  exact alike_pr a b
def leP (p q : Int × Int) : Bool := decide (p.1 < q.1) || (decide (p.1 = q.1) && decide (p.2 ≤ q.2))
theorem leP_data (p q : Int × Int) : leP p q = PySem.W.dataLe false id (pr p) (pr q) := by
  show _ = !PySem.W.dataLt (pr q) (pr p)
  unfold pr
  rw [PySem.W.dataLt_pair rfl rfl, PySem.W.dataLt_int, PySem.W.dataLt_int]
  show _ = !(if (q.1 == p.1) = true then (if (q.2 == p.2) = true then false else decide (q.2 < p.2)) else decide (q.1 < p.1))
  unfold leP
  by_cases h1 : p.1 = q.1
  · by_cases h2 : p.2 = q.2
    · simp [h1, h2]
    · simp only [h1, h2, beq_self_eq_true, if_true, Int.lt_irrefl, decide_false, decide_true, Bool.false_or, Bool.true_and]
      rw [if_neg (by simp; omega)]
      by_cases h3 : p.2 ≤ q.2
      · rw [decide_eq_true h3, decide_eq_false (by omega)]; rfl
      · rw [decide_eq_false h3, decide_eq_true (by omega)]; rfl
  · rw [if_neg (by simp; omega)]
    simp only [h1, decide_false, Bool.false_and, Bool.or_false]
    by_cases h3 : p.1 < q.1
    · rw [decide_eq_true h3, decide_eq_false (by omega)]; rfl
    · rw [decide_eq_false h3, decide_eq_true (by omega)]; rfl
def sortP (ps : List (Int × Int)) : List (Int × Int) := ps.mergeSort leP
@[simp ↓ high] theorem w_gtpr {gs : Gsv} {p : Int × Int} {ρ : Env'} {Q : Env' → Prop} : W (gT gs (pr p) ρ) Q = W (gs [.int p.1, .int p.2] ρ) Q := w_gt
@[simp] theorem ix_pr0 {p : Int × Int} : ixD (pr p) (.int 0) = some (.int p.1) := rfl
@[simp] theorem ix_pr1 {p : Int × Int} : ixD (pr p) (.int 1) = some (.int p.2) := by
  show atI [PyData.int p.1, .int p.2] 1 = _
  rw [atI_i (by decide)]
  rfl
theorem neD_pr {ps : List (Int × Int)} : neD (.list (ps.map pr)) (.list []) = some (.bool (!ps.isEmpty)) := by
  rw [neD_l0 (by simp)]
  cases ps <;> rfl
theorem pr_mk {a b : Int} : PyData.tuple [.int a, .int b] = pr (a, b) := rfl
theorem ixN_m1 {n : Nat} : ixN (n + 1) (-1) = some n := by
  unfold ixN
  rw [if_neg (by decide), if_pos (by omega)]
  congr 1
  omega
theorem set_m1 {xs : List PyData} {a v : PyData} : setD (.list (xs ++ [a])) (.int (-1)) v = some (.list (xs ++ [v])) := by
  show (ixN (xs ++ [a]).length (-1)).map _ = _
  rw [List.length_append, List.length_singleton, ixN_m1]
  simp
theorem sorted_p {ps : List (Int × Int)} : sortedL [.list (ps.map pr)] = some ((sortP ps).map pr) := sorted_map sortB_pr leP_data
theorem sorted_pt {ps : List (Int × Int)} : sortedL [.tuple (ps.map pr)] = some ((sortP ps).map pr) := sorted_p
@[simp] theorem sortP_len {ps : List (Int × Int)} : (sortP ps).length = ps.length := List.length_mergeSort _
theorem sortP_of {ps : List (Int × Int)} (h : ps.Pairwise fun p q => p.1 < q.1) : sortP ps = ps := List.mergeSort_of_pairwise (h.imp fun h => by unfold leP; rw [decide_eq_true h]; rfl)
end
theorem alike_ints {n : Nat} {l : List Int} (h : l.length ≤ 100000) : f__law_alike (n + 2) [.tuple (l.map .int), .tuple (l.map .int)] = some (.bool true) :=
  alike_refl_t (fun x hx => by obtain ⟨i, _, rfl⟩ := List.mem_map.mp hx; exact alike_refl_i) (by simpa using h)
theorem alike_prs {n : Nat} {l : List (Int × Int)} (h : l.length ≤ 100000) : f__law_alike (n + 3) [.tuple (l.map pr), .tuple (l.map pr)] = some (.bool true) :=
  alike_refl_t (fun x hx => by
    obtain ⟨p, _, rfl⟩ := List.mem_map.mp hx
    exact alike_refl_t (fun y hy => by
      rcases List.mem_cons.mp hy with rfl | hy
      · exact alike_refl_i
      · rw [List.mem_singleton.mp hy]; exact alike_refl_i) (by simp)) (by simpa using h)
/-! ### while -/
@[simp ↓] theorem w_swh {is : List Nat} {t : Tv} {b : Sv} {ρ : Env'} {S : Sto} {Q : Out → Prop} : W (sWh is t b ρ S) Q = W (whD t (sFg is b) (wipeE ρ is) S) Q := rfl
/-- a loop by a falling measure -/
theorem wh_ind {t : Tv} {b : Sv} {Q : Out → Prop} (I : Nat → Env' → Sto → Prop)
    (h : ∀ n ρ S, I n ρ S → W (t ρ S) fun p => if p.1 = true then W (b ρ p.2) fun o => (match o with | .nx ρ' S' => ∃ m, m < n ∧ I m ρ' S' | .ct ρ' S' => ∃ m, m < n ∧ I m ρ' S' | .bk ρ' S' => Q (.nx ρ' S') | .rt d S' => Q (.rt d S')) else Q (.nx ρ p.2)) :
    ∀ (n : Nat) (ρ : Env') (S : Sto), I n ρ S → W (whD t b ρ S) Q := by
  have key : ∀ (N n : Nat), n ≤ N → ∀ (ρ : Env') (S : Sto), I n ρ S → ∃ (k : Nat) (o : Out), whN t b k ρ S = some o ∧ Q o := by
    intro N
    induction N with
    | zero =>
      intro n hn ρ S i
      obtain ⟨⟨k, S1⟩, e1, q⟩ := h n ρ S i
      simp only at q
      cases k with
      | false => exact ⟨1, .nx ρ S1, by simp [whN, e1], by simpa using q⟩
      | true =>
        rw [if_pos rfl] at q
        obtain ⟨o, e2, q⟩ := q
        cases o with
        | nx ρ' S' => obtain ⟨m, hm, _⟩ := q; omega
        | ct ρ' S' => obtain ⟨m, hm, _⟩ := q; omega
        | bk ρ' S' => exact ⟨1, .nx ρ' S', by simp [whN, e1, e2], q⟩
        | rt d S' => exact ⟨1, .rt d S', by simp [whN, e1, e2], q⟩
    | succ N ih =>
      intro n hn ρ S i
      obtain ⟨⟨k, S1⟩, e1, q⟩ := h n ρ S i
      simp only at q
      cases k with
      | false => exact ⟨1, .nx ρ S1, by simp [whN, e1], by simpa using q⟩
      | true =>
        rw [if_pos rfl] at q
        obtain ⟨o, e2, q⟩ := q
        cases o with
        | nx ρ' S' =>
          obtain ⟨m, hm, i'⟩ := q
          obtain ⟨k, o, e3, q3⟩ := ih m (by omega) ρ' S' i'
          exact ⟨k + 1, o, by simp [whN, e1, e2, e3], q3⟩
        | ct ρ' S' =>
          obtain ⟨m, hm, i'⟩ := q
          obtain ⟨k, o, e3, q3⟩ := ih m (by omega) ρ' S' i'
          exact ⟨k + 1, o, by simp [whN, e1, e2, e3], q3⟩
        | bk ρ' S' => exact ⟨1, .nx ρ' S', by simp [whN, e1, e2], q⟩
        | rt d S' => exact ⟨1, .rt d S', by simp [whN, e1, e2], q⟩
  intro n ρ S i
  obtain ⟨k, o, e, q⟩ := key n n (Nat.le_refl n) ρ S i
  exact ⟨o, whD_eq e, q⟩
end DL
namespace DL
open PySem PySem.Spec L2
open PyProof.Rows hiding St
/-! ### fractions -/
noncomputable def b_common : Sv := sSeq (sPar [0, 1] (aCons (eB absD (aCons (eVar 0) (aNil))) (aCons (eB absD (aCons (eVar 1) (aNil))) (aNil)))) (sSeq (sWh [] (tB (e2 gtD (eVar 1) (eC (.int 0)))) (sPar [0, 1] (aCons (eVar 1) (aCons (e2 modD (eVar 0) (eVar 1)) (aNil))))) (sRet (eVar 0)))
noncomputable def f_common := runP 2 2 b_common
noncomputable def b_fraction : Sv := sSeq (sAsg (eIf (tB (e2 gtD (eVar 1) (eC (.int 0)))) (eCP f_common (aCons (eVar 0) (aCons (eVar 1) (aNil)))) (eNeg (eCP f_common (aCons (eVar 0) (aCons (eVar 1) (aNil)))))) (gN 2)) (sRet (eTup (aCons (e2 fdivD (eVar 0) (eVar 2)) (aCons (e2 fdivD (eVar 1) (eVar 2)) (aNil)))))
noncomputable def f_fraction := runP 2 3 b_fraction
theorem common_ok {a b : Int} : f_common [.int a, .int b] = some (.int (Int.gcd a b)) := by
  suffices H : W (f_common [.int a, .int b]) fun q => q = .int (Int.gcd a b) from W_out H
  unfold f_common b_common
  rw [w_runP]
  simp
  refine wh_ind (fun n ρ S => S = [] ∧ ∃ x : Nat, ρ = [some (.p (.int x)), some (.p (.int n))] ∧ Nat.gcd x n = Int.gcd a b) (fun n ρ S hi => ?_) b.natAbs _ _ ⟨rfl, a.natAbs, rfl, rfl⟩
  obtain ⟨rfl, x, rfl, hg⟩ := hi
  simp
  split
  · rename_i hn
    refine ⟨by omega, x % n, Nat.mod_lt _ hn, n, ⟨rfl, ?_⟩, ?_⟩
    · rw [Int.fmod_eq_emod_of_nonneg _ (by omega)]; rfl
    · rw [← hg, Nat.gcd_comm n, ← Nat.gcd_rec, Nat.gcd_comm]
  · rename_i hn
    have : n = 0 := by omega
    subst this
    simp at hg
    rw [hg]
/-- in lowest terms, the lower above nought where .. -/
def frac (u l : Int) : Int × Int := let d := if 0 < l then (Int.gcd u l : Int) else -(Int.gcd u l : Int); (u.fdiv d, l.fdiv d)
theorem fraction_ok {u l : Int} (h0 : l ≠ 0 ∨ u ≠ 0) (hs : Int.gcd u l < 340282366920938463463374607431768211456) : f_fraction [.int u, .int l] = some (pr (frac u l)) := by
  suffices H : W (f_fraction [.int u, .int l]) fun q => q = pr (frac u l) from W_out H
  unfold f_fraction b_fraction
  rw [w_runP]
  have hg : 0 < Int.gcd u l := Int.gcd_pos_iff.mpr (h0.symm)
  simp [common_ok]
  split
  · rename_i h
    simp [frac, h, pr]
    omega
  · rename_i h
    simp [frac, h, pr]
    omega
end DL
namespace DL
open PySem PySem.Spec L2
open PyProof.Rows hiding St
/-! ### windows -/
theorem cut_kh {α : Type} {xs : List α} {k h : Nat} (hk : k ≤ xs.length) : cut xs (some (k : Int)) (some ((k : Int) + (h : Int))) = (xs.drop k).take h := by
  unfold cut
  rw [show (k : Int) + (h : Int) = ((k + h : Nat) : Int) by omega, HT.sIx_nat, HT.sIx_nat, Nat.min_eq_left hk]
  by_cases z : k + h ≤ xs.length
  · rw [Nat.min_eq_left z, Nat.add_sub_cancel_left]
  · rw [Nat.min_eq_right (by omega), List.take_of_length_le (by simp), List.take_of_length_le (by simp; omega)]
theorem cut_nn' {α : Type} {xs : List α} {a b : Nat} (ha : a ≤ xs.length) : cut xs (some (a : Int)) (some (b : Int)) = (xs.drop a).take (b - a) := by
  unfold cut
  rw [HT.sIx_nat, HT.sIx_nat, Nat.min_eq_left ha]
  by_cases z : b ≤ xs.length
  · rw [Nat.min_eq_left z]
  · rw [Nat.min_eq_right (by omega), List.take_of_length_le (by simp), List.take_of_length_le (by simp; omega)]
theorem row_ix (a b : Nat) : ∀ (xs : List Int) (s : Nat), ((List.range' s xs.length).filter fun j => decide (a ≤ j) && decide (j < b)).map (fun j => xs.getD (j - s) 0) = (xs.drop (a - s)).take (b - max a s)
  | [], s => by simp
  | x :: xs, s => by
    have ih := row_ix a b xs (s + 1)
    rw [List.length_cons, List.range'_succ]
    have e : ((List.range' (s + 1) xs.length).filter fun j => decide (a ≤ j) && decide (j < b)).map (fun j => (x :: xs).getD (j - s) 0) = ((List.range' (s + 1) xs.length).filter fun j => decide (a ≤ j) && decide (j < b)).map (fun j => xs.getD (j - (s + 1)) 0) := by
      refine List.map_congr_left fun j hj => ?_
      have := (List.mem_filter.mp hj).1
      rw [List.mem_range'_1] at this
      rw [show j - s = (j - (s + 1)) + 1 by omega, List.getD_cons_succ]
    rw [List.filter_cons]
    by_cases h1 : a ≤ s
    · by_cases h2 : s < b
      · rw [if_pos (by simp [h1, h2]), List.map_cons, e, ih, show a - s = 0 by omega, show a - (s + 1) = 0 by omega, show b - max a s = (b - max a (s + 1)) + 1 by omega]
        simp
      · rw [if_neg (by simp; omega), e, ih, show b - max a (s + 1) = 0 by omega, show b - max a s = 0 by omega]
        simp
    · rw [if_neg (by simp; omega), e, ih, show a - s = (a - (s + 1)) + 1 by omega, List.drop_succ_cons, show max a (s + 1) = max a s by omega]
theorem row_range (a b : Nat) (xs : List Int) : ((List.range xs.length).filter fun j => decide (a ≤ j) && decide (j < b)).map (fun j => xs.getD j 0) = (xs.drop a).take (b - a) := by
  have := row_ix a b xs 0
  simpa [List.range_eq_range'] using this
noncomputable def b_spans_of : Sv := sSeq (sOwn 1 (lDisp (aNil))) (sSeq (sFor [2, 3] (iP (eL (lB sortedL (aCons (eVar 0) (aNil))))) (gT (gCons (gN 2) (gCons (gN 3) (gNil)))) (sIf (tAnd (tB (e2 neD (eVar 1) (eL (lDisp (aNil))))) (tB (e2 leD (eVar 2) (e2 ixD (e2 ixD (eVar 1) (eNeg (eC (.int 1)))) (eC (.int 1)))))) (sPut 1 (eNeg (eC (.int 1))) (eTup (aCons (e2 ixD (e2 ixD (eVar 1) (eNeg (eC (.int 1)))) (eC (.int 0))) (aCons (eB maxD (aCons (e2 ixD (e2 ixD (eVar 1) (eNeg (eC (.int 1)))) (eC (.int 1))) (aCons (eVar 3) (aNil)))) (aNil))))) (sMut appD 1 (eTup (aCons (eVar 2) (aCons (eVar 3) (aNil))))))) (sRet (eB tupleD (aCons (eVar 1) (aNil)))))
noncomputable def f_spans_of := runP 1 4 b_spans_of
noncomputable def b__law_spans : Sv := sSeq (sAsg (eL (lDisp (aNil))) (gN 1)) (sSeq (sFor [2] (iP (eL (lB sortedL (aCons (eVar 0) (aNil))))) (gN 2) (sIf (tAnd (tB (e2 neD (eVar 1) (eL (lDisp (aNil))))) (tB (e2 geD (e2 ixD (e2 ixD (eVar 1) (e2 subD (eB lenD (aCons (eVar 1) (aNil))) (eC (.int 1)))) (eC (.int 1))) (eVar 2)))) (sAsg (eL (lE2 addL (eSx (eVar 1) (oNone) (oSome (eNeg (eC (.int 1))))) (eL (lDisp (aCons (eTup (aCons (e2 ixD (e2 ixD (eVar 1) (e2 subD (eB lenD (aCons (eVar 1) (aNil))) (eC (.int 1)))) (eC (.int 0))) (aCons (eB maxD (aCons (e2 ixD (e2 ixD (eVar 1) (e2 subD (eB lenD (aCons (eVar 1) (aNil))) (eC (.int 1)))) (eC (.int 1))) (aCons (e2 addD (eVar 2) (eC (.int 1))) (aNil)))) (aNil)))) (aNil)))))) (gN 1)) (sAsg (eL (lE2 addL (eVar 1) (eL (lDisp (aCons (eTup (aCons (eVar 2) (aCons (e2 addD (eVar 2) (eC (.int 1))) (aNil)))) (aNil)))))) (gN 1)))) (sRet (eB tupleD (aCons (eVar 1) (aNil)))))
noncomputable def f__law_spans := runP 1 3 b__law_spans
/-! ### spans -/
def stepP (fs : List (Int × Int)) (p : Int × Int) : List (Int × Int) := match fs.getLast? with
  | none => fs ++ [p]
  | some q => if p.1 ≤ q.2 then fs.dropLast ++ [(q.1, max q.2 p.2)] else fs ++ [p]
theorem stepP_len {fs : List (Int × Int)} {p : Int × Int} : (stepP fs p).length ≤ fs.length + 1 := by
  unfold stepP
  split
  · simp
  · rename_i q h
    have : fs ≠ [] := by rintro rfl; simp at h
    have := List.length_pos_iff.mpr this
    split <;> simp <;> omega
def spansP (ps : List (Int × Int)) : List (Int × Int) := ps.foldl stepP []
theorem spans_ok {ps : List (Int × Int)} (hl : ps.length ≤ 1000) : f_spans_of [.list (ps.map pr)] = some (.tuple ((spansP (sortP ps)).map pr)) := by
  suffices H : W (f_spans_of [.list (ps.map pr)]) fun q => q = .tuple ((spansP (sortP ps)).map pr) from W_out H
  unfold f_spans_of b_spans_of
  rw [w_runP]
  have hz : (sizeLine : Nat) = 16777216 := sizeLine_eq
  simp [sorted_p]
  refine ⟨by omega, ?_⟩
  have hlen : (sortP ps).length ≤ 1000 := by simpa using hl
  generalize sortP ps = qs at hlen
  refine forL_ind (fun r ρ S => S = [] ∧ ∃ fs : List (Int × Int), ρ = [some (.p (.list (ps.map pr))), some (.o (.list (fs.map pr))), none, none] ∧ fs.length + r.length ≤ 1000 ∧ r.foldl stepP fs = spansP qs) (fun p r ρ S hi => ?_) (fun ρ S hi => ?_) _ _ _ ⟨rfl, [], rfl, by simpa using hlen, rfl⟩
  · obtain ⟨rfl, fs, rfl, hl2, ef⟩ := hi
    simp only [List.length_cons] at hl2
    rw [List.foldl_cons] at ef
    rcases List.eq_nil_or_concat fs with rfl | ⟨l, q, rfl⟩
    · simp
      exact ⟨by omega, [p], by simp [pr], by simp; omega, ef⟩
    · rw [List.concat_eq_append] at hl2 ef ⊢
      have e0 : (l ++ [q]).map pr = l.map pr ++ [pr q] := by simp
      simp [neD_pr, -List.map_append]
      simp only [List.length_append, List.length_singleton] at hl2
      have es : stepP (l ++ [q]) p = if p.1 ≤ q.2 then l ++ [(q.1, max q.2 p.2)] else l ++ [q] ++ [p] := by simp [stepP]
      rw [es] at ef
      split
      · rename_i h
        rw [if_pos h] at ef
        rw [e0, set_m1]
        simp
        exact ⟨l ++ [(q.1, max q.2 p.2)], by simp [pr], by simp; omega, ef⟩
      · rename_i h
        rw [if_neg h] at ef
        exact ⟨by omega, l ++ [q] ++ [p], by simp [pr], by simp; omega, ef⟩
  · obtain ⟨rfl, fs, rfl, hl2, ef⟩ := hi
    simp
    rw [← ef]
    rfl
def ab (h : Nat) : Int × Int := ((h : Int), (h : Int) + 1)
theorem ab_sorted {l : List Nat} (h : l.Pairwise (· < ·)) : sortP (l.map ab) = l.map ab := sortP_of (List.pairwise_map.mpr (h.imp fun {a b} h => by show (a : Int) < (b : Int); omega))
theorem int_sorted {l : List Nat} (h : l.Pairwise (· < ·)) : sortI (l.map fun k : Nat => (k : Int)) = l.map fun k : Nat => (k : Int) := sortI_of (List.pairwise_map.mpr (h.imp fun {a b} h => by show (a : Int) ≤ (b : Int); omega))
theorem range_sorted {n : Nat} {p : Nat → Bool} : ((List.range n).filter p).Pairwise (· < ·) := List.Pairwise.filter _ List.pairwise_lt_range
theorem law_spans_ok {hs : List Nat} (hs2 : hs.Pairwise (· < ·)) (hl : hs.length ≤ 1000) : f__law_spans [.list (hs.map fun k : Nat => PyData.int k)] = some (.tuple ((spansP (hs.map ab)).map pr)) := by
  suffices H : W (f__law_spans [.list (hs.map fun k : Nat => PyData.int k)]) fun q => q = .tuple ((spansP (hs.map ab)).map pr) from W_out H
  unfold f__law_spans b__law_spans
  rw [w_runP]
  have hz : (sizeLine : Nat) = 16777216 := sizeLine_eq
  have e0 : (hs.map fun k : Nat => PyData.int k) = (hs.map fun k : Nat => (k : Int)).map PyData.int := by simp
  have hsort : sortedL [.list (hs.map fun k : Nat => PyData.int k)] = some (hs.map fun k : Nat => PyData.int k) := by rw [e0, sorted_i, int_sorted hs2]
  simp [hsort]
  refine ⟨by omega, ?_⟩
  refine forL_ind (fun r ρ S => S = [] ∧ ∃ fs : List (Int × Int), ρ = [some (.p (.list (hs.map fun k : Nat => PyData.int k))), some (.p (.list (fs.map pr))), none] ∧ fs.length + r.length ≤ 1000 ∧ (r.map ab).foldl stepP fs = spansP (hs.map ab)) (fun p r ρ S hi => ?_) (fun ρ S hi => ?_) _ _ _ ⟨rfl, [], by simp, by simpa using hl, rfl⟩
  · obtain ⟨rfl, fs, rfl, hl2, ef⟩ := hi
    simp only [List.length_cons] at hl2
    rw [List.map_cons, List.foldl_cons] at ef
    rcases List.eq_nil_or_concat fs with rfl | ⟨l, q, rfl⟩
    · simp
      exact ⟨by omega, [ab p], by simp [pr, ab], by simp; omega, ef⟩
    · rw [List.concat_eq_append] at hl2 ef ⊢
      have e0 : (l ++ [q]).map pr = l.map pr ++ [pr q] := by simp
      simp only [List.length_append, List.length_singleton] at hl2
      have hat : atI ((l ++ [q]).map pr) (l.length : Int) = some (pr q) := by
        rw [atI_pos]
        simp
      have hcut : cut (l ++ [q]) none (some (-1)) = l := by
        unfold cut
        have h1 : HT.sIx (l ++ [q]).length (l ++ [q]).length (some (-1)) = l.length := by
          show (if (-1 : Int) < 0 then (-1 + ((l ++ [q]).length : Int)).toNat else min (-1 : Int).toNat (l ++ [q]).length) = _
          rw [if_pos (by decide)]
          simp
          omega
        rw [h1, HT.sIx_none]
        simp
      have es : stepP (l ++ [q]) (ab p) = if (ab p).1 ≤ q.2 then l ++ [(q.1, max q.2 (ab p).2)] else l ++ [q] ++ [ab p] := by simp [stepP]
      rw [es] at ef
      simp [neD_pr, -List.map_append, hat, hcut]
      split
      · rename_i h
        have h' : (ab p).1 ≤ q.2 := h
        rw [if_pos h'] at ef
        exact ⟨by omega, l ++ [(q.1, max q.2 (ab p).2)], by simp [pr, ab], by simp; omega, ef⟩
      · rename_i h
        have h' : ¬ (ab p).1 ≤ q.2 := h
        rw [if_neg h'] at ef
        exact ⟨by omega, l ++ [q] ++ [ab p], by simp [pr, ab], by simp; omega, ef⟩
  · obtain ⟨rfl, fs, rfl, hl2, ef⟩ := hi
    simp
    rw [← ef]
    rfl
theorem filter_len {n : Nat} {p : Nat → Bool} : ((List.range n).filter p).length ≤ n := by
  have := List.length_filter_le p (List.range n)
  simpa using this
theorem spansP_len {l : List Nat} (hl : l.length ≤ 1000) : (spansP (l.map ab)).length ≤ 1000 := by
  have : ∀ (r : List (Int × Int)) (fs : List (Int × Int)), (r.foldl stepP fs).length ≤ fs.length + r.length := by
    intro r
    induction r with
    | nil => intro fs; simp
    | cons p r ih =>
      intro fs
      have h1 := ih (stepP fs p)
      have h2 := stepP_len (fs := fs) (p := p)
      simp only [List.foldl_cons, List.length_cons]
      omega
  have := this (l.map ab) []
  unfold spansP
  simp at this
  omega
end DL
namespace DL
open PySem PySem.Spec L2
open PyProof.Rows hiding St
/-! ### a, b = x, y with fresh objects among these -/
/-- the fresh objects' values -/
def oA : List V → List D → List V
  | v :: vs, .o _ :: ds => v :: oA vs ds
  | _ :: vs, _ :: ds => oA vs ds
  | _, _ => []
abbrev OrO (Lf O : AdP) : AdP := fun a => Lf a ∨ O a
def AfOk (c : Cxt) (t : TA) (f : Av) : Prop := ∀ Lf adr S σ H ρ ds S' (Q : List V → Hp → Prop), EOk c Lf adr S σ H ρ → f ρ S = some (ds, S') →
  (∀ vs adr' H' (O : AdP), Ext adr S H adr' S' H' → StOk c (OrO Lf O) adr' S' H' → (∀ a, O a → H a = none) → DRL c.K H' (Lvv (OrO Lf O) adr' S') (OrO Lf O) (LvC adr' S') adr' S'.length vs ds →
    (oA vs ds).Nodup → (∀ v ∈ oA vs ds, ∃ a, v = .ref a ∧ O a) → Q vs H') → t σ H Q
def DAf (c : Cxt) (es : List Expr) (f : Av) : Prop := ∃ t, (∀ X, InC c X → PA X es t) ∧ AfOk c t f
def afP (fa : Ev) (fs : Av) : Av := fun ρ S => (fa ρ S).bind fun p => match p.1 with
  | .p d => (fs ρ p.2).bind fun q => some (.p d :: q.1, q.2)
  | .c k => (fs ρ p.2).bind fun q => some (.c k :: q.1, q.2)
  | _ => none
def afF (ff : Fsv) (fs : Av) : Av := fun ρ S => (ff ρ S).bind fun p => (fs ρ p.2).bind fun q => some (.o p.1 :: q.1, q.2)
section
variable {c : Cxt} {e : En} {Lf : AdP} {adr : Nat → Addr} {S : Sto} {H : Hp} {σ : L2.St} {ρ : Env'} {pos : Pos} {a : Expr} {es : List Expr} {fa : Ev} {fs : Av} {ff : Fsv}
theorem orO_none : OrO Lf (fun _ => False) = Lf := funext fun a => propext ⟨fun z => z.elim id False.elim, .inl⟩
theorem daf_nil : DAf c [] aNil := ⟨_, fun X _ => pa_nil, fun Lf adr S σ H ρ ds S' Q I e w => by
  cases e
  exact w [] adr H (fun _ => False) .refl (by rw [orO_none]; exact I.sto) (fun a z => z.elim) .nil List.nodup_nil fun v z => by cases z⟩
theorem dr_pc {K : PySem.W.Frag} {L L2 Lf2 C C2 : AdP} {n : Nat} {v : V} {d : D} : (∃ x, d = .p x) ∨ (∃ k, d = .c k) → DR K H L2 Lf2 C2 adr n v d → DR K H L2 Lf C adr n v d := by
  rintro (⟨x, rfl⟩ | ⟨k, rfl⟩) h <;> exact h
theorem daf_p (ha : DE c a fa) (hs : DAf c es fs) (hst : noStar (a :: es) = true) : DAf c (a :: es) (afP fa fs) := by
  obtain ⟨ta, pa, va⟩ := ha
  obtain ⟨ts, ps, vs⟩ := hs
  refine ⟨_, fun X hX => pa_cons (pa X hX) (ps X hX) (star_cons hst), fun Lf adr S σ H ρ ds S' Q I e w => ?_⟩
  unfold afP at e
  obtain ⟨⟨x, S1⟩, e1, e2⟩ := Option.bind_eq_some_iff.mp e
  have key : ∀ d, x = d → ((∃ y, d = .p y) ∨ (∃ k, d = .c k)) → ((fs ρ S1).bind fun q => some (d :: q.1, q.2)) = some (ds, S') → tCons ta ts σ H Q := by
    rintro d rfl hd e2
    obtain ⟨⟨y, S2⟩, e3, e4⟩ := Option.bind_eq_some_iff.mp e2
    cases e4
    refine va Lf adr S σ H ρ _ _ _ I e1 fun v adr1 H1 x1 s1 r1 => ?_
    refine vs Lf adr1 S1 σ H1 ρ _ _ _ (I.ext x1 s1) e3 fun us adr2 H2 O x2 s2 hO r2 nd al => ?_
    have hOn : ∀ a, O a → H a = none := fun a z => by
      cases q : H a with
      | none => rfl
      | some o => exact absurd (hO a z) (x1.trk a (by rw [q]; exact fun z => nomatch z))
    have r1' := r1.ext x2 (Lf' := OrO Lf O) (fun b z => z.imp id (hO b)) (fun b z => .inl z) s1.disj
    have eo : oA (v :: us) (x :: y) = oA us y := by rcases hd with ⟨y', rfl⟩ | ⟨k, rfl⟩ <;> rfl
    exact w _ adr2 H2 O (x1.trans x2) s2 hOn (.cons r1' r2) (by rw [eo]; exact nd) (by rw [eo]; exact al)
  cases x with
  | p d => exact key _ rfl (.inl ⟨d, rfl⟩) e2
  | c k => exact key _ rfl (.inr ⟨k, rfl⟩) e2
  | o m => cases e2
  | f m => cases e2
theorem daf_f (ha : DF c a ff) (hs : DAf c es fs) (hst : noStar (a :: es) = true) : DAf c (a :: es) (afF ff fs) := by
  obtain ⟨ta, pa, va⟩ := ha
  obtain ⟨ts, ps, vs⟩ := hs
  refine ⟨_, fun X hX => pa_cons (pa X hX) (ps X hX) (star_cons hst), fun Lf adr S σ H ρ ds S' Q I e w => ?_⟩
  unfold afF at e
  simp only [Option.bind_eq_some_iff] at e
  obtain ⟨⟨m, S1⟩, e1, ⟨y, S2⟩, e3, e4⟩ := e
  cases e4
  refine va Lf adr S σ H ρ _ _ _ I e1 fun p adr1 H1 x1 s1 hp ob => ?_
  have hl0 : ∀ a, (Lf a ∨ a = p) → Lf a ∨ H a = none := fun a z => z.imp id fun q => by rw [q]; exact hp
  refine vs (fun a => Lf a ∨ a = p) adr1 S1 σ H1 ρ _ _ _ (I.ext' x1 s1 hl0 fun a z => .inl z) e3 fun us adr2 H2 O x2 s2 hO r2 nd al => ?_
  have eL : OrO (fun a => Lf a ∨ a = p) O = OrO Lf (fun a => a = p ∨ O a) := funext fun a => propext or_assoc
  rw [eL] at s2 r2
  have hOn : ∀ a, (a = p ∨ O a) → H a = none := fun a z => by
    rcases z with z | z
    · rw [z]; exact hp
    · cases q : H a with
      | none => rfl
      | some o => exact absurd (hO a z) (x1.trk a (by rw [q]; exact fun z => nomatch z))
  have hp1 : H1 p ≠ none := s1.lf p (.inr rfl)
  have ob2 : Ob H2 (Lvv (OrO Lf (fun a => a = p ∨ O a)) adr2 S2) p m := ob.tr (x2.tr fun b z => z.elim (fun q => .inl (.inl q)) fun q => q.elim (fun q => .inl (.inr q)) fun q => .inr (hO b q)) fun o q => x2.keep p o q fun z => s1.disj p z (.inr rfl)
  refine w (.ref p :: us) adr2 H2 (fun a => a = p ∨ O a) (x1.trans x2) s2 hOn (.cons ⟨p, rfl, .inr (.inl rfl), ob2⟩ r2) (List.nodup_cons.mpr ⟨fun z => ?_, nd⟩) fun v hv => ?_
  · obtain ⟨a, e, ha⟩ := al _ z
    cases e
    exact hp1 (hO p ha)
  · rcases List.mem_cons.mp hv with rfl | hv
    · exact ⟨p, rfl, .inl rfl⟩
    · obtain ⟨a, e, ha⟩ := al _ hv
      exact ⟨a, e, .inr ha⟩
/-- the state, while some new objects are not yet in their slots -/
structure OkO (c : Cxt) (e : En) (adr : Nat → Addr) (S : Sto) (σ : L2.St) (H : Hp) (ρ : Env') (O : AdP) : Prop where
  eok : EOk c (OrO (LfN e σ ρ) O) adr S σ H ρ
  ext : Ext e.adr e.S e.H adr S H
  fresh : ∀ a, ownA σ ρ a → e.H a = none
  freshO : ∀ a, O a → e.H a = none
  sep : ∀ a, O a → ¬ ownA σ ρ a
  inj : ∀ (i j : Nat) (m m' : PyData) (a : Addr), ρ[i]? = some (some (D.o m)) → ρ[j]? = some (some (D.o m')) → σ[i]? = some (some (V.ref a)) → σ[j]? = some (some (V.ref a)) → i = j
  frz : ∀ (i : Nat) (m : PyData) (a : Addr), ρ[i]? = some (some (D.f m)) → σ[i]? = some (some (V.ref a)) → e.H a ≠ none ∨ FrW c e a m
  lf0 : ∀ a, e.Lf a → e.H a ≠ none
  base : Tr e.bH e.bL H (Lvv (OrO (LfN e σ ρ) O) adr S)
theorem Ok.toO {adr' : Nat → Addr} {S' : Sto} {H' : Hp} {O : AdP} (I : Ok c e adr S σ H ρ) (x : Ext adr S H adr' S' H') (s : StOk c (OrO (LfN e σ ρ) O) adr' S' H') (hO : ∀ a, O a → H a = none) : OkO c e adr' S' σ H' ρ O := by
  have hl0 : ∀ a, OrO (LfN e σ ρ) O a → LfN e σ ρ a ∨ H a = none := fun a z => z.imp id (hO a)
  refine ⟨I.eok.ext' x s hl0 fun a z => .inl z, I.ext.trans x, I.fresh, fun a z => ?_, fun a z q => ?_, I.inj, I.frz, I.lf0, I.base.trans (x.tr hl0)⟩
  · cases q : e.H a with
    | none => rfl
    | some o => exact absurd (hO a z) (I.ext.trk a (by rw [q]; exact fun z => nomatch z))
  · exact I.eok.sto.lf a (.inr q) (hO a z)
theorem OkO.ok {O : AdP} (I : OkO c e adr S σ H ρ O) : Ok c e adr S σ H ρ :=
  ⟨I.eok.reown (fun a z => .inl z) fun i m a h1 h2 => .inr ⟨i, m, h1, h2⟩, I.ext, I.fresh, I.inj, I.frz, I.lf0, I.base.trans (tr_less fun a z => z.imp .inl id)⟩
theorem own_set {v : V} {d : D} {i : Nat} (hl : i < ρ.length) {a : Addr} (h : ownA (σ.set i (some v)) (ρ.set i (some d)) a) (hd : ∀ m, d ≠ .o m) : ownA σ ρ a := by
  obtain ⟨j, m, h1, h2⟩ := h
  by_cases hj : j = i
  · subst hj
    rw [List.getElem?_set_self hl] at h1
    cases h1
    exact absurd rfl (hd m)
  · rw [List.getElem?_set_ne (Ne.symm hj)] at h1 h2
    exact ⟨j, m, h1, h2⟩
theorem OkO.setP {O : AdP} {v : V} {d : D} {i : Nat} (I : OkO c e adr S σ H ρ O) (hl : i < ρ.length) (h : DR c.K H (Lvv (OrO (LfN e σ ρ) O) adr S) (OrO (LfN e σ ρ) O) (LvC adr S) adr S.length v d) (h1 : ∀ m, d ≠ .o m) (h2 : ∀ m, d ≠ .f m) :
    OkO c e adr S (σ.set i (some v)) H (ρ.set i (some d)) O := by
  have own : ∀ a, ownA (σ.set i (some v)) (ρ.set i (some d)) a → ownA σ ρ a := fun a z => own_set hl z h1
  have sub : ∀ a, OrO (LfN e (σ.set i (some v)) (ρ.set i (some d))) O a → OrO (LfN e σ ρ) O a := fun a z => z.imp (fun q => q.imp id (own a)) id
  have get : ∀ (j : Nat) (d' : D), (ρ.set i (some d))[j]? = some (some d') → (∀ m, d ≠ .o m) → (j = i ∧ d' = d) ∨ (j ≠ i ∧ ρ[j]? = some (some d') ∧ (σ.set i (some v))[j]? = σ[j]?) := fun j d' q _ => by
    by_cases hj : j = i
    · subst hj
      rw [List.getElem?_set_self hl] at q
      cases q
      exact .inl ⟨rfl, rfl⟩
    · rw [List.getElem?_set_ne (Ne.symm hj)] at q
      exact .inr ⟨hj, q, List.getElem?_set_ne (Ne.symm hj)⟩
  refine ⟨(I.eok.set i h).reown sub fun j m a q1 q2 => .inl (.inr ⟨j, m, q1, q2⟩), I.ext, fun a z => I.fresh a (own a z), I.freshO, fun a z q => I.sep a z (own a q), fun j k m1 m2 a q1 q2 q3 q4 => ?_, fun j m a q1 q2 => ?_, I.lf0, I.base.trans (tr_less fun a z => z.imp (sub a) id)⟩
  · rcases get j _ q1 h1 with ⟨_, z⟩ | ⟨_, a1, a2⟩
    · exact absurd z.symm (h1 _)
    · rcases get k _ q2 h1 with ⟨_, z⟩ | ⟨_, b1, b2⟩
      · exact absurd z.symm (h1 _)
      · exact I.inj j k m1 m2 a a1 b1 (by rw [← a2]; exact q3) (by rw [← b2]; exact q4)
  · rcases get j _ q1 h1 with ⟨_, z⟩ | ⟨_, a1, a2⟩
    · exact absurd z.symm (h2 _)
    · exact I.frz j m a a1 (by rw [← a2]; exact q2)
theorem OkO.setO {O : AdP} {p : Addr} {m : PyData} {i : Nat} (I : OkO c e adr S σ H ρ O) (hl : i < ρ.length) (hp : O p) (ob : Ob H (Lvv (OrO (LfN e σ ρ) O) adr S) p m) :
    OkO c e adr S (σ.set i (some (.ref p))) H (ρ.set i (some (.o m))) (fun a => O a ∧ a ≠ p) := by
  have hσ : i < σ.length := by rw [I.eok.len]; exact hl
  have own : ∀ a, ownA (σ.set i (some (.ref p))) (ρ.set i (some (.o m))) a → ownA σ ρ a ∨ a = p := fun a ⟨j, m', q1, q2⟩ => by
    by_cases hj : j = i
    · subst hj
      rw [List.getElem?_set_self hσ] at q2
      cases q2
      exact .inr rfl
    · rw [List.getElem?_set_ne (Ne.symm hj)] at q1 q2
      exact .inl ⟨j, m', q1, q2⟩
  have sub : ∀ a, OrO (LfN e (σ.set i (some (.ref p))) (ρ.set i (some (.o m)))) (fun a => O a ∧ a ≠ p) a → OrO (LfN e σ ρ) O a := fun a z => by
    rcases z with (z | z) | z
    · exact .inl (.inl z)
    · rcases own a z with z | z
      · exact .inl (.inr z)
      · rw [z]; exact .inr hp
    · exact .inr z.1
  have np : ∀ (j : Nat) (m' : PyData), ρ[j]? = some (some (D.o m')) → σ[j]? = some (some (V.ref p)) → False := fun j m' q1 q2 => I.sep p hp ⟨j, m', q1, q2⟩
  refine ⟨(I.eok.set i (v := .ref p) (d := .o m) ⟨p, rfl, .inr hp, ob⟩).reown sub fun j m a q1 q2 => .inl (.inr ⟨j, m, q1, q2⟩), I.ext, fun a z => ?_, fun a z => I.freshO a z.1, fun a z q => ?_, fun j k m1 m2 a q1 q2 q3 q4 => ?_, fun j m' a q1 q2 => ?_, I.lf0, I.base.trans (tr_less fun a z => z.imp (sub a) id)⟩
  · rcases own a z with z | z
    · exact I.fresh a z
    · rw [z]; exact I.freshO p hp
  · rcases own a q with q | q
    · exact I.sep a z.1 q
    · exact z.2 q
  · by_cases hj : j = i
    · by_cases hk : k = i
      · rw [hj, hk]
      · subst hj
        rw [List.getElem?_set_self hσ] at q3
        cases q3
        rw [List.getElem?_set_ne (Ne.symm hk)] at q2 q4
        exact (np k m2 q2 q4).elim
    · by_cases hk : k = i
      · subst hk
        rw [List.getElem?_set_self hσ] at q4
        cases q4
        rw [List.getElem?_set_ne (Ne.symm hj)] at q1 q3
        exact (np j m1 q1 q3).elim
      · rw [List.getElem?_set_ne (Ne.symm hj)] at q1 q3
        rw [List.getElem?_set_ne (Ne.symm hk)] at q2 q4
        exact I.inj j k m1 m2 a q1 q2 q3 q4
  · by_cases hj : j = i
    · subst hj
      rw [List.getElem?_set_self hl] at q1
      cases q1
    · rw [List.getElem?_set_ne (Ne.symm hj)] at q1 q2
      exact I.frz j m' a q1 q2
/-- the slots get data, cells, fresh objects -/
def setAllO : List Nat → List D → Env' → Option Env'
  | [], [], ρ => some ρ
  | i :: is, .p d :: ds, ρ => if i < ρ.length then setAllO is ds (ρ.set i (some (.p d))) else none
  | i :: is, .c k :: ds, ρ => if i < ρ.length then setAllO is ds (ρ.set i (some (.c k))) else none
  | i :: is, .o m :: ds, ρ => if i < ρ.length then setAllO is ds (ρ.set i (some (.o m))) else none
  | _, _, _ => none
theorem drl_less {K : PySem.W.Frag} {Lf' C : AdP} {n : Nat} (h : ∀ a, Lf' a → Lf a) : ∀ {vs : List V} {ds : List D}, DRL K H (Lvv Lf adr S) Lf C adr n vs ds → (∀ v ∈ oA vs ds, ∃ a, v = .ref a ∧ Lf' a) → (∀ d ∈ ds, ∀ m, d ≠ .f m) → DRL K H (Lvv Lf' adr S) Lf' C adr n vs ds
  | _, _, .nil, _, _ => .nil
  | _, _, @DRL.cons _ _ _ _ _ _ _ v vs d ds a b, ho, hf => by
    have tl : ∀ (x : D), d = x → (∀ v ∈ oA vs ds, ∃ a, v = .ref a ∧ Lf' a) := fun x hx u hu => ho u (by cases d <;> first | exact hu | exact List.mem_cons_of_mem _ hu)
    refine .cons ?_ (drl_less h b (tl _ rfl) fun x hx => hf x (List.mem_cons_of_mem _ hx))
    cases d with
    | p d => exact At.tr (tr_less fun x z => z.imp (h x) id) d a
    | c k => exact a
    | o m =>
      obtain ⟨p, rfl, _, ob⟩ := a
      obtain ⟨q, e, hq⟩ := ho (.ref p) List.mem_cons_self
      cases e
      exact ⟨p, rfl, hq, ob.tr (tr_less fun x z => z.imp (h x) id) fun _ z => z⟩
    | f m => exact absurd rfl (hf _ List.mem_cons_self m)
theorem setAllO_f : ∀ {is : List Nat} {ds : List D} {ρ ρ' : Env'}, setAllO is ds ρ = some ρ' → ∀ d ∈ ds, ∀ m, d ≠ .f m
  | _, [], _, _, _, d, hd, _ => by cases hd
  | [], d :: ds, _, _, h, _, _, _ => by cases d <;> cases h
  | i :: is, .f m :: ds, _, _, h, _, _, _ => by cases h
  | i :: is, .p x :: ds, ρ, ρ', h, d, hd, m => by
    unfold setAllO at h
    split at h
    · rcases List.mem_cons.mp hd with rfl | hd
      · exact fun z => nomatch z
      · exact setAllO_f h d hd m
    · cases h
  | i :: is, .c x :: ds, ρ, ρ', h, d, hd, m => by
    unfold setAllO at h
    split at h
    · rcases List.mem_cons.mp hd with rfl | hd
      · exact fun z => nomatch z
      · exact setAllO_f h d hd m
    · cases h
  | i :: is, .o x :: ds, ρ, ρ', h, d, hd, m => by
    unfold setAllO at h
    split at h
    · rcases List.mem_cons.mp hd with rfl | hd
      · exact fun z => nomatch z
      · exact setAllO_f h d hd m
    · cases h
theorem OkO.setAll : ∀ {is : List Nat} {vs : List V} {ds : List D} {σ : L2.St} {ρ ρ' : Env'} {O : AdP}, OkO c e adr S σ H ρ O → DRL c.K H (Lvv (OrO (LfN e σ ρ) O) adr S) (OrO (LfN e σ ρ) O) (LvC adr S) adr S.length vs ds → (oA vs ds).Nodup → (∀ v ∈ oA vs ds, ∃ a, v = .ref a ∧ O a) →
    setAllO is ds ρ = some ρ' → vs.length = is.length ∧ Ok c e adr S (setV is vs σ) H ρ'
  | [], _, [], σ, ρ, ρ', O, I, r, nd, al, h => by cases r; cases h; exact ⟨rfl, I.ok⟩
  | [], _, d :: ds, _, _, _, _, I, r, nd, al, h => by cases d <;> cases h
  | i :: is, _, [], σ, ρ, ρ', O, I, r, nd, al, h => by cases h
  | i :: is, _, .f m :: ds, σ, ρ, ρ', O, I, r, nd, al, h => by cases h
  | i :: is, _, .p d :: ds, σ, ρ, ρ', O, I, r, nd, al, h => by
    cases r with
    | @cons v vs _ _ a b =>
      unfold setAllO at h
      split at h
      · rename_i hl
        have I1 := I.setP (d := .p d) (v := v) hl a (fun m z => nomatch z) (fun m z => nomatch z)
        have b' := drl_less (Lf' := OrO (LfN e (σ.set i (some v)) (ρ.set i (some (.p d)))) O) (fun x z => z.imp (fun q => q.imp id fun q => own_set (d := .p d) hl q (fun m z => nomatch z)) id) b (fun v hv => (al v hv).imp fun a q => ⟨q.1, .inr q.2⟩) (setAllO_f h)
        obtain ⟨q1, q2⟩ := OkO.setAll I1 b' nd al h
        exact ⟨by rw [List.length_cons, List.length_cons, q1], q2⟩
      · cases h
  | i :: is, _, .c d :: ds, σ, ρ, ρ', O, I, r, nd, al, h => by
    cases r with
    | @cons v vs _ _ a b =>
      unfold setAllO at h
      split at h
      · rename_i hl
        have I1 := I.setP (d := .c d) (v := v) hl a (fun m z => nomatch z) (fun m z => nomatch z)
        have b' := drl_less (Lf' := OrO (LfN e (σ.set i (some v)) (ρ.set i (some (.c d)))) O) (fun x z => z.imp (fun q => q.imp id fun q => own_set (d := .c d) hl q (fun m z => nomatch z)) id) b (fun v hv => (al v hv).imp fun a q => ⟨q.1, .inr q.2⟩) (setAllO_f h)
        obtain ⟨q1, q2⟩ := OkO.setAll I1 b' nd al h
        exact ⟨by rw [List.length_cons, List.length_cons, q1], q2⟩
      · cases h
  | i :: is, _, .o m :: ds, σ, ρ, ρ', O, I, r, nd, al, h => by
    cases r with
    | @cons v vs _ _ a b =>
      unfold setAllO at h
      split at h
      · rename_i hl
        obtain ⟨p, rfl, _, ob⟩ := a
        have nd' : (V.ref p :: oA vs ds).Nodup := nd
        have hp : O p := by
          obtain ⟨q, e, hq⟩ := al (.ref p) List.mem_cons_self
          cases e
          exact hq
        have I1 := I.setO (m := m) hl hp ob
        have al' : ∀ v ∈ oA vs ds, ∃ a, v = .ref a ∧ (O a ∧ a ≠ p) := fun v hv => by
          obtain ⟨a, rfl, ha⟩ := al v (List.mem_cons_of_mem _ hv)
          exact ⟨a, rfl, ha, fun z => (List.nodup_cons.mp nd').1 (by rw [← z]; exact hv)⟩
        have hσ : i < σ.length := by rw [I.eok.len]; exact hl
        have b' := drl_less (Lf' := OrO (LfN e (σ.set i (some (.ref p))) (ρ.set i (some (.o m)))) (fun a => O a ∧ a ≠ p)) (fun x z => by
          rcases z with (z | ⟨j, m', q1, q2⟩) | z
          · exact .inl (.inl z)
          · by_cases hj : j = i
            · subst hj
              rw [List.getElem?_set_self hσ] at q2
              cases q2
              exact .inr hp
            · rw [List.getElem?_set_ne (Ne.symm hj)] at q1 q2
              exact .inl (.inr ⟨j, m', q1, q2⟩)
          · exact .inr z.1) b (fun v hv => (al' v hv).imp fun a q => ⟨q.1, .inr q.2⟩) (setAllO_f h)
        obtain ⟨q1, q2⟩ := OkO.setAll I1 b' (List.nodup_cons.mp nd').2 al' h
        exact ⟨by rw [List.length_cons, List.length_cons, q1], q2⟩
      · cases h
def sParO (is : List Nat) (fs : Av) : Sv := fun ρ S => (fs ρ S).bind fun p => (setAllO is p.1 ρ).bind fun ρ' => some (.nx ρ' p.2)
variable {px py pz pt : Pos} {x y z : Str} {b d3 : Expr} {i j l kt k2 : Nat} {pt2 : Pos}
theorem ds_parO (hN : c.N.Nodup) (hi : c.N[i]? = some x) (hj : c.N[j]? = some y) (hij : i ≠ j) (hx : c.sc.names.lookup x = some .local) (hy : c.sc.names.lookup y = some .local) (ha : DAf c [a, b] fs)
    (hw : ∀ X, InC c X → swappedStores [.Tuple [.Name x px, .Name y py] kt pt] (.Tuple [a, b] k2 pt2) X.env = pure (some [x, y]))
    (hs : ∀ X, InC c X → swapsWithSole [.Tuple [.Name x px, .Name y py] kt pt] (.Tuple [a, b] k2 pt2) pos.line X.env = pure false) :
    DS c (.Assign [.Tuple [.Name x px, .Name y py] kt pt] (.Tuple [a, b] k2 pt2) pos) (sParO [i, j] fs) := by
  obtain ⟨ta, pa, va⟩ := ha
  refine ⟨tPar i j ta, fun X hX => ps_par hX.calm (by rw [hX.N]; exact hN) (by rw [hX.N]; exact hi) (by rw [hX.N]; exact hj) hij (by rw [hX.sc]; exact hx) (by rw [hX.sc]; exact hy) (pa X hX) (hw X hX) (hs X hX), ?_⟩
  intro e adr S σ H ρ o D I h w
  unfold sParO at h
  obtain ⟨⟨ds, S1⟩, e1, e2⟩ := Option.bind_eq_some_iff.mp h
  obtain ⟨ρ', e3, e4⟩ := Option.bind_eq_some_iff.mp e2
  cases e4
  refine va _ adr S σ H ρ _ _ _ I.eok e1 fun vs adr1 H1 O x1 s1 hO r1 nd al => ?_
  obtain ⟨q1, q2⟩ := (I.toO x1 s1 hO).setAll r1 nd al e3
  match vs, q1, q2 with
  | [v, u], _, q2 => exact ⟨v, u, rfl, w adr1 _ H1 q2⟩
theorem ds_parO3 (hN : c.N.Nodup) (hi : c.N[i]? = some x) (hj : c.N[j]? = some y) (hl : c.N[l]? = some z) (hij : i ≠ j) (hil : i ≠ l) (hjl : j ≠ l) (hx : c.sc.names.lookup x = some .local) (hy : c.sc.names.lookup y = some .local) (hz : c.sc.names.lookup z = some .local) (ha : DAf c [a, b, d3] fs)
    (hw : ∀ X, InC c X → swappedStores [.Tuple [.Name x px, .Name y py, .Name z pz] kt pt] (.Tuple [a, b, d3] k2 pt2) X.env = pure (some [x, y, z]))
    (hs : ∀ X, InC c X → swapsWithSole [.Tuple [.Name x px, .Name y py, .Name z pz] kt pt] (.Tuple [a, b, d3] k2 pt2) pos.line X.env = pure false) :
    DS c (.Assign [.Tuple [.Name x px, .Name y py, .Name z pz] kt pt] (.Tuple [a, b, d3] k2 pt2) pos) (sParO [i, j, l] fs) := by
  obtain ⟨ta, pa, va⟩ := ha
  refine ⟨tPar3 i j l ta, fun X hX => ps_par3 hX.calm (by rw [hX.N]; exact hN) (by rw [hX.N]; exact hi) (by rw [hX.N]; exact hj) (by rw [hX.N]; exact hl) hij hil hjl (by rw [hX.sc]; exact hx) (by rw [hX.sc]; exact hy) (by rw [hX.sc]; exact hz) (pa X hX) (hw X hX) (hs X hX), ?_⟩
  intro e adr S σ H ρ o D I h w
  unfold sParO at h
  obtain ⟨⟨ds, S1⟩, e1, e2⟩ := Option.bind_eq_some_iff.mp h
  obtain ⟨ρ', e3, e4⟩ := Option.bind_eq_some_iff.mp e2
  cases e4
  refine va _ adr S σ H ρ _ _ _ I.eok e1 fun vs adr1 H1 O x1 s1 hO r1 nd al => ?_
  obtain ⟨q1, q2⟩ := (I.toO x1 s1 hO).setAll r1 nd al e3
  match vs, q1, q2 with
  | [v, u, t], _, q2 => exact ⟨v, u, t, rfl, w adr1 _ H1 q2⟩
/-! by the tuple itself -/
def gNs : List Nat → TGs
  | [] => L2.gNil
  | i :: is => L2.gCons (gName i) (gNs is)
theorem gNs_run {Q : L2.St → Hp → Prop} : ∀ {is : List Nat} {vs : List V} {σ : L2.St}, vs.length = is.length → Q (setV is vs σ) H → gNs is vs σ H Q
  | [], [], _, _, q => ⟨rfl, q⟩
  | _ :: _, [], _, h, _ => by cases h
  | [], _ :: _, _, h, _ => by cases h
  | i :: is, v :: vs, σ, h, q => ⟨v, vs, rfl, gNs_run (is := is) (by simpa using h) q⟩
def DGn (c : Cxt) (is : List Nat) (es : List Expr) : Prop := ∀ X, InC c X → PGs X es (gNs is)
theorem dgn_nil : DGn c [] [] := fun X _ => pgs_nil
theorem dgn_cons {is : List Nat} {i : Nat} {x : Str} {p : Pos} {es : List Expr} (hN : c.N.Nodup) (hs : DGn c is es) (hi : c.N[i]? = some x := by rfl) (hx : Loc c.sc x := by first | exact Or.inl rfl | exact Or.inr rfl) (hf : c.fn x = true ∨ c.sc.names.lookup x = some .local := by first | exact Or.inl rfl | exact Or.inr rfl)
    (ht : ∀ X, InC c X → (assignEach (.Name x p :: es) X.env).map (·.2) = assign (.Name x p) X.env :: (assignEach es X.env).map (·.2) := by exact fun _ _ => rfl) : DGn c (i :: is) (.Name x p :: es) :=
  fun X hX => pgs_cons (pg_name (by rw [hX.N]; exact hN) (by rw [hX.N]; exact hi) (by rw [hX.sc]; exact hx) (by rw [hX.fn, hX.sc]; exact hf)) (hs X hX) (ht X hX)
theorem tupO {is : List Nat} {tgs es : List Expr} {pt pt2 : Pos} {kt k2 : Nat} (ha : DAf c es fs) (hg : DGn c is tgs) (hn : ∀ X, InC c X → (assignEach tgs X.env).length = is.length := by exact fun _ _ => rfl) (hst : ∀ X, InC c X → (assignEach tgs X.env).findIdx? (·.1) = none := by exact fun _ _ => rfl)
    (hw : ∀ env : Env, swappedStores [.Tuple tgs kt pt] (.Tuple es k2 pt2) { env with scope := c.sc } = pure none := by exact fun _ => rfl) (hs : ∀ X, InC c X → swapsWithSole [.Tuple tgs kt pt] (.Tuple es k2 pt2) pos.line X.env = pure false := by exact fun _ _ => rfl) (hz : is.length ≤ 100 := by decide) :
    DS c (.Assign [.Tuple tgs kt pt] (.Tuple es k2 pt2) pos) (sParO is fs) := by
  obtain ⟨ta, pa, va⟩ := ha
  refine ⟨tAsg (tTup ta) (gTup c.K is.length (gNs is)), fun X hX => ?_, ?_⟩
  · have h := ps_asg (pos := pos) (pe_tup (pa X hX)) (pg_tup (pos := pt) (k := kt) hX.calm (hg X hX) (hn X hX) (hst X hX)) (hs X hX) ((sw_env (env' := { X.env with scope := c.sc }) hX.sc).trans (hw _))
    rw [hX.K] at h
    exact h
  intro e adr S σ H ρ o D I h w
  unfold sParO at h
  obtain ⟨⟨ds, S1⟩, e1, e2⟩ := Option.bind_eq_some_iff.mp h
  obtain ⟨ρ', e3, e4⟩ := Option.bind_eq_some_iff.mp e2
  cases e4
  refine va _ adr S σ H ρ _ _ _ I.eok e1 fun vs adr1 H1 O x1 s1 hO r1 nd al => ?_
  obtain ⟨q1, q2⟩ := (I.toO x1 s1 hO).setAll r1 nd al e3
  refine ⟨by rw [q1, sizeLine_eq]; omega, fun p hp => ⟨p, vs, rfl, .of upd_same, q1, gNs_run q1 ?_⟩⟩
  exact w adr1 _ _ (q2.extE (.grow (upd_grow hp)) (grow_ok q2.eok.sto (upd_grow hp)))
theorem parO2 (i j : Nat) (hN : c.N.Nodup) (ha : DAf c [a, b] fs) (hi : c.N[i]? = some x := by rfl) (hj : c.N[j]? = some y := by rfl) (hij : i ≠ j := by decide) (hx : c.sc.names.lookup x = some .local := by rfl) (hy : c.sc.names.lookup y = some .local := by rfl)
    (hk : c.sc.kind = .function := by rfl) (hl : (py.line == px.line) = true := by rfl) (hne : [x, y].eraseDups.length = 2 := by kernel_rfl) (hst : noStar [a, b] = true := by rfl) (hf : [a, b].all (foldedForSure 8) = false := by kernel_rfl) (hc : [a, b].all (constantsAlone 8) = false := by kernel_rfl)
    (hs : ∀ X, InC c X → swapsWithSole [.Tuple [.Name x px, .Name y py] kt pt] (.Tuple [a, b] k2 pt2) pos.line X.env = pure false := by exact fun _ _ => rfl) :
    DS c (.Assign [.Tuple [.Name x px, .Name y py] kt pt] (.Tuple [a, b] k2 pt2) pos) (sParO [i, j] fs) := ds_parO hN hi hj hij hx hy ha (fun X hX => swp2 (by rw [hX.sc]; exact hk) (by rw [hX.sc]; exact hx) (by rw [hX.sc]; exact hy) hl hne hst hf hc) hs
theorem parO3 (i j l : Nat) (hN : c.N.Nodup) (ha : DAf c [a, b, d3] fs) (hi : c.N[i]? = some x := by rfl) (hj : c.N[j]? = some y := by rfl) (hlz : c.N[l]? = some z := by rfl) (hij : i ≠ j := by decide) (hil : i ≠ l := by decide) (hjl : j ≠ l := by decide) (hx : c.sc.names.lookup x = some .local := by rfl) (hy : c.sc.names.lookup y = some .local := by rfl) (hz : c.sc.names.lookup z = some .local := by rfl)
    (hk : c.sc.kind = .function := by rfl) (hl : (py.line == px.line) = true := by rfl) (hl2 : (pz.line == px.line) = true := by rfl) (hne : [x, y, z].eraseDups.length = 3 := by kernel_rfl) (hst : noStar [a, b, d3] = true := by rfl) (hf : [a, b, d3].all (foldedForSure 8) = false := by kernel_rfl) (hc : [a, b, d3].all (constantsAlone 8) = false := by kernel_rfl)
    (hs : ∀ X, InC c X → swapsWithSole [.Tuple [.Name x px, .Name y py, .Name z pz] kt pt] (.Tuple [a, b, d3] k2 pt2) pos.line X.env = pure false := by exact fun _ _ => rfl) :
    DS c (.Assign [.Tuple [.Name x px, .Name y py, .Name z pz] kt pt] (.Tuple [a, b, d3] k2 pt2) pos) (sParO [i, j, l] fs) := ds_parO3 hN hi hj hlz hij hil hjl hx hy hz ha (fun X hX => swp3 (by rw [hX.sc]; exact hk) (by rw [hX.sc]; exact hx) (by rw [hX.sc]; exact hy) (by rw [hX.sc]; exact hz) hl hl2 hne hst hf hc) hs
end
/-! plain walking -/
section
variable {ρ : Env'} {S : Sto} {fa : Ev} {fs : Av} {ff : Fsv} {i k : Nat} {is : List Nat} {d : PyData} {ds : List D} {QA : List D × Sto → Prop} {QS : Out → Prop} {Q : Env' → Prop}
@[simp ↓] theorem w_afP : W (afP fa fs ρ S) QA = W (fa ρ S) fun p => match p.1 with | .p d => W (fs ρ p.2) fun q => QA (.p d :: q.1, q.2) | .c k => W (fs ρ p.2) fun q => QA (.c k :: q.1, q.2) | _ => False := by
  unfold afP
  simp only [W_bind]
  congr; funext p
  obtain ⟨x, S1⟩ := p
  cases x <;> first | exact W_none | (refine W_bind.trans ?_; simp only [W_some])
@[simp ↓] theorem w_afF : W (afF ff fs ρ S) QA = W (ff ρ S) fun p => W (fs ρ p.2) fun q => QA (.o p.1 :: q.1, q.2) := by
  unfold afF
  simp only [W_bind, W_some]
@[simp ↓] theorem w_parO : W (sParO is fs ρ S) QS = W (fs ρ S) fun p => W (setAllO is p.1 ρ) fun ρ' => QS (.nx ρ' p.2) := by
  unfold sParO
  simp only [W_bind, W_some]
@[simp ↓] theorem w_sao0 : W (setAllO [] [] ρ) Q = Q ρ := W_some
@[simp ↓] theorem w_saop : W (setAllO (i :: is) (.p d :: ds) ρ) Q = (i < ρ.length ∧ W (setAllO is ds (ρ.set i (some (.p d)))) Q) := by
  show W (if _ then _ else _) Q = _
  rw [W_ite, W_none]
  split <;> simp [*]
@[simp ↓] theorem w_saoc : W (setAllO (i :: is) (.c k :: ds) ρ) Q = (i < ρ.length ∧ W (setAllO is ds (ρ.set i (some (.c k)))) Q) := by
  show W (if _ then _ else _) Q = _
  rw [W_ite, W_none]
  split <;> simp [*]
@[simp ↓] theorem w_saoo : W (setAllO (i :: is) (.o d :: ds) ρ) Q = (i < ρ.length ∧ W (setAllO is ds (ρ.set i (some (.o d)))) Q) := by
  show W (if _ then _ else _) Q = _
  rw [W_ite, W_none]
  split <;> simp [*]
end
end DL
namespace DL
open PySem PySem.Spec L2
open PyProof.Rows hiding St
/-! ### the order of data -/
abbrev dlt (a b : PyData) : Bool := PySem.W.dataLt a b
abbrev dle (a b : PyData) : Bool := PySem.W.dataLe false id a b
theorem dle_def {a b : PyData} : dle a b = !dlt b a := rfl
theorem dlt_irrefl (a : PyData) : dlt a a = false := PyProof.Rows.lex_irrefl _
theorem dlt_trans {a b c : PyData} (h1 : dlt a b = true) (h2 : dlt b c = true) : dlt a c = true := PyProof.Rows.lex_trans _ _ _ h1 h2
theorem dle_trans (a b c : PyData) (h1 : dle a b = true) (h2 : dle b c = true) : dle a c = true := by
  rw [dle_def] at *
  cases h : dlt c a with
  | false => rfl
  | true =>
    rcases PyProof.Rows.lex_negTrans _ (PySem.W.keyToks b) _ (show PyProof.Rows.lexLt PyProof.Rows.itemOrd (PySem.W.keyToks c) (PySem.W.keyToks a) = true from h) with q | q
    · rw [show dlt c b = true from q] at h2; cases h2
    · rw [show dlt b a = true from q] at h1; cases h1
theorem dlt_asymm {a b : PyData} (h : dlt a b = true) : dlt b a = false := by
  cases q : dlt b a with
  | false => rfl
  | true => have := dlt_trans h q; rw [dlt_irrefl] at this; cases this
theorem dle_total (a b : PyData) : (dle a b || dle b a) = true := by
  rw [dle_def, dle_def]
  cases h : dlt b a with
  | false => rfl
  | true => rw [dlt_asymm h]; rfl
theorem dlt_tri {a b : PyData} (hal : PySem.W.alike a b = true) (h1 : dlt a b = false) (h2 : dlt b a = false) : PyData.eqv a b = true := by
  have e : PySem.W.keyToks a = PySem.W.keyToks b := PyProof.Rows.lex_total _ _ h1 h2
  cases q : PyData.eqv a b with
  | true => rfl
  | false =>
    have z := (PySem.W.toks_eqv a b hal).2 q [] [.inl 0]
    rw [e] at z
    rw [PySem.W.lex_pre, PyProof.Rows.lex_irrefl] at z
    have : PyProof.Rows.lexLt PyProof.Rows.itemOrd [] [Sum.inl (0 : Int)] = true := rfl
    rw [this] at z
    cases z
theorem eqv_lt {a b : PyData} (hal : PySem.W.alike a b = true) (h : PyData.eqv a b = true) : dlt a b = false := by
  have e := (PySem.W.toks_eqv a b hal).1 h
  show PyProof.Rows.lexLt PyProof.Rows.itemOrd (PySem.W.keyToks a) (PySem.W.keyToks b) = false
  rw [e, PyProof.Rows.lex_irrefl]
theorem msort_sorted (ds : List PyData) : (ds.mergeSort dle).Pairwise fun a b => dle a b = true := List.pairwise_mergeSort dle_trans dle_total ds
/-- a strict order: the same members, the same list -/
theorem strict_ext {α : Type} {lt : α → α → Prop} (irr : ∀ a, ¬ lt a a) (tr : ∀ a b c, lt a b → lt b c → lt a c) : ∀ {xs ys : List α}, xs.Pairwise lt → ys.Pairwise lt → (∀ a, a ∈ xs ↔ a ∈ ys) → xs = ys
  | [], [], _, _, _ => rfl
  | [], y :: ys, _, _, h => by have := (h y).mpr List.mem_cons_self; cases this
  | x :: xs, [], _, _, h => by have := (h x).mp List.mem_cons_self; cases this
  | x :: xs, y :: ys, h1, h2, h => by
    obtain ⟨a1, a2⟩ := List.pairwise_cons.mp h1
    obtain ⟨b1, b2⟩ := List.pairwise_cons.mp h2
    have e : x = y := by
      rcases List.mem_cons.mp ((h x).mp List.mem_cons_self) with e | m
      · exact e
      · rcases List.mem_cons.mp ((h y).mpr List.mem_cons_self) with e | m'
        · exact e.symm
        · exact absurd (tr _ _ _ (b1 x m) (a1 y m')) (irr _)
    subst e
    rw [strict_ext irr tr a2 b2 fun a => ?_]
    constructor
    · intro m
      rcases List.mem_cons.mp ((h a).mp (List.mem_cons_of_mem _ m)) with e | m'
      · exact absurd (e ▸ a1 a m) (irr _)
      · exact m'
    · intro m
      rcases List.mem_cons.mp ((h a).mpr (List.mem_cons_of_mem _ m)) with e | m'
      · exact absurd (e ▸ b1 a m) (irr _)
      · exact m'
/-- neighbours that are equal: one of these -/
def dd1 : List PyData → List PyData
  | [] => []
  | x :: r => match r with
    | [] => [x]
    | y :: _ => if PyData.eqv x y = true then dd1 r else x :: dd1 r
theorem dd1_cons {x y : PyData} {r : List PyData} : dd1 (x :: y :: r) = if PyData.eqv x y = true then dd1 (y :: r) else x :: dd1 (y :: r) := by rw [dd1]
def usort (ds : List PyData) : List PyData := dd1 (ds.mergeSort dle)
theorem dd1_sub : ∀ (l : List PyData), ∀ x ∈ dd1 l, x ∈ l
  | [], x, h => by cases h
  | [y], x, h => h
  | y :: z :: r, x, h => by
    rw [dd1_cons] at h
    split at h
    · exact List.mem_cons_of_mem _ (dd1_sub (z :: r) x h)
    · rcases List.mem_cons.mp h with rfl | h
      · exact List.mem_cons_self
      · exact List.mem_cons_of_mem _ (dd1_sub (z :: r) x h)
theorem dd1_mem (pure : ∀ x y : PyData, PyData.eqv x y = true → x = y ∨ True) : ∀ (l : List PyData), (∀ x ∈ l, ∀ y ∈ l, PyData.eqv x y = true → x = y) → ∀ x ∈ l, x ∈ dd1 l
  | [], _, x, h => h
  | [y], _, x, h => h
  | y :: z :: r, hp, x, h => by
    rw [dd1_cons]
    have ih := dd1_mem pure (z :: r) fun a ha b hb => hp a (List.mem_cons_of_mem _ ha) b (List.mem_cons_of_mem _ hb)
    split
    · rename_i he
      rcases List.mem_cons.mp h with rfl | h
      · rw [hp _ List.mem_cons_self z (List.mem_cons_of_mem _ List.mem_cons_self) he]
        exact ih z List.mem_cons_self
      · exact ih x h
    · rcases List.mem_cons.mp h with rfl | h
      · exact List.mem_cons_self
      · exact List.mem_cons_of_mem _ (ih x h)
theorem dd1_strict : ∀ (l : List PyData), l.Pairwise (fun a b => dle a b = true) → (∀ x ∈ l, ∀ y ∈ l, PySem.W.alike x y = true) → (dd1 l).Pairwise fun a b => dlt a b = true
  | [], _, _ => List.Pairwise.nil
  | [y], _, _ => List.pairwise_singleton _ _
  | y :: z :: r, hs, hal => by
    rw [dd1_cons]
    obtain ⟨h1, h2⟩ := List.pairwise_cons.mp hs
    have ih := dd1_strict (z :: r) h2 fun a ha b hb => hal a (List.mem_cons_of_mem _ ha) b (List.mem_cons_of_mem _ hb)
    split
    · exact ih
    · rename_i he
      refine List.pairwise_cons.mpr ⟨fun x hx => ?_, ih⟩
      have hx' := dd1_sub _ x hx
      have yz : dlt y z = true := by
        cases q : dlt y z with
        | true => rfl
        | false =>
          have w := h1 z List.mem_cons_self
          rw [dle_def] at w
          exact absurd (dlt_tri (hal y List.mem_cons_self z (List.mem_cons_of_mem _ List.mem_cons_self)) q (by simpa using w)) he
      rcases List.mem_cons.mp hx' with rfl | hx'
      · exact yz
      · have w := (List.pairwise_cons.mp h2).1 x hx'
        rw [dle_def] at w
        rcases PyProof.Rows.lex_negTrans _ (PySem.W.keyToks x) _ (show PyProof.Rows.lexLt PyProof.Rows.itemOrd (PySem.W.keyToks y) (PySem.W.keyToks z) = true from yz) with q | q
        · exact q
        · rw [show dlt x z = true from q] at w; cases w
/-- keys of a set: ints, texts, tuples of ints -/
def isIT : PyData → Bool
  | .tuple xs => xs.all fun x => match x with | .int _ => true | _ => false
  | _ => false
theorem allI_ints : ∀ {xs : List PyData}, (xs.all fun x => match x with | .int _ => true | _ => false) = true → ∃ ns : List Int, xs = ns.map .int
  | [], _ => ⟨[], rfl⟩
  | x :: xs, h => by
    rw [List.all_cons, Bool.and_eq_true] at h
    obtain ⟨ns, e⟩ := allI_ints h.2
    cases x <;> first | (cases h.1; done) | skip
    rename_i i
    exact ⟨i :: ns, by rw [e]; rfl⟩
theorem isIT_ints {d : PyData} (h : isIT d = true) : ∃ ns : List Int, d = .tuple (ns.map .int) := by
  cases d <;> first | (cases h; done) | skip
  obtain ⟨ns, e⟩ := allI_ints h
  exact ⟨ns, by rw [e]⟩
theorem isIT_kt {d : PyData} (h : isIT d = true) : isKT d = true := by
  obtain ⟨ns, rfl⟩ := isIT_ints h
  show (keysK (ns.map .int)).isSome = true
  induction ns with
  | nil => rfl
  | cons n ns ih =>
    have ih := ih (by simp [isIT])
    obtain ⟨k, e⟩ := Option.isSome_iff_exists.mp ih
    simp [keysK, keyK, e]
def setB (ds : List PyData) : Bool := (ds.all isKK && decide (ds.length < 4000)) || (ds.all isIT && decide (ds.length < 64))
theorem setB_pure {ds : List PyData} (h : setB ds = true) : ∀ x ∈ ds, ∀ y ∈ ds, PyData.eqv x y = true → x = y := by
  intro x hx y hy e
  unfold setB at h
  rw [Bool.or_eq_true, Bool.and_eq_true, Bool.and_eq_true] at h
  rcases h with ⟨h, _⟩ | ⟨h, _⟩
  · obtain ⟨k, rfl⟩ := isKK_key (List.all_eq_true.mp h x hx)
    obtain ⟨k', rfl⟩ := isKK_key (List.all_eq_true.mp h y hy)
    rw [eqv_keyD] at e
    rw [of_decide_eq_true e]
  · obtain ⟨k, rfl⟩ := isKT_key (isIT_kt (List.all_eq_true.mp h x hx))
    obtain ⟨k', rfl⟩ := isKT_key (isIT_kt (List.all_eq_true.mp h y hy))
    have e : PyData.eqvAll _ _ = true := e
    rw [eqv_keyT] at e
    rw [of_decide_eq_true e]
theorem usort_mem {ds : List PyData} (h : ∀ x ∈ ds, ∀ y ∈ ds, PyData.eqv x y = true → x = y) (x : PyData) : x ∈ usort ds ↔ x ∈ ds := by
  have pm := List.mergeSort_perm ds dle
  constructor
  · intro hx
    exact pm.mem_iff.mp (dd1_sub _ x hx)
  · intro hx
    exact dd1_mem (fun _ _ _ => .inr trivial) _ (fun a ha b hb => h a (pm.mem_iff.mp ha) b (pm.mem_iff.mp hb)) x (pm.mem_iff.mpr hx)
theorem usort_strict {ds : List PyData} (h : ∀ x ∈ ds, ∀ y ∈ ds, PySem.W.alike x y = true) : (usort ds).Pairwise fun a b => dlt a b = true := by
  have pm := List.mergeSort_perm ds dle
  exact dd1_strict _ (msort_sorted ds) fun a ha b hb => h a (pm.mem_iff.mp ha) b (pm.mem_iff.mp hb)
/-- the only strictly rising list of these members -/
theorem usort_of {ds rs : List PyData} (h1 : rs.Pairwise fun a b => dlt a b = true) (h2 : ∀ x, x ∈ rs ↔ x ∈ ds) (hp : ∀ x ∈ ds, ∀ y ∈ ds, PyData.eqv x y = true → x = y) (hal : ∀ x ∈ ds, ∀ y ∈ ds, PySem.W.alike x y = true) : usort ds = rs :=
  strict_ext (lt := fun a b => dlt a b = true) (fun a => by rw [dlt_irrefl]; exact Bool.false_ne_true) (fun a b c => dlt_trans) (usort_strict hal) h1 fun a => (usort_mem hp a).trans (h2 a).symm
theorem each_perm {α β : Type} {R : α → β → Prop} {xs xs' : List α} (p : xs'.Perm xs) : ∀ {ys : List β}, PySem.W.EachIs R xs ys → ∃ ys' : List β, ys'.Perm ys ∧ PySem.W.EachIs R xs' ys' := by
  induction p with
  | nil => intro ys e; cases e; exact ⟨[], .refl _, .nil⟩
  | cons x p ih =>
    intro ys e
    cases e with
    | cons r t =>
      obtain ⟨ys', q1, q2⟩ := ih t
      exact ⟨_ :: ys', q1.cons _, .cons r q2⟩
  | swap x y l =>
    intro ys e
    cases e with
    | cons r t =>
      cases t with
      | cons r2 t => exact ⟨_ :: _ :: _, .swap _ _ _, .cons r2 (.cons r t)⟩
  | trans p1 p2 ih1 ih2 =>
    intro ys e
    obtain ⟨ys1, a1, a2⟩ := ih2 e
    obtain ⟨ys2, b1, b2⟩ := ih1 a2
    exact ⟨ys2, b1.trans a1, b2⟩
/-! sorted(set(..)), len(set(..)), by data -/
def soSetL : List PyData → Option (List PyData)
  | [.list ds] => if setB ds = true ∧ sortB ds = true then some (usort ds) else none
  | [.tuple ds] => if setB ds = true ∧ sortB ds = true then some (usort ds) else none
  | _ => none
def leSetD : List PyData → Option PyData
  | [.list ds] => if setB ds = true ∧ alikeB ds = true then some (.int ((usort ds).length : Nat)) else none
  | [.tuple ds] => if setB ds = true ∧ alikeB ds = true then some (.int ((usort ds).length : Nat)) else none
  | _ => none
theorem soSet_inv {ds rs : List PyData} (h : soSetL ds = some rs) : ∃ xs, (ds = [.list xs] ∨ ds = [.tuple xs]) ∧ setB xs = true ∧ sortB xs = true ∧ rs = usort xs := by
  unfold soSetL at h
  split at h
  · split at h
    · rename_i hc; cases h; exact ⟨_, .inl rfl, hc.1, hc.2, rfl⟩
    · cases h
  · split at h
    · rename_i hc; cases h; exact ⟨_, .inr rfl, hc.1, hc.2, rfl⟩
    · cases h
  · cases h
theorem leSet_inv {ds : List PyData} {r : PyData} (h : leSetD ds = some r) : ∃ xs, (ds = [.list xs] ∨ ds = [.tuple xs]) ∧ setB xs = true ∧ alikeB xs = true ∧ r = .int ((usort xs).length : Nat) := by
  unfold leSetD at h
  split at h
  · split at h
    · rename_i hc; cases h; exact ⟨_, .inl rfl, hc.1, hc.2, rfl⟩
    · cases h
  · split at h
    · rename_i hc; cases h; exact ⟨_, .inr rfl, hc.1, hc.2, rfl⟩
    · cases h
  · cases h
end DL
namespace DL
open PySem PySem.Spec L2 HT
open PyProof.Rows hiding St
/-! ### xs[::-1] -/
section
variable {prog : Program} {w : World} {A : Around} {E : Value → Shared → Prop} {s : Shared}
theorem applied_back {sl : Addr} {vs : Value} {n : Nat} {Q : Int × Int × Nat → Shared → Prop} (hs : s.heap.IsSliceOf sl .none .none vs) (ps : IsPart vs (some (-1))) (h : Q ((n : Int) - 1, -1, n) s) :
    wpAny (model prog w) A (Builtin.Slice.sliceApplied (.ref sl) (pure (n : Int))) Q E s := by
  obtain ⟨os, hos, hcs, hds⟩ := id hs
  unfold Builtin.Slice.sliceApplied Builtin.Slice.sliceFields
  refine wpAny_bind (wpAny_bind (wpAny_field hos hds (x := .none) rfl (wpAny_bind (wpAny_field hos hds (x := .none) rfl (wpAny_bind (wpAny_field hos hds (x := vs) rfl (wpAny_pure ?_)))))))
  refine wpAny_bind (slicePart_ ps ?_)
  show wpAny _ _ (if ((-1 : Int) == 0) = true then _ else _) _ _ s
  rw [if_neg (by decide)]
  refine wpAny_bind (slicePart_none (wpAny_bind (slicePart_none (wpAny_bind (wpAny_pure ?_)))))
  show wpAny _ _ (pure ((n : Int) - 1, (-1 : Int), Builtin.Slice.slicePlaces ((n : Int) - 1) (-1) (-1))) _ _ s
  have e : Builtin.Slice.slicePlaces ((n : Int) - 1) (-1) (-1) = n := by
    unfold Builtin.Slice.slicePlaces
    have h1 : ¬ ((-1 : Int) > 0) := by decide
    rw [if_neg h1, show (-(-1 : Int)) = 1 by decide, Int.ediv_one]
    split <;> omega
  rw [e]
  exact wpAny_pure h
theorem pick_back (xs : Array Value) : ((List.range xs.size).filterMap fun (m : Nat) => xs[((xs.size : Int) - 1 + (m : Int) * -1).toNat]?).toArray = xs.toList.reverse.toArray := by
  congr 1
  have e : ((List.range xs.size).filterMap fun (m : Nat) => xs[((xs.size : Int) - 1 + (m : Int) * -1).toNat]?) = ((List.range xs.size).map fun k => xs.size - 1 - k).filterMap (xs[·]?) := by
    rw [List.filterMap_map]
    congr 1
    funext m
    show xs[_]? = xs[xs.size - 1 - m]?
    congr 1
    omega
  rw [e, PySem.W.krv_range, List.filterMap_reverse, PySem.W.krv_all]
theorem getItem_tuple_back {t sl : Addr} {items : Array Value} {vs : Value} {Q : Value → Shared → Prop} (ht : IsTup s.heap t items) (hs : s.heap.IsSliceOf sl .none .none vs) (ps : IsPart vs (some (-1)))
    (h : Q (.ref s.heap.objs.size) { s with heap := s.heap.push { cls := .type "tuple", data := .seq items.toList.reverse.toArray } }) (hsz : items.size ≤ sizeLine) : wpAny (model prog w) A (getItem (.ref t) (.ref sl)) Q E s := by
  have hz : sizeOk (.seq items.toList.reverse.toArray) := by
    show items.toList.reverse.toArray.size ≤ sizeLine
    simpa using hsz
  obtain ⟨os, hos, hcs, hds⟩ := id hs
  have hTs : s.TypeIs (.ref sl) "slice" := ⟨os, hos, hcs⟩
  unfold getItem
  try with_reducible refine wpAny_holding ?_
  first | refine wpAny_bind (wpAny_pure ?_) | skip
  refine wpAny_bind (wpAny_sequenceKey ht.typeIs (by decide) ?_)
  refine wpAny_bind (wpAny_callSpecial?_slot (name := Str.ofString "__getitem__") ht.typeIs PyProof.Rows.slot_tuple_getitem
    (wpAny_call_entry PyProof.Rows.slot_tuple_getitem ht.typeIs entry_tuple_getitem ?_ (args_tuple_getitem _ _)))
  show wpAny _ _ (Builtin.Tuple.tupleItemsOf (.ref t) >>= _) _ _ s
  refine wpAny_bind (tupleItemsOf_ ht (wpAny_bind (wpAny_typeOf hTs ?_)))
  rw [if_pos (by decide)]
  refine wpAny_bind (applied_back hs ps ?_)
  have hno : ¬ ((((items.size : Int) - 1) == 0 && (-1 : Int) == 1 && items.size == items.size) = true) := by
    intro q
    rw [Bool.and_eq_true, Bool.and_eq_true] at q
    exact absurd q.1.2 (by decide)
  show wpAny _ _ (if (((items.size : Int) - 1) == 0 && (-1 : Int) == 1 && items.size == items.size) = true then _ else _) _ _ s
  rw [if_neg hno, pick_back]
  first
    | exact wpAny_bind (m := Builtin.Tuple.tupleExact _) (wpAny_newObj_type (wpAny_pure ⟨_, rfl, wpAny_pure h⟩) hz)
    | exact wpAny_bind (m := Builtin.Tuple.tupleExact _) (wpAny_newObj_type (wpAny_bind (wpAny_pure (wpAny_pure ⟨_, rfl, wpAny_pure h⟩))) hz)
    | exact wpAny_bind (wpAny_bind (m := Builtin.Tuple.tupleExact _) (wpAny_newObj_type (wpAny_pure (wpAny_pure ⟨_, rfl, wpAny_pure h⟩)) hz))
    | exact wpAny_bind (wpAny_bind (m := Builtin.Tuple.tupleExact _) (wpAny_newObj_type (wpAny_pure ⟨_, rfl, wpAny_pure h⟩) hz))
end
def backD : PyData → Option PyData
  | .list xs => some (.list xs.reverse)
  | .tuple xs => some (.tuple xs.reverse)
  | _ => none
theorem AtL.reverse {H : Hp} {L : AdP} : ∀ {xs : List V} {ds : List PyData}, AtL H L xs ds → AtL H L xs.reverse ds.reverse
  | _, _, .nil => .nil
  | _, _, .cons a b => by
    rw [List.reverse_cons, List.reverse_cons]
    exact b.reverse.append (.cons a .nil)
def tBack (K : PySem.W.Frag) (te : TE) : TE := fun σ H Q => te σ H fun x H1 => ∃ (L : AdP) (d r : PyData), (∀ z, L z → H1 z ≠ none) ∧ Vw K H1 L x d ∧ backD d = some r ∧ Gr H1 L Q r
section
variable {X : Cx}
theorem pe_back {e : Expr} {te : TE} {k : Nat} {p1 p2 p3 pos : Pos} (he : PE X e te) : PE X (.Subscript e (.Slice none none (some (.UnaryOp .USub (.Constant (.int 1) k p1) p2)) p3) pos) (tBack X.K te) := by
  refine ⟨fun pins s σ H Q I h => ?_⟩
  refine Subscript_ (thn (he.run pins s σ H _ I h) fun v s1 ⟨x, H1, I1, r1, q1⟩ => ?_)
  obtain ⟨L, d, r, hl, hv, e1, qq⟩ := q1
  have hst : PO X (some (.UnaryOp .USub (.Constant (.int 1) k p1) p2)) (tPart (tUn (rU fun i => .int (-i)) (tC (.int 1)))) := po_some (pe_un un_neg pe_int)
  refine wpAny_Slice (thn (po_none.run pins s1 σ H1 (fun o H2 => o = none ∧ H2 = H1) I1 ⟨rfl, rfl⟩) fun vl s2 ⟨l, H2, I2, pl, el, e2⟩ => ?_)
  subst el e2
  refine thn (po_none.run pins s2 σ H2 (fun o H3 => o = none ∧ H3 = H2) I2 ⟨rfl, rfl⟩) fun vu s3 ⟨u, H3, I3, pu, eu, e3⟩ => ?_
  subst eu e3
  refine thn (hst.run pins s3 σ H3 (fun o H4 => o = some (-1) ∧ H4 = H3) I3 ⟨1, rfl, -1, rfl, rfl, rfl⟩) fun vs s4 ⟨o, H4, I4, ps, eo, e4⟩ => ?_
  subst eo e4
  have I5 : Inv X pins σ H4 { s4 with heap := s4.heap.push { cls := .type "slice", data := .fields #[vl, vu, vs] } } := I4.kept (t' := s4.toks) fun b ob q => Heap.get?_push_of_some _ q
  have hn : H4 ({ s4 with heap := s4.heap.push { cls := .type "slice", data := .fields #[vl, vu, vs] } } : Shared).heap.objs.size = none := I5.hok.fresh (Nat.le_refl _)
  cases d with
  | list ds =>
    cases e1
    obtain ⟨a, xs, its, rfl, rv, hl', h2, r2, z1, z2⟩ := hv.isList I5
    cases r1
    show wpAny (model X.prog X.w) X.A (subscriptTail e (.Slice none none (some (.UnaryOp .USub (.Constant (.int 1) k p1) p2)) p3) (.ref a) (.ref s4.heap.objs.size)) (EP X pins σ Q) X.xe { s4 with heap := s4.heap.push { cls := .type "slice", data := .fields #[vl, vu, vs] } }
    refine tail_any (ops := [.ref a, .ref s4.heap.objs.size]) hl'.typeIs (PySem.slot_list_getitem.lookup) ?_ (by with_unfolding_all rfl)
    refine wpAny_getItem_list_slice hl' (Heap.IsSliceOf.new _ vl vu vs) pl pu ps (by decide) ?_ (by rw [List.size_toArray]; omega)
    rw [PySem.W.krv_pick]
    refine ⟨.ref _, _, I5.laid (t' := s4.toks) (o := .lst xs.reverse) (fun b ob q => Heap.get?_push_of_some _ q) (Nat.le_refl _) ?_, rfl, qq _ _ (upd_grow hn) (.newL hl hn r2.reverse)⟩
    exact ⟨by rw [List.length_reverse, r2.length]; omega, _, 0, rv.reverse, Heap.get?_push_size _ rfl⟩
  | tuple ds =>
    cases e1
    obtain ⟨a, xs, its, rfl, rv, hl', h2, r2, z1, z2⟩ := hv.isTup I5
    cases r1
    cases pl
    cases pu
    show wpAny (model X.prog X.w) X.A (subscriptTail e (.Slice none none (some (.UnaryOp .USub (.Constant (.int 1) k p1) p2)) p3) (.ref a) (.ref s4.heap.objs.size)) (EP X pins σ Q) X.xe { s4 with heap := s4.heap.push { cls := .type "slice", data := .fields #[.none, .none, vs] } }
    refine tail_any (ops := [.ref a, .ref s4.heap.objs.size]) (IsTup.typeIs hl') (PyProof.Rows.slot_tuple_getitem.lookup) ?_ (by with_unfolding_all rfl)
    refine getItem_tuple_back hl' (Heap.IsSliceOf.new _ _ _ vs) ps ?_ (by rw [List.size_toArray]; omega)
    refine ⟨.ref _, _, I5.laid (t' := s4.toks) (o := .tup xs.reverse) (fun b ob q => Heap.get?_push_of_some _ q) (Nat.le_refl _) ?_, rfl, qq _ _ (upd_grow hn) (.newT hl hn r2.reverse)⟩
    exact ⟨by rw [List.length_reverse, r2.length]; omega, _, by simpa using rv.reverse, IsTup.new _ _⟩
  | _ => cases e1
end
section
variable {c : Cxt} {a b : Expr} {fa : Ev} {pos p p2 q p1 p3 : Pos}
def eBack (fa : Ev) : Ev := fun ρ S => (fa ρ S).bind fun p => (vw p.2 p.1).bind fun d => (backD d).bind fun r => some (.p r, p.2)
theorem de_back {k : Nat} (ha : DE c a fa) : DE c (.Subscript a (.Slice none none (some (.UnaryOp .USub (.Constant (.int 1) k p1) p2)) p3) pos) (eBack fa) := by
  obtain ⟨ta, pa, va⟩ := ha
  refine ⟨tBack c.K ta, fun X hX => by have h := pe_back (k := k) (p1 := p1) (p2 := p2) (p3 := p3) (pos := pos) (pa X hX); rw [hX.K] at h; exact h, fun Lf adr S σ H ρ d S' Q I e w => ?_⟩
  unfold eBack at e
  simp only [Option.bind_eq_some_iff] at e
  obtain ⟨⟨x, S1⟩, e1, m, e2, r, e3, e4⟩ := e
  cases e4
  refine va Lf adr S σ H ρ _ _ _ I e1 fun v adr1 H1 x1 s1 r1 => ?_
  exact ⟨_, m, r, fun z => s1.lvv, vw_ok s1 r1 e2, e3, wi_gr s1 (w.trans x1)⟩
/-! sorted(set(..)), len(set(..)) -/
def lSet (fa : Ev) : Lsv := fun ρ S => (fa ρ S).bind fun p => (vw p.2 p.1).bind fun d => (soSetL [d]).bind fun r => some (r, p.2)
def eLset (fa : Ev) : Ev := fun ρ S => (fa ρ S).bind fun p => (vw p.2 p.1).bind fun d => (leSetD [d]).bind fun r => some (.p r, p.2)
end
section
variable {ρ : Env'} {S : Sto} {fa : Ev} {Q : QE} {QL : List PyData × Sto → Prop}
@[simp ↓] theorem w_back : W (eBack fa ρ S) Q = W (fa ρ S) fun p => W (vw p.2 p.1) fun d => W (backD d) fun r => Q (.p r, p.2) := by
  unfold eBack
  simp only [W_bind, W_some]
@[simp ↓] theorem w_lset : W (lSet fa ρ S) QL = W (fa ρ S) fun p => W (vw p.2 p.1) fun d => W (soSetL [d]) fun r => QL (r, p.2) := by
  unfold lSet
  simp only [W_bind, W_some]
@[simp ↓] theorem w_elset : W (eLset fa ρ S) Q = W (fa ρ S) fun p => W (vw p.2 p.1) fun d => W (leSetD [d]) fun r => Q (.p r, p.2) := by
  unfold eLset
  simp only [W_bind, W_some]
@[simp] theorem back_l {xs : List PyData} : backD (.list xs) = some (.list xs.reverse) := rfl
@[simp] theorem back_t {xs : List PyData} : backD (.tuple xs) = some (.tuple xs.reverse) := rfl
end
end DL
namespace DL
open PySem PySem.Spec L2
open PyProof.Rows hiding St
/-! ### Lean values as data -/
theorem fitN_mono : ∀ {n m : Nat} {d : PyData}, n ≤ m → fitN n d = true → fitN m d = true
  | _, m, .none, _, _ => by simp
  | _, m, .bool _, _, _ => by simp
  | _, m, .int _, _, _ => by simp
  | _, m, .str _, _, _ => by simp
  | 0, _, .list _, _, h => by simp [fitN] at h
  | 0, _, .tuple _, _, h => by simp [fitN] at h
  | _ + 1, 0, _, hm, _ => by omega
  | n + 1, m + 1, .list xs, hm, h => by
    rw [fitN_l, List.all_eq_true] at h ⊢
    exact fun x hx => fitN_mono (by omega) (h x hx)
  | n + 1, m + 1, .tuple xs, hm, h => by
    rw [fitN_t, List.all_eq_true] at h ⊢
    exact fun x hx => fitN_mono (by omega) (h x hx)
  | 0, _, .dict _, _, h => by simp [fitN] at h
  | _ + 1, _, .dict _, _, h => by simp [fitN] at h
structure Enc {α : Type} [DecidableEq α] (n : Nat) (e : α → PyData) : Prop where
  fit : ∀ a, fitN n (e a) = true
  eqv : ∀ a b, PyData.eqv (e a) (e b) = decide (a = b)
  alk : ∀ a b, PySem.W.alike (e a) (e b) = true
  nn : ∀ a, isND (e a) = false
  knd : (∀ a, tupB (e a) = true) ∨ (∀ a, ntB (e a) = true)
abbrev nat (k : Nat) : PyData := .int (k : Int)
theorem enc_int : Enc 0 PyData.int := ⟨fun _ => rfl, fun a b => by show (a == b) = _; rw [Bool.beq_eq_decide_eq], fun _ _ => rfl, fun _ => rfl, .inr fun _ => rfl⟩
theorem enc_nat : Enc 0 (fun k : Nat => PyData.int (k : Int)) := ⟨fun _ => rfl, fun a b => by show ((a : Int) == (b : Int)) = _; rw [Bool.beq_eq_decide_eq]; exact decide_eq_decide.mpr (by omega), fun _ _ => rfl, fun _ => rfl, .inr fun _ => rfl⟩
theorem enc_str : Enc 0 PyData.str := ⟨fun _ => rfl, fun a b => by show (a == b) = _; exact PySem.W.beq_decide a b, fun _ _ => rfl, fun _ => rfl, .inr fun _ => rfl⟩
section
variable {α β : Type} [DecidableEq α] [DecidableEq β] {n m : Nat} {e : α → PyData} {f : β → PyData}
theorem Enc.inj (h : Enc n e) {a b : α} (q : e a = e b) : a = b := by
  have := h.eqv a b
  rw [q] at this
  have h2 := h.eqv b b
  rw [decide_eq_true (rfl : b = b)] at h2
  rw [h2] at this
  exact of_decide_eq_true this.symm
theorem Enc.fit' (h : Enc n e) {k : Nat} (hk : n ≤ k) (a : α) : fitN k (e a) = true := fitN_mono hk (h.fit a)
theorem Enc.all (h : Enc n e) {k : Nat} (hk : n ≤ k) (xs : List α) : (xs.map e).all (fitN k) = true := by
  rw [List.all_map, List.all_eq_true]
  exact fun a _ => h.fit' hk a
theorem Enc.eqvAll (h : Enc n e) : ∀ xs ys : List α, PyData.eqvAll (xs.map e) (ys.map e) = decide (xs = ys)
  | [], [] => by simp [PyData.eqvAll]
  | [], _ :: _ => by simp [PyData.eqvAll]
  | _ :: _, [] => by simp [PyData.eqvAll]
  | x :: xs, y :: ys => by
    rw [List.map_cons, List.map_cons, PyData.eqvAll, h.eqv, h.eqvAll xs ys, ← Bool.decide_and]
    exact decide_eq_decide.mpr (by rw [List.cons.injEq])
theorem Enc.alkAll (h : Enc n e) : ∀ xs ys : List α, PySem.W.alikeAll (xs.map e) (ys.map e) = true
  | [], _ => by simp [PySem.W.alikeAll]
  | _ :: _, [] => by simp [PySem.W.alikeAll]
  | x :: xs, y :: ys => by rw [List.map_cons, List.map_cons, PySem.W.alikeAll, h.alk, h.alkAll xs ys]; rfl
theorem Enc.tup (h : Enc n e) : Enc (n + 1) (fun xs : List α => PyData.tuple (xs.map e)) :=
  ⟨fun xs => h.all (Nat.le_refl _) xs, fun xs ys => by show PyData.eqvAll _ _ = _; exact h.eqvAll xs ys, fun xs ys => by show PySem.W.alikeAll _ _ = true; exact h.alkAll xs ys, fun _ => rfl, .inl fun _ => rfl⟩
theorem Enc.pair (h : Enc n e) (g : Enc m f) : Enc (max n m + 1) (fun p : α × β => PyData.tuple [e p.1, f p.2]) :=
  ⟨fun p => by rw [fitN_t]; simp [h.fit' (Nat.le_max_left n m), g.fit' (Nat.le_max_right n m)], fun p q => by
    show PyData.eqvAll _ _ = _
    simp only [PyData.eqvAll]
    rw [h.eqv, g.eqv, Bool.and_true, ← Bool.decide_and]
    exact decide_eq_decide.mpr ⟨fun z => Prod.ext z.1 z.2, fun z => by rw [z]; exact ⟨rfl, rfl⟩⟩, fun p q => by
    show PySem.W.alikeAll _ _ = true
    simp only [PySem.W.alikeAll, h.alk, g.alk, Bool.and_self], fun _ => rfl, .inl fun _ => rfl⟩
theorem enc_pr : Enc 1 pr := enc_int.pair enc_int
/-- another type, told apart as well -/
theorem Enc.comap {γ : Type} [DecidableEq γ] (h : Enc n e) (g : γ → α) (hg : ∀ a b, g a = g b → a = b) : Enc n (fun c => e (g c)) :=
  ⟨fun c => h.fit _, fun a b => by rw [h.eqv]; exact decide_eq_decide.mpr ⟨hg a b, fun z => by rw [z]⟩, fun _ _ => h.alk _ _, fun _ => h.nn _, h.knd.imp (fun z c => z _) fun z c => z _⟩
/-! in, ==, count -/
theorem Enc.any (h : Enc n e) (xs : List α) (x : α) : anyEq (xs.map e) (e x) = decide (x ∈ xs) := by
  unfold anyEq
  rw [List.any_map]
  induction xs with
  | nil => simp
  | cons y ys ih =>
    rw [List.any_cons, ih]
    show (PyData.eqv (e y) (e x) || _) = _
    rw [h.eqv, ← Bool.decide_or]
    exact decide_eq_decide.mpr (by rw [List.mem_cons]; exact or_congr ⟨Eq.symm, Eq.symm⟩ Iff.rfl)
theorem Enc.mem_t (h : Enc n e) {xs : List α} {x : α} (hn : n ≤ 20 := by decide) : inD (e x) (.tuple (xs.map e)) = some (.bool (decide (x ∈ xs))) := by
  show (if _ then some (PyData.bool (anyEq (xs.map e) (e x))) else none) = _
  rw [if_pos ⟨h.all hn xs, h.fit' hn x⟩, h.any]
theorem Enc.mem_l (h : Enc n e) {xs : List α} {x : α} (hn : n ≤ 20 := by decide) : inD (e x) (.list (xs.map e)) = some (.bool (decide (x ∈ xs))) := h.mem_t hn
theorem Enc.nmem_t (h : Enc n e) {xs : List α} {x : α} (hn : n ≤ 20 := by decide) : notInD (e x) (.tuple (xs.map e)) = some (.bool (!decide (x ∈ xs))) := by
  show (if _ then some (PyData.bool (!anyEq (xs.map e) (e x))) else none) = _
  rw [if_pos ⟨h.all hn xs, h.fit' hn x⟩, h.any]
theorem Enc.nmem_l (h : Enc n e) {xs : List α} {x : α} (hn : n ≤ 20 := by decide) : notInD (e x) (.list (xs.map e)) = some (.bool (!decide (x ∈ xs))) := h.nmem_t hn
theorem Enc.eq (h : Enc n e) {x y : α} (hn : n ≤ 20 := by decide) : eqD (e x) (e y) = some (.bool (decide (x = y))) := by
  unfold eqD
  rw [if_pos ⟨h.fit' hn x, h.fit' hn y⟩, h.eqv]
theorem Enc.ne (h : Enc n e) {x y : α} (hn : n ≤ 20 := by decide) : neD (e x) (e y) = some (.bool (!decide (x = y))) := by
  unfold neD
  rw [if_pos ⟨h.fit' hn x, h.fit' hn y⟩, h.eqv]
theorem Enc.eq_t (h : Enc n e) {xs ys : List α} (hn : n ≤ 19 := by decide) : eqD (.tuple (xs.map e)) (.tuple (ys.map e)) = some (.bool (decide (xs = ys))) := h.tup.eq (by omega)
theorem Enc.ne_t (h : Enc n e) {xs ys : List α} (hn : n ≤ 19 := by decide) : neD (.tuple (xs.map e)) (.tuple (ys.map e)) = some (.bool (!decide (xs = ys))) := h.tup.ne (by omega)
theorem Enc.eq_l (h : Enc n e) {xs ys : List α} (hn : n ≤ 19 := by decide) : eqD (.list (xs.map e)) (.list (ys.map e)) = some (.bool (decide (xs = ys))) := by
  unfold eqD
  rw [if_pos ⟨h.all hn xs, h.all hn ys⟩]
  show some (PyData.bool (PyData.eqvAll _ _)) = _
  rw [h.eqvAll]
theorem Enc.ne_l (h : Enc n e) {xs ys : List α} (hn : n ≤ 19 := by decide) : neD (.list (xs.map e)) (.list (ys.map e)) = some (.bool (!decide (xs = ys))) := by
  unfold neD
  rw [if_pos ⟨h.all hn xs, h.all hn ys⟩]
  show some (PyData.bool (!PyData.eqvAll _ _)) = _
  rw [h.eqvAll]
theorem Enc.l0 (h : Enc n e) {xs : List α} (hn : n ≤ 19 := by decide) : eqD (.list (xs.map e)) (.list []) = some (.bool xs.isEmpty) := by
  rw [eqD_l0 (h.all hn xs)]
  cases xs <;> rfl
theorem Enc.nl0 (h : Enc n e) {xs : List α} (hn : n ≤ 19 := by decide) : neD (.list (xs.map e)) (.list []) = some (.bool (!xs.isEmpty)) := by
  rw [neD_l0 (h.all hn xs)]
  cases xs <;> rfl
theorem Enc.t0 (h : Enc n e) {xs : List α} (hn : n ≤ 19 := by decide) : eqD (.tuple (xs.map e)) (.tuple []) = some (.bool xs.isEmpty) := by
  rw [eqD_t0 (h.all hn xs)]
  cases xs <;> rfl
theorem Enc.nt0 (h : Enc n e) {xs : List α} (hn : n ≤ 19 := by decide) : neD (.tuple (xs.map e)) (.tuple []) = some (.bool (!xs.isEmpty)) := by
  rw [neD_t0 (h.all hn xs)]
  cases xs <;> rfl
theorem Enc.count (h : Enc n e) {xs : List α} {x : α} (hn : n ≤ 20 := by decide) : countD (.list (xs.map e)) (e x) = some (.int (xs.count x)) := by
  show (if _ then some (PyData.int (((xs.map e).countP fun y => PyData.eqv y (e x) : Nat) : Int)) else none) = _
  rw [if_pos ⟨h.all hn xs, h.fit' hn x⟩]
  congr 3
  rw [List.countP_map, List.count]
  congr 1
  funext y
  show PyData.eqv (e y) (e x) = (y == x)
  rw [h.eqv]
  exact (PySem.W.beq_decide y x).symm
/-! the order -/
theorem Enc.alikeB (h : Enc n e) (xs : List α) : alikeB (xs.map e) = true := by
  unfold DL.alikeB
  rw [List.all_eq_true]
  intro d hd
  obtain ⟨a, _, rfl⟩ := List.mem_map.mp hd
  rw [Bool.and_eq_true, List.all_eq_true]
  refine ⟨fun d' hd' => ?_, by rw [h.nn]; rfl⟩
  obtain ⟨b, _, rfl⟩ := List.mem_map.mp hd'
  exact h.alk a b
theorem Enc.sortB (h : Enc n e) (xs : List α) (hn : n ≤ 20) : sortB (xs.map e) = true := by
  unfold DL.sortB
  rw [h.alikeB, h.all hn xs]
  rcases h.knd with k | k
  · have : (xs.map e).all tupB = true := by rw [List.all_map, List.all_eq_true]; exact fun a _ => k a
    rw [this]; rfl
  · have : (xs.map e).all ntB = true := by rw [List.all_map, List.all_eq_true]; exact fun a _ => k a
    rw [this]; cases (xs.map e).all tupB <;> rfl
abbrev ltE (e : α → PyData) (a b : α) : Prop := dlt (e a) (e b) = true
abbrev leE (e : α → PyData) (a b : α) : Prop := dle (e a) (e b) = true
theorem ltE_irrefl (a : α) : ¬ ltE e a a := by unfold ltE; rw [dlt_irrefl]; exact Bool.false_ne_true
theorem ltE_trans {a b c : α} (h1 : ltE e a b) (h2 : ltE e b c) : ltE e a c := dlt_trans h1 h2
theorem Enc.tri (h : Enc n e) {a b : α} (h1 : ¬ ltE e a b) (h2 : ¬ ltE e b a) : a = b := of_decide_eq_true ((h.eqv a b).symm.trans (dlt_tri (h.alk a b) (Bool.eq_false_iff.mpr h1) (Bool.eq_false_iff.mpr h2)))
theorem leE_def {a b : α} : leE e a b ↔ ¬ ltE e b a := by
  unfold leE ltE
  rw [dle_def]
  cases dlt (e b) (e a) <;> simp
theorem Enc.anti (h : Enc n e) {a b : α} (h1 : leE e a b) (h2 : leE e b a) : a = b := h.tri (leE_def.mp h2) (leE_def.mp h1)
def sortE (e : α → PyData) (xs : List α) : List α := xs.mergeSort fun a b => dle (e a) (e b)
theorem sortE_perm {xs : List α} : (sortE e xs).Perm xs := List.mergeSort_perm _ _
theorem sortE_len {xs : List α} : (sortE e xs).length = xs.length := List.length_mergeSort _
theorem sortE_mem {xs : List α} {a : α} : a ∈ sortE e xs ↔ a ∈ xs := sortE_perm.mem_iff
theorem sortE_sorted {xs : List α} : (sortE e xs).Pairwise (leE e) := List.pairwise_mergeSort (le := fun a b => dle (e a) (e b)) (fun a b c => dle_trans (e a) (e b) (e c)) (fun a b => dle_total (e a) (e b)) xs
theorem Enc.sorted_l (h : Enc n e) {xs : List α} (hn : n ≤ 20 := by decide) : sortedL [.list (xs.map e)] = some ((sortE e xs).map e) := sorted_map (h.sortB xs hn) fun _ _ => rfl
theorem Enc.sorted_t (h : Enc n e) {xs : List α} (hn : n ≤ 20 := by decide) : sortedL [.tuple (xs.map e)] = some ((sortE e xs).map e) := h.sorted_l hn
/-- two sorted lists of the same items -/
theorem Enc.uniq (h : Enc n e) : ∀ {xs ys : List α}, xs.Perm ys → xs.Pairwise (leE e) → ys.Pairwise (leE e) → xs = ys
  | [], ys, p, _, _ => p.nil_eq
  | x :: xs, [], p, _, _ => by have := p.length_eq; simp at this
  | x :: xs, y :: ys, p, h1, h2 => by
    obtain ⟨a1, a2⟩ := List.pairwise_cons.mp h1
    obtain ⟨b1, b2⟩ := List.pairwise_cons.mp h2
    have e1 : x = y := by
      have m1 : x ∈ y :: ys := p.mem_iff.mp List.mem_cons_self
      have m2 : y ∈ x :: xs := p.mem_iff.mpr List.mem_cons_self
      rcases List.mem_cons.mp m1 with q | m1
      · exact q
      · rcases List.mem_cons.mp m2 with q | m2
        · exact q.symm
        · exact h.anti (a1 y m2) (b1 x m1)
    subst e1
    rw [h.uniq p.cons_inv a2 b2]
theorem Enc.sort_eq (h : Enc n e) {xs ys : List α} (p : ys.Perm xs) (s : ys.Pairwise (leE e)) : sortE e xs = ys := h.uniq (sortE_perm.trans p.symm) sortE_sorted s
theorem Enc.sort_congr (h : Enc n e) {xs ys : List α} (p : xs.Perm ys) : sortE e xs = sortE e ys := h.sort_eq (sortE_perm.trans p.symm) sortE_sorted
theorem sortE_of {xs : List α} (s : xs.Pairwise (leE e)) : sortE e xs = xs := List.mergeSort_of_pairwise s
/-! min, max -/
def minE (e : α → PyData) (x : α) (xs : List α) : α := xs.foldl (fun a y => if dlt (e y) (e a) = true then y else a) x
def maxE (e : α → PyData) (x : α) (xs : List α) : α := xs.foldl (fun a y => if dlt (e a) (e y) = true then y else a) x
theorem minE_map (x : α) (xs : List α) : PySem.W.minD (e x) (xs.map e) = e (minE e x xs) := by
  unfold PySem.W.minD minE
  induction xs generalizing x with
  | nil => rfl
  | cons y ys ih =>
    rw [List.map_cons, List.foldl_cons, List.foldl_cons, ← ih]
    congr 1
    show (if dlt (e y) (e x) = true then _ else _) = _
    split <;> rfl
theorem maxE_map (x : α) (xs : List α) : PySem.W.maxD (e x) (xs.map e) = e (maxE e x xs) := by
  unfold PySem.W.maxD maxE
  induction xs generalizing x with
  | nil => rfl
  | cons y ys ih =>
    rw [List.map_cons, List.foldl_cons, List.foldl_cons, ← ih]
    congr 1
    show (if dlt (e x) (e y) = true then _ else _) = _
    split <;> rfl
theorem Enc.min_l (h : Enc n e) {x : α} {xs : List α} (hn : n ≤ 20 := by decide) : minD [.list ((x :: xs).map e)] = some (e (minE e x xs)) := by
  show (if ((x :: xs).map e).all DL.fit = true ∧ DL.alikeB ((x :: xs).map e) = true then some (PySem.W.minD (e x) (xs.map e)) else none) = _
  rw [if_pos ⟨h.all hn (x :: xs), h.alikeB (x :: xs)⟩, minE_map]
theorem Enc.max_l (h : Enc n e) {x : α} {xs : List α} (hn : n ≤ 20 := by decide) : maxD [.list ((x :: xs).map e)] = some (e (maxE e x xs)) := by
  show (if ((x :: xs).map e).all DL.fit = true ∧ DL.alikeB ((x :: xs).map e) = true then some (PySem.W.maxD (e x) (xs.map e)) else none) = _
  rw [if_pos ⟨h.all hn (x :: xs), h.alikeB (x :: xs)⟩, maxE_map]
theorem Enc.min_spec (h : Enc n e) : ∀ (x : α) (xs : List α), minE e x xs ∈ x :: xs ∧ ∀ y ∈ x :: xs, leE e (minE e x xs) y
  | x, [] => ⟨List.mem_cons_self, fun y hy => by
    rw [List.mem_singleton.mp hy]
    exact leE_def.mpr (ltE_irrefl x)⟩
  | x, y :: ys => by
    have hs : minE e x (y :: ys) = minE e (if dlt (e y) (e x) = true then y else x) ys := rfl
    rw [hs]
    obtain ⟨a, b⟩ := h.min_spec (if dlt (e y) (e x) = true then y else x) ys
    have c := b _ List.mem_cons_self
    refine ⟨?_, fun z hz => ?_⟩
    · rcases List.mem_cons.mp a with q | q
      · rw [q]
        split
        · exact List.mem_cons_of_mem _ List.mem_cons_self
        · exact List.mem_cons_self
      · exact List.mem_cons_of_mem _ (List.mem_cons_of_mem _ q)
    · rcases List.mem_cons.mp hz with rfl | hz
      · split at c
        · rename_i q
          rw [if_pos q]
          exact dle_trans _ _ _ c (leE_def.mpr fun w => ltE_irrefl _ (ltE_trans w q))
        · rename_i q
          rw [if_neg q]
          exact c
      · rcases List.mem_cons.mp hz with rfl | hz
        · split at c
          · rename_i q
            rw [if_pos q]
            exact c
          · rename_i q
            rw [if_neg q]
            exact dle_trans _ _ _ c (leE_def.mpr q)
        · exact b z (List.mem_cons_of_mem _ hz)
theorem Enc.max_spec (h : Enc n e) : ∀ (x : α) (xs : List α), maxE e x xs ∈ x :: xs ∧ ∀ y ∈ x :: xs, leE e y (maxE e x xs)
  | x, [] => ⟨List.mem_cons_self, fun y hy => by
    rw [List.mem_singleton.mp hy]
    exact leE_def.mpr (ltE_irrefl x)⟩
  | x, y :: ys => by
    have hs : maxE e x (y :: ys) = maxE e (if dlt (e x) (e y) = true then y else x) ys := rfl
    rw [hs]
    obtain ⟨a, b⟩ := h.max_spec (if dlt (e x) (e y) = true then y else x) ys
    have c := b _ List.mem_cons_self
    refine ⟨?_, fun z hz => ?_⟩
    · rcases List.mem_cons.mp a with q | q
      · rw [q]
        split
        · exact List.mem_cons_of_mem _ List.mem_cons_self
        · exact List.mem_cons_self
      · exact List.mem_cons_of_mem _ (List.mem_cons_of_mem _ q)
    · rcases List.mem_cons.mp hz with rfl | hz
      · split at c
        · rename_i q
          rw [if_pos q]
          exact dle_trans _ _ _ (leE_def.mpr fun w => ltE_irrefl _ (ltE_trans w q)) c
        · rename_i q
          rw [if_neg q]
          exact c
      · rcases List.mem_cons.mp hz with rfl | hz
        · split at c
          · rename_i q
            rw [if_pos q]
            exact c
          · rename_i q
            rw [if_neg q]
            exact dle_trans _ _ _ (leE_def.mpr q) c
        · exact b z (List.mem_cons_of_mem _ hz)
theorem Enc.min_eq (h : Enc n e) {x a : α} {xs : List α} (h1 : a ∈ x :: xs) (h2 : ∀ y ∈ x :: xs, leE e a y) : minE e x xs = a :=
  let ⟨p, q⟩ := h.min_spec x xs
  h.anti (q a h1) (h2 _ p)
theorem Enc.max_eq (h : Enc n e) {x a : α} {xs : List α} (h1 : a ∈ x :: xs) (h2 : ∀ y ∈ x :: xs, leE e y a) : maxE e x xs = a :=
  let ⟨p, q⟩ := h.max_spec x xs
  h.anti (h2 _ p) (q a h1)
/-! sets -/
def ddE [DecidableEq α] : List α → List α
  | [] => []
  | x :: r => match r with
    | [] => [x]
    | y :: _ => if x = y then ddE r else x :: ddE r
def usetE (e : α → PyData) (xs : List α) : List α := ddE (sortE e xs)
theorem ddE_map (h : Enc n e) : ∀ xs : List α, dd1 (xs.map e) = (ddE xs).map e
  | [] => rfl
  | [x] => rfl
  | x :: y :: r => by
    have ih := ddE_map h (y :: r)
    rw [List.map_cons, List.map_cons, dd1_cons, h.eqv]
    rw [List.map_cons] at ih
    rw [ih]
    show _ = List.map e (if x = y then ddE (y :: r) else x :: ddE (y :: r))
    by_cases q : x = y
    · simp [q]
    · simp [q]
theorem Enc.usort (h : Enc n e) (xs : List α) : usort (xs.map e) = (usetE e xs).map e := by
  unfold DL.usort usetE
  rw [← ddE_map h]
  congr 1
  exact (List.map_mergeSort (r := fun a b => dle (e a) (e b)) (s := dle) (f := e) fun a _ b _ => rfl).symm
theorem Enc.uset_mem (h : Enc n e) {xs : List α} {a : α} : a ∈ usetE e xs ↔ a ∈ xs := by
  have hp : ∀ x ∈ xs.map e, ∀ y ∈ xs.map e, PyData.eqv x y = true → x = y := by
    intro x hx y hy q
    obtain ⟨a, _, rfl⟩ := List.mem_map.mp hx
    obtain ⟨b, _, rfl⟩ := List.mem_map.mp hy
    rw [h.eqv] at q
    rw [of_decide_eq_true q]
  have := usort_mem hp (e a)
  rw [h.usort] at this
  constructor
  · intro q
    obtain ⟨b, hb, e1⟩ := List.mem_map.mp (this.mp (List.mem_map.mpr ⟨a, q, rfl⟩))
    exact h.inj e1 ▸ hb
  · intro q
    obtain ⟨b, hb, e1⟩ := List.mem_map.mp (this.mpr (List.mem_map.mpr ⟨a, q, rfl⟩))
    exact h.inj e1 ▸ hb
theorem Enc.uset_strict (h : Enc n e) {xs : List α} : (usetE e xs).Pairwise (ltE e) := by
  have := usort_strict (ds := xs.map e) (by
    intro x hx y hy
    obtain ⟨a, _, rfl⟩ := List.mem_map.mp hx
    obtain ⟨b, _, rfl⟩ := List.mem_map.mp hy
    exact h.alk a b)
  rw [h.usort] at this
  exact List.Pairwise.of_map e (fun a b q => q) this
theorem Enc.uset_of (h : Enc n e) {xs ys : List α} (h1 : ys.Pairwise (ltE e)) (h2 : ∀ a, a ∈ ys ↔ a ∈ xs) : usetE e xs = ys :=
  strict_ext (lt := ltE e) ltE_irrefl (fun _ _ _ => ltE_trans) h.uset_strict h1 fun a => h.uset_mem.trans (h2 a).symm
theorem Enc.uset_nodup (h : Enc n e) {xs : List α} : (usetE e xs).Nodup := h.uset_strict.imp fun {a b} q z => by subst z; exact ltE_irrefl _ q
theorem Enc.soset_l (h : Enc n e) {xs : List α} (hs : setB (xs.map e) = true) (hn : n ≤ 20 := by decide) : soSetL [.list (xs.map e)] = some ((usetE e xs).map e) := by
  show (if _ then some (DL.usort (xs.map e)) else none) = _
  rw [if_pos ⟨hs, h.sortB xs hn⟩, h.usort]
theorem Enc.soset_t (h : Enc n e) {xs : List α} (hs : setB (xs.map e) = true) (hn : n ≤ 20 := by decide) : soSetL [.tuple (xs.map e)] = some ((usetE e xs).map e) := h.soset_l hs hn
theorem Enc.leset_l (h : Enc n e) {xs : List α} (hs : setB (xs.map e) = true) : leSetD [.list (xs.map e)] = some (.int (usetE e xs).length) := by
  show (if _ then some (PyData.int ((DL.usort (xs.map e)).length : Nat)) else none) = _
  rw [if_pos ⟨hs, h.alikeB xs⟩, h.usort, List.length_map]
theorem Enc.leset_t (h : Enc n e) {xs : List α} (hs : setB (xs.map e) = true) : leSetD [.tuple (xs.map e)] = some (.int (usetE e xs).length) := h.leset_l hs
end
theorem setB_int {xs : List Int} (h : xs.length < 4000) : setB (xs.map .int) = true := by
  unfold setB
  have : (xs.map PyData.int).all isKK = true := by rw [List.all_map, List.all_eq_true]; exact fun _ _ => rfl
  rw [this, List.length_map, decide_eq_true h]; rfl
theorem setB_nat {xs : List Nat} (h : xs.length < 4000) : setB (xs.map fun k : Nat => PyData.int k) = true := by
  unfold setB
  have : (xs.map fun k : Nat => PyData.int k).all isKK = true := by rw [List.all_map, List.all_eq_true]; exact fun _ _ => rfl
  rw [this, List.length_map, decide_eq_true h]; rfl
theorem setB_str {xs : List Str} (h : xs.length < 4000) : setB (xs.map .str) = true := by
  unfold setB
  have : (xs.map PyData.str).all isKK = true := by rw [List.all_map, List.all_eq_true]; exact fun _ _ => rfl
  rw [this, List.length_map, decide_eq_true h]; rfl
theorem setB_pr {xs : List (Int × Int)} (h : xs.length < 64) : setB (xs.map pr) = true := by
  unfold setB
  have : (xs.map pr).all isIT = true := by rw [List.all_map, List.all_eq_true]; exact fun _ _ => rfl
  rw [this, List.length_map, decide_eq_true h]
  simp
theorem setB_ints {xs : List (List Int)} (h : xs.length < 64) : setB (xs.map fun ns => .tuple (ns.map .int)) = true := by
  unfold setB
  have : (xs.map fun ns : List Int => PyData.tuple (ns.map .int)).all isIT = true := by
    rw [List.all_map, List.all_eq_true]
    intro ns _
    show (ns.map PyData.int).all _ = true
    rw [List.all_map, List.all_eq_true]
    exact fun _ _ => rfl
  rw [this, List.length_map, decide_eq_true h]
  simp
theorem lt_int {a b : Int} : ltE PyData.int a b ↔ a < b := by unfold ltE dlt; rw [PySem.W.dataLt_int, decide_eq_true_eq]
theorem le_int {a b : Int} : leE PyData.int a b ↔ a ≤ b := by rw [leE_def, lt_int]; omega
theorem lt_nat {a b : Nat} : ltE (fun k : Nat => PyData.int (k : Int)) a b ↔ a < b := by unfold ltE dlt; rw [PySem.W.dataLt_int, decide_eq_true_eq]; omega
theorem le_nat {a b : Nat} : leE (fun k : Nat => PyData.int (k : Int)) a b ↔ a ≤ b := by rw [leE_def, lt_nat]; omega
theorem lt_pr {p q : Int × Int} : ltE pr p q ↔ p.1 < q.1 ∨ (p.1 = q.1 ∧ p.2 < q.2) := by unfold ltE dlt pr; rw [PySem.W.dataLt_ii, decide_eq_true_eq]
theorem le_pr {p q : Int × Int} : leE pr p q ↔ p.1 < q.1 ∨ (p.1 = q.1 ∧ p.2 ≤ q.2) := by rw [leE_def, lt_pr]; omega
theorem dlt_pair {x y x' y' : PyData} (h : PySem.W.alike x x' = true) (h' : PySem.W.alike y y' = true) : dlt (.tuple [x, y]) (.tuple [x', y']) = if PyData.eqv x x' = true then (if PyData.eqv y y' = true then false else dlt y y') else dlt x x' := PySem.W.dataLt_pair h h'
theorem dlt_cons {x y : PyData} {xs ys : List PyData} (h : PySem.W.alike x y = true) : dlt (.tuple (x :: xs)) (.tuple (y :: ys)) = if PyData.eqv x y = true then dlt (.tuple xs) (.tuple ys) else dlt x y := by
  show PySem.W.dataLt _ _ = _
  rw [PySem.W.dataLt_tuple, PySem.W.dataLt_cons h]
  show _ = if _ then PySem.W.dataLt _ _ else _
  rw [PySem.W.dataLt_tuple]
theorem dlt_nil_cons {y : PyData} {ys : List PyData} : dlt (.tuple []) (.tuple (y :: ys)) = true := by
  show PySem.W.dataLt _ _ = _
  rw [PySem.W.dataLt_tuple, PySem.W.toks_all_cons]
  rfl
theorem dlt_cons_nil {y : PyData} {ys : List PyData} : dlt (.tuple (y :: ys)) (.tuple []) = false := by
  show PySem.W.dataLt _ _ = _
  rw [PySem.W.dataLt_tuple, PySem.W.toks_all_cons]
  rfl
/-! the law's own sameness -/
/-- ints, truths, texts, None, tuples of these not too long, n deep -/
def okS : Nat → PyData → Bool
  | 0, _ => false
  | n + 1, .tuple xs => decide (xs.length ≤ 100000) && xs.all (okS n)
  | _ + 1, .list _ => false
  | _ + 1, .dict _ => false
  | _ + 1, _ => true
theorem same_ok : ∀ {n : Nat} {d : PyData}, okS n d = true → f__law_same n [d, d] = some (.bool true)
  | 0, d, h => by cases h
  | n + 1, .tuple xs, h => by
    have h : (decide (xs.length ≤ 100000) && xs.all (okS n)) = true := h
    rw [Bool.and_eq_true, List.all_eq_true] at h
    exact same_refl_t (fun x hx => same_ok (h.2 x hx)) (of_decide_eq_true h.1)
  | n + 1, .list _, h => by cases h
  | n + 1, .dict _, h => by cases h
  | n + 1, .none, _ => same_refl_n
  | n + 1, .bool _, _ => same_refl_b
  | n + 1, .int _, _ => same_refl_i
  | n + 1, .str _, _ => same_refl_s
theorem alike_ok : ∀ {n : Nat} {d : PyData}, okS n d = true → f__law_alike n [d, d] = some (.bool true)
  | 0, d, h => by cases h
  | n + 1, .tuple xs, h => by
    have h : (decide (xs.length ≤ 100000) && xs.all (okS n)) = true := h
    rw [Bool.and_eq_true, List.all_eq_true] at h
    exact alike_refl_t (fun x hx => alike_ok (h.2 x hx)) (of_decide_eq_true h.1)
  | n + 1, .list _, h => by cases h
  | n + 1, .dict _, h => by cases h
  | n + 1, .none, _ => alike_refl_n
  | n + 1, .bool _, _ => alike_refl_b
  | n + 1, .int _, _ => alike_refl_i
  | n + 1, .str _, _ => alike_refl_s
section
variable {n : Nat} {i : Int} {b : Bool} {x : Str} {xs : List PyData} {α : Type} {l : List α} {F : α → PyData}
@[simp] theorem okS_i : okS (n + 1) (.int i) = true := rfl
@[simp] theorem okS_b : okS (n + 1) (.bool b) = true := rfl
@[simp] theorem okS_s : okS (n + 1) (.str x) = true := rfl
@[simp] theorem okS_n : okS (n + 1) .none = true := rfl
@[simp] theorem okS_t : okS (n + 1) (.tuple xs) = (decide (xs.length ≤ 100000) && xs.all (okS n)) := rfl
@[simp] theorem okS_pr {p : Int × Int} : okS (n + 2) (pr p) = true := rfl
end
end DL
namespace DL
open PySem PySem.Spec L2
open PyProof.Rows hiding St
/-! ### list(range(..)), tuple(range(..)) -/
abbrev Rv := Env' → Sto → Option ((Int × Int) × Sto)
def RvOk (c : Cxt) (t : L2.St → Hp → (Int → Int → Hp → Prop) → Prop) (f : Rv) : Prop := ∀ Lf adr S σ H ρ i j S' (Q : Int → Int → Hp → Prop), EOk c Lf adr S σ H ρ → f ρ S = some ((i, j), S') →
  (∀ adr' H', Ext adr S H adr' S' H' → StOk c Lf adr' S' H' → Q i j H') → t σ H Q
def DRg (c : Cxt) (e : Expr) (f : Rv) : Prop := ∃ t, (∀ X, InC c X → PRg X e t) ∧ RvOk c t f
def asI (o : Option (D × Sto)) : Option (Int × Sto) := o.bind fun p => match p.1 with | .p (.int i) => some (i, p.2) | _ => none
def rg1 (fa : Ev) : Rv := fun ρ S => (asI (fa ρ S)).bind fun p => some ((0, p.1), p.2)
def rg2 (fa fb : Ev) : Rv := fun ρ S => (asI (fa ρ S)).bind fun p => (asI (fb ρ p.2)).bind fun q => some ((p.1, q.1), q.2)
theorem asI_inv {o : Option (D × Sto)} {i : Int} {S : Sto} (h : asI o = some (i, S)) : o = some (.p (.int i), S) := by
  unfold asI at h
  obtain ⟨⟨x, S1⟩, e1, e2⟩ := Option.bind_eq_some_iff.mp h
  cases x with
  | p d => cases d <;> cases e2; exact e1
  | _ => cases e2
section
variable {c : Cxt} {a b e : Expr} {fa fb : Ev} {f : Rv} {pos p : Pos}
theorem drg1 (hm : c.mg "range" = none) (ha : DE c a fa) (hg : c.sc.names.lookup ("range" : Str) = some .globalImplicit := by rfl) (hst : noStar [a] = true := by rfl) : DRg c (.Call (.Name "range" p) [a] [] pos) (rg1 fa) := by
  obtain ⟨ta, pa, va⟩ := ha
  refine ⟨tRg1 ta, fun X hX => prg_1 (show Gl X "range" by show X.env.scope.names.lookup _ = _; rw [hX.sc]; exact hg) (by rw [hX.mg]; exact hm) (pa X hX) (star_cons hst), fun Lf adr S σ H ρ i j S' Q I e w => ?_⟩
  unfold rg1 at e
  obtain ⟨⟨k, S1⟩, e1, e2⟩ := Option.bind_eq_some_iff.mp e
  cases e2
  refine va Lf adr S σ H ρ _ _ _ I (asI_inv e1) fun v adr1 H1 x1 s1 r1 => ?_
  have r1 : At H1 _ v (.int k) := r1
  cases r1
  exact ⟨k, rfl, w adr1 H1 x1 s1⟩
theorem drg2 (hm : c.mg "range" = none) (ha : DE c a fa) (hb : DE c b fb) (hg : c.sc.names.lookup ("range" : Str) = some .globalImplicit := by rfl) (hst : noStar [a, b] = true := by rfl) : DRg c (.Call (.Name "range" p) [a, b] [] pos) (rg2 fa fb) := by
  obtain ⟨ta, pa, va⟩ := ha
  obtain ⟨tb, pb, vb⟩ := hb
  refine ⟨tRg2 ta tb, fun X hX => prg_2 (show Gl X "range" by show X.env.scope.names.lookup _ = _; rw [hX.sc]; exact hg) (by rw [hX.mg]; exact hm) (pa X hX) (pb X hX) (by rw [star_cons hst, star_cons (star_tl hst)]) (star_cons (star_tl hst)) (star_any (star_tl hst)), fun Lf adr S σ H ρ i j S' Q I e w => ?_⟩
  unfold rg2 at e
  obtain ⟨⟨k, S1⟩, e1, e2⟩ := Option.bind_eq_some_iff.mp e
  obtain ⟨⟨l, S2⟩, e3, e4⟩ := Option.bind_eq_some_iff.mp e2
  cases e4
  refine va Lf adr S σ H ρ _ _ _ I (asI_inv e1) fun v adr1 H1 x1 s1 r1 => ?_
  refine vb Lf adr1 S1 σ H1 ρ _ _ _ (I.ext x1 s1) (asI_inv e3) fun u adr2 H2 x2 s2 r2 => ?_
  have r1 : At H1 _ v (.int k) := r1
  have r2 : At H2 _ u (.int l) := r2
  cases r1
  cases r2
  exact ⟨k, l, rfl, rfl, w adr2 H2 (x1.trans x2) s2⟩
def rgOk (i j : Int) : Prop := -4611686018427387904 ≤ i ∧ i < 4611686018427387904 ∧ -4611686018427387904 ≤ j ∧ j < 4611686018427387904 ∧ (j - i).toNat ≤ 10000000
instance {i j : Int} : Decidable (rgOk i j) := inferInstanceAs (Decidable (_ ∧ _))
theorem at_rg {H : Hp} {L : AdP} {i j : Int} : AtL H L (rgV i j) (rngD i (j - i).toNat) := by
  unfold rgV rngD
  generalize List.range (j - i).toNat = l
  induction l with
  | nil => exact .nil
  | cons k l ih => exact .cons (.int _) ih
def lRg (f : Rv) : Lsv := fun ρ S => (f ρ S).bind fun p => if rgOk p.1.1 p.1.2 then some (rngD p.1.1 (p.1.2 - p.1.1).toNat, p.2) else none
def eTrg (f : Rv) : Ev := fun ρ S => (f ρ S).bind fun p => if rgOk p.1.1 p.1.2 then some (.p (.tuple (rngD p.1.1 (p.1.2 - p.1.1).toNat)), p.2) else none
theorem rgOk_of {i j : Int} (h : rgOk i j) : RgOk i j := by
  obtain ⟨h1, h2, h3, h4, h5⟩ := h
  exact ⟨by omega, by omega, by omega, by omega, by omega⟩
theorem l_rg (hm : c.mg "list" = none) (he : DRg c e f) (hg : c.sc.names.lookup ("list" : Str) = some .globalImplicit := by rfl) (hst : noStar [e] = true := by rfl) : DLs c (.Call (.Name "list" p) [e] [] pos) (lRg f) := by
  obtain ⟨t, pt, vt⟩ := he
  refine ⟨tLstRg t, fun X hX => pe_listRg hX.calm (show Gl X "list" by show X.env.scope.names.lookup _ = _; rw [hX.sc]; exact hg) (by rw [hX.mg]; exact hm) (pt X hX) (star_cons hst), fun Lf adr S σ H ρ ds S' Q I e w => ?_⟩
  unfold lRg at e
  obtain ⟨⟨⟨i, j⟩, S1⟩, e1, e2⟩ := Option.bind_eq_some_iff.mp e
  simp only at e2
  split at e2
  · rename_i hz
    cases e2
    refine vt Lf adr S σ H ρ i j _ _ I e1 fun adr1 H1 x1 s1 => ⟨rgOk_of hz, fun q hq => ?_⟩
    exact wi_grL s1 (w.trans x1) q _ _ hq (upd_grow hq) upd_same at_rg
  · cases e2
theorem t_rg (hm : c.mg "tuple" = none) (he : DRg c e f) (hg : c.sc.names.lookup ("tuple" : Str) = some .globalImplicit := by rfl) (hst : noStar [e] = true := by rfl) : DE c (.Call (.Name "tuple" p) [e] [] pos) (eTrg f) := by
  obtain ⟨t, pt, vt⟩ := he
  refine ⟨tTupRg t, fun X hX => pe_tupRg hX.calm (show Gl X "tuple" by show X.env.scope.names.lookup _ = _; rw [hX.sc]; exact hg) (by rw [hX.mg]; exact hm) (pt X hX) (star_cons hst), fun Lf adr S σ H ρ d S' Q I e w => ?_⟩
  unfold eTrg at e
  obtain ⟨⟨⟨i, j⟩, S1⟩, e1, e2⟩ := Option.bind_eq_some_iff.mp e
  simp only at e2
  split at e2
  · rename_i hz
    cases e2
    refine vt Lf adr S σ H ρ i j _ _ I e1 fun adr1 H1 x1 s1 => ⟨rgOk_of hz, fun q hq => ?_⟩
    exact wi_gr s1 (w.trans x1) _ _ (upd_grow hq) (.newT (fun z => s1.lvv) hq at_rg)
  · cases e2
end
section
variable {ρ : Env'} {S : Sto} {fa fb : Ev} {f : Rv} {Q : QE} {QL : List PyData × Sto → Prop} {QI : Int × Sto → Prop} {QR : (Int × Int) × Sto → Prop} {o : Option (D × Sto)}
@[simp ↓] theorem w_asI : W (asI o) QI = W o fun p => match p.1 with | .p (.int i) => QI (i, p.2) | _ => False := by
  unfold asI
  rw [W_bind]
  congr; funext p
  obtain ⟨x, S1⟩ := p
  cases x <;> first | exact W_none | (rename_i d; cases d <;> first | exact W_none | exact W_some)
@[simp ↓] theorem w_rg1 : W (rg1 fa ρ S) QR = W (asI (fa ρ S)) fun p => QR ((0, p.1), p.2) := by
  unfold rg1
  simp only [W_bind, W_some]
@[simp ↓] theorem w_rg2 : W (rg2 fa fb ρ S) QR = W (asI (fa ρ S)) fun p => W (asI (fb ρ p.2)) fun q => QR ((p.1, q.1), q.2) := by
  unfold rg2
  simp only [W_bind, W_some]
@[simp ↓] theorem w_lrg : W (lRg f ρ S) QL = W (f ρ S) fun p => rgOk p.1.1 p.1.2 ∧ QL (rngD p.1.1 (p.1.2 - p.1.1).toNat, p.2) := by
  unfold lRg
  simp only [W_bind, W_req]
@[simp ↓] theorem w_etrg : W (eTrg f ρ S) Q = W (f ρ S) fun p => rgOk p.1.1 p.1.2 ∧ Q (.p (.tuple (rngD p.1.1 (p.1.2 - p.1.1).toNat)), p.2) := by
  unfold eTrg
  simp only [W_bind, W_req]
end
end DL
namespace DL
open PySem PySem.Spec L2
open PyProof.Rows hiding St
/-! ### more of plain walking -/
theorem bolsD_map {α : Type} {xs : List α} {G : α → Bool} : bolsD (xs.map fun a => .bool (G a)) = some (xs.map G) := by
  induction xs with
  | nil => rfl
  | cons x xs ih => rw [List.map_cons, bolsD, ih]; rfl
@[simp] theorem anyD_l {α : Type} {xs : List α} {G : α → Bool} : anyD [.list (xs.map fun a => .bool (G a))] = some (.bool (xs.any G)) := by
  show (bolsD _).map _ = _
  rw [bolsD_map]
  simp
@[simp] theorem allD_l {α : Type} {xs : List α} {G : α → Bool} : allD [.list (xs.map fun a => .bool (G a))] = some (.bool (xs.all G)) := by
  show (bolsD _).map _ = _
  rw [bolsD_map]
  simp
/-- what a law's test says -/
theorem ite_of {c : Prop} [Decidable c] {a b : Prop} (hc : c) (h : a) : if c then a else b := by rw [if_pos hc]; exact h
theorem ite_not {c : Prop} [Decidable c] {a b : Prop} (hc : ¬ c) (h : b) : if c then a else b := by rw [if_neg hc]; exact h
/-- strictly rising lists: a part is a sublist -/
theorem asc_sublist {α : Type} {lt : α → α → Prop} (irr : ∀ a, ¬ lt a a) (tr : ∀ a b c, lt a b → lt b c → lt a c) : ∀ {xs ys : List α}, xs.Pairwise lt → ys.Pairwise lt → (∀ a ∈ xs, a ∈ ys) → xs.Sublist ys
  | [], ys, _, _, _ => List.nil_sublist ys
  | x :: xs, [], _, _, h => by have := h x List.mem_cons_self; cases this
  | x :: xs, y :: ys, h1, h2, h => by
    obtain ⟨a1, a2⟩ := List.pairwise_cons.mp h1
    obtain ⟨b1, b2⟩ := List.pairwise_cons.mp h2
    rcases List.mem_cons.mp (h x List.mem_cons_self) with e | hx
    · subst e
      refine .cons₂ _ (asc_sublist irr tr a2 b2 fun a ha => ?_)
      rcases List.mem_cons.mp (h a (List.mem_cons_of_mem _ ha)) with e | q
      · exact absurd (e ▸ a1 a ha) (irr _)
      · exact q
    · refine .cons _ (asc_sublist irr tr h1 b2 fun a ha => ?_)
      rcases List.mem_cons.mp (h a ha) with e | q
      · subst e
        rcases List.mem_cons.mp ha with e | q
        · subst e; exact hx
        · exact absurd (tr _ _ _ (b1 x hx) (a1 _ q)) (irr _)
      · exact q
theorem nat_sublist {xs ys : List Nat} (h1 : xs.Pairwise (· < ·)) (h2 : ys.Pairwise (· < ·)) (h : ∀ a ∈ xs, a ∈ ys) : xs.Sublist ys := asc_sublist (lt := (· < ·)) Nat.lt_irrefl (fun _ _ _ => Nat.lt_trans) h1 h2 h
/-- in a row that is sorted by a number, the lesser one stands ahead -/
theorem ahead_of {α : Type} {f : α → Nat} {l1 l2 : List α} {p m : α} (h : (l1 ++ p :: l2).Pairwise fun a b => f a ≤ f b) (hm : m ∈ l1 ++ p :: l2) (hlt : f m < f p) : m ∈ l1 := by
  rcases List.mem_append.mp hm with h1 | h1
  · exact h1
  · have h2 := (List.pairwise_append.mp h).2.1
    rcases List.mem_cons.mp h1 with e | h1
    · subst e; omega
    · have := (List.pairwise_cons.mp h2).1 m h1
      omega
/-- the least by a number -/
theorem least_by {α : Type} (f : α → Nat) (P : α → Prop) (h : ∃ a, P a) : ∃ a, P a ∧ ∀ b, P b → f a ≤ f b := by
  obtain ⟨a, ha⟩ := h
  suffices H : ∀ n a, P a → f a ≤ n → ∃ a, P a ∧ ∀ b, P b → f a ≤ f b from H (f a) a ha (Nat.le_refl _)
  intro n
  induction n with
  | zero => intro a ha h0; exact ⟨a, ha, fun b _ => by omega⟩
  | succ n ih =>
    intro a ha hn
    by_cases q : ∃ b, P b ∧ f b < f a
    · obtain ⟨b, hb, hlt⟩ := q
      exact ih b hb (by omega)
    · exact ⟨a, ha, fun b hb => by
        by_cases z : f b < f a
        · exact absurd ⟨b, hb, z⟩ q
        · omega⟩
theorem fempty {α : Type} {p : α → Bool} : ∀ {xs : List α}, (xs.filter p).isEmpty = !xs.any p
  | [] => rfl
  | x :: xs => by
    rw [List.any_cons, Bool.not_or, ← fempty, List.filter_cons]
    cases h : p x <;> simp
theorem fempty_n {α : Type} {p : α → Bool} {xs : List α} : (!(xs.filter p).isEmpty) = xs.any p := by rw [fempty, Bool.not_not]
end DL
namespace DL
open PySem PySem.Spec L2
open PyProof.Rows hiding St
/-! ### more defs that many laws have -/
noncomputable def b__law_pick : Sv := sRet (e2 ixD (eVar 1) (eCG f__law_next (aCons (eVar 0) (aCons (eB lenD (aCons (eVar 1) (aNil))) (aNil)))))
noncomputable def f__law_pick := runG 2 2 b__law_pick
noncomputable def b__law_says : Sv := sRet (eAnd (eIsa "bool" (eVar 0)) (e2 eqD (eVar 0) (eVar 1)))
noncomputable def f__law_says := runP 2 2 b__law_says
theorem w_pick_l {xs : List PyData} {ds : List Int} {a : Nat} {rest : Sto} {Q : D × Sto → Prop} (hne : xs ≠ []) (h : ∀ (x : PyData) (a' : Nat), x ∈ xs → Q (.p x, some (.d (Wd ds a')) :: rest)) : W (f__law_pick [.c 0, .p (.list xs)] (some (.d (Wd ds a)) :: rest)) Q := by
  unfold f__law_pick b__law_pick
  simp
  have hp : 0 < xs.length := List.length_pos_iff.mpr hne
  refine w_next (by omega) fun r a' h0 h1 => ?_
  obtain ⟨k, rfl⟩ : ∃ k : Nat, r = k := ⟨r.toNat, by omega⟩
  have hk : k < xs.length := by omega
  simp [atI_pos, hk]
  exact h _ a' (List.getElem_mem hk)
theorem w_pick_t {xs : List PyData} {ds : List Int} {a : Nat} {rest : Sto} {Q : D × Sto → Prop} (hne : xs ≠ []) (h : ∀ (x : PyData) (a' : Nat), x ∈ xs → Q (.p x, some (.d (Wd ds a')) :: rest)) : W (f__law_pick [.c 0, .p (.tuple xs)] (some (.d (Wd ds a)) :: rest)) Q := by
  unfold f__law_pick b__law_pick
  simp
  have hp : 0 < xs.length := List.length_pos_iff.mpr hne
  refine w_next (by omega) fun r a' h0 h1 => ?_
  obtain ⟨k, rfl⟩ : ∃ k : Nat, r = k := ⟨r.toNat, by omega⟩
  have hk : k < xs.length := by omega
  simp [atI_pos, hk]
  exact h _ a' (List.getElem_mem hk)
@[simp] theorem says_ok {b : Bool} : f__law_says [.bool b, .bool b] = some (.bool true) := by
  suffices H : W (f__law_says [.bool b, .bool b]) fun q => q = .bool true from W_out H
  unfold f__law_says b__law_says
  rw [w_runP]
  simp
end DL
namespace DL
open PySem PySem.Spec L2
open PyProof.Rows hiding St
/-! ### tuple * int, any int -/
theorem tuple_mulW1 (l : Addr) (items : Array Value) (n : Nat) (dd : Option Addr) (sl : Array (Option Value)) (x : Int) (u : Tok) (c0 : (decide (x < -(2 ^ 63)) || decide (x ≥ 2 ^ 63)) = false) (c1 : (items.isEmpty || x == 1) = true) :
    Meets (Builtin.«tuple.__mul__» ⟨[.ref l, .int x u], []⟩) (fun _ R s => s.heap.get? l = some { cls := .type "tuple", dict := dd, data := .seq items n, slots := sl } ∧ R (.ok (.ret (Value.ref l))) { s with heap := s.heap, toks := s.toks }) :=
  .of_wp fun prog w A R s h => by
    obtain ⟨hp, g, d, tk, os⟩ := s
    obtain ⟨hl, h⟩ := h
    have f1 := AutoSeq1.idx_int
    have f2 := AutoSeq1.sub_tuple_tuple
    wp_walk using wpAny_loadPart' hl
    repeat (first
      | (refine wpAny_ite_false (decide_eq_false (by rw [c0]; exact Bool.false_ne_true)) ?_; wp_walk using wpAny_loadPart' hl)
      | (refine wpAny_ite_true (decide_eq_true (by rw [c1])) ?_; wp_walk using wpAny_loadPart' hl))
    exact ⟨_, rfl, h⟩
theorem tuple_mulW0 (l : Addr) (items : Array Value) (n : Nat) (dd : Option Addr) (sl : Array (Option Value)) (x : Int) (u : Tok) (c0 : (decide (x < -(2 ^ 63)) || decide (x ≥ 2 ^ 63)) = false) (c1 : (items.isEmpty || x == 1) = false) (c2 : (decide (x ≤ 0) || items.isEmpty) = true) :
    Meets (Builtin.«tuple.__mul__» ⟨[.ref l, .int x u], []⟩) (fun _ R s => s.heap.get? l = some { cls := .type "tuple", dict := dd, data := .seq items n, slots := sl } ∧ R (.ok (.ret (Value.ref s.heap.objs.size))) { s with heap := s.heap.push { cls := Value.type "tuple", data := Data.seq #[] }, toks := s.toks }) :=
  .of_wp fun prog w A R s h => by
    obtain ⟨hp, g, d, tk, os⟩ := s
    obtain ⟨hl, h⟩ := h
    have f1 := AutoSeq1.idx_int
    have f2 := AutoSeq1.sub_tuple_tuple
    wp_walk using wpAny_loadPart' hl
    repeat (first
      | (refine wpAny_ite_false (decide_eq_false (by rw [c0]; exact Bool.false_ne_true)) ?_; wp_walk using wpAny_loadPart' hl)
      | (refine wpAny_ite_false (decide_eq_false (by rw [c1]; exact Bool.false_ne_true)) ?_; wp_walk using wpAny_loadPart' hl)
      | (refine wpAny_ite_true (decide_eq_true (by rw [c2])) ?_; wp_walk using wpAny_loadPart' hl))
    exact ⟨_, rfl, h⟩
def mulT : PyData → PyData → Option PyData
  | .tuple xs, .int k => if -1000 ≤ k ∧ k ≤ 1000 ∧ xs.length ≤ 1000 then some (.tuple (List.replicate k.toNat xs).flatten) else none
  | _, _ => none
variable {X : Cx}
theorem ho_mulT : OpR X (binaryOp .Mult) (rD X.K mulT) := by
  intro pins s σ H x y v u Q I rx ry hq
  obtain ⟨L, a, b, r, hl, ha, hb, e, q⟩ := hq
  cases a <;> cases b <;> simp [mulT] at e
  rename_i ds k
  obtain ⟨⟨h1, h2, hz⟩, e⟩ := e
  subst e
  obtain ⟨a1, xs, rfl, hT, r1⟩ := ha.tuple_inv
  have eb := hb.int_inv
  subst eb
  have hlen := r1.length
  have hT : SqT X.K H a1 xs := hT
  by_cases hbig : xs ≠ [] ∧ 2 ≤ k
  · exact op_repT pins s σ H _ _ v u Q I rx ry ⟨a1, k, xs, rfl, rfl, hT, hbig.1, hbig.2, h2, by omega, fun p hp => q _ _ (upd_grow hp) (.newT hl hp (r1.rep _))⟩
  cases rx
  obtain ⟨t, rfl⟩ := ry
  obtain ⟨its, rr, ⟨⟨cls, dd, data, sl⟩, ho, hc, n, hd⟩, hs⟩ := I.tuple hT
  simp only at hc hd
  subst hc hd
  have hle : its.length = xs.length := rr.length.symm
  have hsz0 : its.toArray.size = xs.length := by rw [List.size_toArray, hle]
  have c0 : (decide (k < -(2 ^ 63)) || decide (k ≥ 2 ^ 63)) = false := by
    rw [decide_eq_false (by omega), decide_eq_false (by omega)] <;> rfl
  by_cases hsame : its.toArray.isEmpty = true ∨ k = 1
  · have c1 : (its.toArray.isEmpty || k == 1) = true := by
      rcases hsame with z | z
      · rw [z]; rfl
      · subst z; simp
    refine wpAny_binaryOp_repeat_ref (T := "tuple") (U := "int") (by decide) ⟨_, ho, rfl⟩ (fun s' => typeIs_int s' k t) noFill_tuple_mul F.fills_int_mul F.slot_int_rmul repeat_tuple F.slot_int_index.lookup
      (call_meets F.slot_int_rmul (typeIs_int s k t) F.entry_int_rmul (F.args_int_rmul_2 _ _) (int_rmul_tuple k t a1 its.toArray n dd sl)
        ⟨ho, rfl, ⟨_, ho, rfl⟩, call_meets F.slot_tuple_mul ⟨_, ho, rfl⟩ F.entry_tuple_mul (F.args_tuple_mul_2 _ _) (tuple_mulW1 a1 its.toArray n dd sl k t c0 c1) ⟨ho, ?_⟩⟩)
    refine ⟨.ref a1, _, I.tok s.toks, rfl, ?_⟩
    have e : (List.replicate k.toNat ds).flatten = ds := by
      rcases hsame with z | z
      · have : its.length = 0 := by simpa using z
        have : ds = [] := List.eq_nil_of_length_eq_zero (by omega)
        subst this
        simp
      · subst z; simp
    rw [e] at q
    exact q _ _ (fun _ _ z => z) (by simpa using ha.tuple_at)
  · have hi : its.toArray.isEmpty = false := by
      cases hq : its.toArray.isEmpty
      · rfl
      · exact absurd (.inl hq) hsame
    have hk1 : k ≠ 1 := fun z => hsame (.inr z)
    have hne : xs ≠ [] := fun z => by
      subst z
      have : its = [] := List.eq_nil_of_length_eq_zero hle
      subst this
      cases hi
    have hk : k ≤ 0 := by
      have : ¬ 2 ≤ k := fun z => hbig ⟨hne, z⟩
      omega
    have c1 : (its.toArray.isEmpty || k == 1) = false := by
      rw [hi, Bool.false_or]
      exact beq_eq_false_iff_ne.mpr hk1
    have c2 : (decide (k ≤ 0) || its.toArray.isEmpty) = true := by
      rw [decide_eq_true hk]; rfl
    refine wpAny_binaryOp_repeat_ref (T := "tuple") (U := "int") (by decide) ⟨_, ho, rfl⟩ (fun s' => typeIs_int s' k t) noFill_tuple_mul F.fills_int_mul F.slot_int_rmul repeat_tuple F.slot_int_index.lookup
      (call_meets F.slot_int_rmul (typeIs_int s k t) F.entry_int_rmul (F.args_int_rmul_2 _ _) (int_rmul_tuple k t a1 its.toArray n dd sl)
        ⟨ho, rfl, ⟨_, ho, rfl⟩, call_meets F.slot_tuple_mul ⟨_, ho, rfl⟩ F.entry_tuple_mul (F.args_tuple_mul_2 _ _) (tuple_mulW0 a1 its.toArray n dd sl k t c0 c1 c2) ⟨ho, ?_⟩⟩)
    have hk0 : k.toNat = 0 := by omega
    have q2 := q _ _ (upd_grow (I.hok.fresh (Nat.le_refl _))) (.newT hl (I.hok.fresh (Nat.le_refl _)) (r1.rep k.toNat))
    rw [hk0] at q2
    refine ⟨.ref s.heap.objs.size, _, I.laid (t' := s.toks) (o := .tup []) (fun b ob q => Heap.get?_push_of_some _ q) (Nat.le_refl _) ?_, rfl, ?_⟩
    · exact ⟨Nat.zero_le _, [], .nil, IsTup.new _ _⟩
    · simpa [hk0] using q2
def mulX : PyData → PyData → Option PyData
  | .int i, .int j => mulI (.int i) (.int j)
  | a, b => mulT a b
theorem ho_mulX : OpR X (binaryOp .Mult) (rD X.K mulX) := opOr ho_mulI ho_mulT fun a b r q => by
  cases a <;> cases b <;> first | exact .inl q | exact .inr q
@[simp ↓] theorem w_mulX {i j : Int} {Q : PyData → Prop} : W (mulX (.int i) (.int j)) Q = ((i.natAbs < 2 ^ 64 ∨ j.natAbs < 2 ^ 64) ∧ Q (.int (i * j))) := W_req
@[simp ↓] theorem w_mulXT {xs : List PyData} {j : Int} {Q : PyData → Prop} : W (mulX (.tuple xs) (.int j)) Q = ((-1000 ≤ j ∧ j ≤ 1000 ∧ xs.length ≤ 1000) ∧ Q (.tuple (List.replicate j.toNat xs).flatten)) := W_req
/-- a comprehension whose test may draw -/
theorem w_compS {α β : Type} {F : α → PyData} {g : Gv} {t : Tv} {f : Ev} {ρ : Env'} {ds : List Int} (G : β → PyData) (R : β → Prop) :
    ∀ {xs : List α} {S : Sto} {Q : List PyData × Sto → Prop}, Stw ds S → (∀ x ∈ xs, ∀ a, W (g (F x) ρ) fun ρ1 => W (t ρ1 [some (.d (Wd ds a))]) fun b => Stw ds b.2 ∧ (b.1 = true → W (f ρ1 b.2) fun y => ∃ z, y.1 = .p (G z) ∧ R z ∧ Stw ds y.2)) →
    (∀ (zs : List β) (a : Nat), zs.length ≤ xs.length → (∀ z ∈ zs, R z) → Q (zs.map G, [some (.d (Wd ds a))])) → W (compL g t f ρ (xs.map F) S) Q
  | [], S, Q, hS, h, q => by
    obtain ⟨a, rfl⟩ := hS
    exact ⟨_, rfl, q [] a (Nat.le_refl _) fun z hz => by cases hz⟩
  | x :: xs, S, Q, hS, h, q => by
    obtain ⟨a, rfl⟩ := hS
    obtain ⟨ρ1, e1, b, e2, h1, h2⟩ := h x List.mem_cons_self a
    have ht : ∀ y ∈ xs, _ := fun y hy => h y (List.mem_cons_of_mem _ hy)
    cases hb : b.1 with
    | false =>
      obtain ⟨o, e, w⟩ := w_compS G R (Q := Q) h1 ht fun zs a hl hz => q zs a (Nat.le_trans hl (Nat.le_succ _)) hz
      refine ⟨o, ?_, w⟩
      simp [compL, e1, e2, hb]
      exact e
    | true =>
      obtain ⟨y, e3, z, e4, hz, h3⟩ := h2 hb
      obtain ⟨o, e, w⟩ := w_compS G R (Q := fun p => Q (G z :: p.1, p.2)) h3 ht fun zs a hl hzs => q (z :: zs) a (Nat.succ_le_succ hl) fun v hv => by
        rcases List.mem_cons.mp hv with rfl | hv
        · exact hz
        · exact hzs v hv
      refine ⟨(G z :: o.1, o.2), ?_, w⟩
      simp [compL, e1, e2, hb, e3]
      rw [e4]
      simp [e]
end DL
namespace DL
open PySem PySem.Spec L2
open PyProof.Rows hiding St
/-! ### fractions as rational numbers -/
noncomputable def b_added : Sv := sRet (eCP f_fraction (aCons (e2 addD (e2 mulI (e2 ixD (eVar 0) (eC (.int 0))) (e2 ixD (eVar 1) (eC (.int 1)))) (e2 mulI (e2 ixD (eVar 1) (eC (.int 0))) (e2 ixD (eVar 0) (eC (.int 1))))) (aCons (e2 mulI (e2 ixD (eVar 0) (eC (.int 1))) (e2 ixD (eVar 1) (eC (.int 1)))) (aNil))))
noncomputable def f_added := runP 2 2 b_added
noncomputable def b_sum_of : Sv := sSeq (sAsg (eTup (aCons (eC (.int 0)) (aCons (eC (.int 1)) (aNil)))) (gN 1)) (sSeq (sFor [2] (iP (eVar 0)) (gN 2) (sAsg (eCP f_added (aCons (eVar 1) (aCons (eVar 2) (aNil)))) (gN 1))) (sRet (eVar 1)))
noncomputable def f_sum_of := runP 1 3 b_sum_of
noncomputable def b_times : Sv := sRet (eCP f_fraction (aCons (e2 mulI (e2 ixD (eVar 0) (eC (.int 0))) (e2 ixD (eVar 1) (eC (.int 0)))) (aCons (e2 mulI (e2 ixD (eVar 0) (eC (.int 1))) (e2 ixD (eVar 1) (eC (.int 1)))) (aNil))))
noncomputable def f_times := runP 2 2 b_times
noncomputable def b_taken_from : Sv := sRet (eCP f_added (aCons (eVar 0) (aCons (eTup (aCons (eNeg (e2 ixD (eVar 1) (eC (.int 0)))) (aCons (e2 ixD (eVar 1) (eC (.int 1))) (aNil)))) (aNil))))
noncomputable def f_taken_from := runP 2 2 b_taken_from
noncomputable def b_is_less : Sv := sRet (e2 ltD (e2 mulI (e2 ixD (eVar 0) (eC (.int 0))) (e2 ixD (eVar 1) (eC (.int 1)))) (e2 mulI (e2 ixD (eVar 1) (eC (.int 0))) (e2 ixD (eVar 0) (eC (.int 1)))))
noncomputable def f_is_less := runP 2 2 b_is_less
def rp (r : Rat) : Int × Int := (r.num, (r.den : Int))
abbrev fr (r : Rat) : PyData := pr (rp r)
theorem rp_inj {r s : Rat} (h : rp r = rp s) : r = s := Rat.ext (congrArg Prod.fst h) (by have := congrArg Prod.snd h; simp only [rp] at this; omega)
theorem enc_fr : Enc 1 fr := enc_pr.comap rp fun _ _ => rp_inj
theorem frac_rat {u l : Int} (h : l ≠ 0) : frac u l = rp (Rat.divInt u l) := by
  have hg : 0 < Int.gcd u l := Int.gcd_pos_iff.mpr (.inr h)
  have d1 : (Int.gcd u l : Int) ∣ u := Int.gcd_dvd_left ..
  have d2 : (Int.gcd u l : Int) ∣ l := Int.gcd_dvd_right ..
  unfold frac rp
  rw [Rat.num_divInt, Rat.den_divInt, if_neg h, Int.gcd_comm l u]
  generalize Int.gcd u l = g at *
  obtain ⟨a, rfl⟩ := d1
  obtain ⟨b, rfl⟩ := d2
  have hg' : (g : Int) ≠ 0 := by omega
  have nb : ((g : Int) * b).natAbs = g * b.natAbs := by rw [Int.natAbs_mul]; rfl
  rw [nb, Nat.mul_div_cancel_left _ hg]
  by_cases hp : 0 < (g : Int) * b
  · have hb : 0 < b := by
      rcases Int.lt_trichotomy b 0 with q | q | q
      · have := Int.mul_neg_of_pos_of_neg (a := (g : Int)) (b := b) (by omega) q
        omega
      · subst q; simp at hp
      · exact q
    rw [if_pos hp, Int.sign_eq_one_of_pos hp, Int.one_mul]
    show (((g : Int) * a).fdiv g, ((g : Int) * b).fdiv g) = _
    rw [Int.fdiv_eq_ediv_of_dvd ⟨a, rfl⟩, Int.fdiv_eq_ediv_of_dvd ⟨b, rfl⟩, Int.mul_ediv_cancel_left _ hg', Int.mul_ediv_cancel_left _ hg']
    simp; omega
  · have hn : (g : Int) * b < 0 := by omega
    have hb : b < 0 := by
      rcases Int.lt_trichotomy b 0 with q | q | q
      · exact q
      · subst q; simp at hn
      · have := Int.mul_pos (a := (g : Int)) (b := b) (by omega) q
        omega
    rw [if_neg hp, Int.sign_eq_neg_one_of_neg hn]
    have e1 : (g : Int) * a = -(g : Int) * -a := by rw [Int.neg_mul_neg]
    have e2 : (g : Int) * b = -(g : Int) * -b := by rw [Int.neg_mul_neg]
    have e3 : (-1 : Int) * ((g : Int) * a) = (g : Int) * -a := by rw [Int.mul_neg, Int.neg_one_mul]
    rw [e3, Int.mul_ediv_cancel_left _ hg', e1, e2]
    show ((-(g : Int) * -a).fdiv (-(g : Int)), (-(g : Int) * -b).fdiv (-(g : Int))) = _
    rw [Int.fdiv_eq_ediv_of_dvd ⟨-a, rfl⟩, Int.fdiv_eq_ediv_of_dvd ⟨-b, rfl⟩, Int.mul_ediv_cancel_left _ (by omega), Int.mul_ediv_cancel_left _ (by omega)]
    simp; omega
theorem fraction_fr {u l : Int} (h : l ≠ 0) (hs : l.natAbs < 340282366920938463463374607431768211456) : f_fraction [.int u, .int l] = some (fr (Rat.divInt u l)) := by
  rw [fraction_ok (.inl h) (Nat.lt_of_le_of_lt (Nat.gcd_le_right _ (by omega)) hs), frac_rat h]
theorem fr_def {r : Rat} : fr r = .tuple [.int r.num, .int (r.den : Int)] := rfl
theorem den_pos {r : Rat} : 0 < r.den := Nat.pos_of_ne_zero r.den_nz
theorem den_mul {r s : Rat} : ((r.den : Int) * (s.den : Int)) ≠ 0 := by
  have := Nat.mul_pos (den_pos (r := r)) (den_pos (r := s))
  have e : ((r.den * s.den : Nat) : Int) = (r.den : Int) * (s.den : Int) := Int.natCast_mul ..
  omega
theorem divInt_add' {r s : Rat} : Rat.divInt (r.num * (s.den : Int) + s.num * (r.den : Int)) ((r.den : Int) * (s.den : Int)) = r + s := by
  have h1 : (r.den : Int) ≠ 0 := by have := den_pos (r := r); omega
  have h2 : (s.den : Int) ≠ 0 := by have := den_pos (r := s); omega
  rw [← Rat.divInt_add_divInt _ _ h1 h2, Rat.num_divInt_den, Rat.num_divInt_den]
theorem divInt_mul' {r s : Rat} : Rat.divInt (r.num * s.num) ((r.den : Int) * (s.den : Int)) = r * s := by
  rw [← Rat.divInt_mul_divInt, Rat.num_divInt_den, Rat.num_divInt_den]
theorem neg_fr {r : Rat} : fr (-r) = .tuple [.int (-r.num), .int (r.den : Int)] := by
  have h : (-r).num = -r.num ∧ (-r).den = r.den := ⟨rfl, rfl⟩
  unfold fr pr rp
  rw [h.1, h.2]
theorem den_lt {r s : Rat} {b : Nat} (h : r.den * s.den < b) : r.den < b ∧ s.den < b := by
  have := den_pos (r := r)
  have := den_pos (r := s)
  exact ⟨Nat.lt_of_le_of_lt (Nat.le_mul_of_pos_right _ (by omega)) h, Nat.lt_of_le_of_lt (Nat.le_mul_of_pos_left _ (by omega)) h⟩
theorem natAbs_den {r s : Rat} : ((r.den : Int) * (s.den : Int)).natAbs = r.den * s.den := by rw [Int.natAbs_mul]; rfl
theorem den_big {r s : Rat} (h1 : r.den < 18446744073709551616) (h2 : s.den < 18446744073709551616) : r.den * s.den < 340282366920938463463374607431768211456 := Nat.lt_of_lt_of_eq (Nat.mul_lt_mul'' h1 h2) (by decide)
theorem added_frW {r s : Rat} (h1 : r.den < 18446744073709551616) (h2 : s.den < 18446744073709551616) : f_added [fr r, fr s] = some (fr (r + s)) := by
  suffices H : W (f_added [fr r, fr s]) fun q => q = fr (r + s) from W_out H
  unfold f_added b_added
  rw [w_runP]
  simp [fr_def, atI_i]
  refine ⟨.inr (by omega), .inr (by omega), .inl (by omega), ?_⟩
  rw [fraction_fr den_mul (by rw [natAbs_den]; exact den_big h1 h2), divInt_add']
  simp [fr_def]
theorem added_fr {r s : Rat} (h : r.den * s.den < 18446744073709551616) : f_added [fr r, fr s] = some (fr (r + s)) := added_frW (den_lt h).1 (den_lt h).2
theorem times_frW {r s : Rat} (h1 : r.den < 18446744073709551616) (h2 : s.den < 18446744073709551616) (hn : r.num.natAbs < 2 ^ 64 ∨ s.num.natAbs < 2 ^ 64) : f_times [fr r, fr s] = some (fr (r * s)) := by
  suffices H : W (f_times [fr r, fr s]) fun q => q = fr (r * s) from W_out H
  unfold f_times b_times
  rw [w_runP]
  simp [fr_def, atI_i]
  refine ⟨hn, .inl (by omega), ?_⟩
  rw [fraction_fr den_mul (by rw [natAbs_den]; exact den_big h1 h2), divInt_mul']
  simp [fr_def]
theorem times_fr {r s : Rat} (h : r.den * s.den < 18446744073709551616) (hn : r.num.natAbs < 2 ^ 64 ∨ s.num.natAbs < 2 ^ 64) : f_times [fr r, fr s] = some (fr (r * s)) := times_frW (den_lt h).1 (den_lt h).2 hn
theorem taken_frW {r s : Rat} (h1 : r.den < 18446744073709551616) (h2 : s.den < 18446744073709551616) : f_taken_from [fr r, fr s] = some (fr (r - s)) := by
  suffices H : W (f_taken_from [fr r, fr s]) fun q => q = fr (r - s) from W_out H
  unfold f_taken_from b_taken_from
  rw [w_runP]
  have e := added_frW (r := r) (s := -s) h1 h2
  rw [neg_fr, ← Rat.sub_eq_add_neg] at e
  simp [atI_i, e, fr_def]
  simp [← fr_def, e]
theorem taken_fr {r s : Rat} (h : r.den * s.den < 18446744073709551616) : f_taken_from [fr r, fr s] = some (fr (r - s)) := taken_frW (den_lt h).1 (den_lt h).2
theorem less_fr {r s : Rat} (h1 : r.den < 18446744073709551616) (h2 : s.den < 18446744073709551616) : f_is_less [fr r, fr s] = some (.bool (decide (r < s))) := by
  suffices H : W (f_is_less [fr r, fr s]) fun q => q = .bool (decide (r < s)) from W_out H
  unfold f_is_less b_is_less
  rw [w_runP]
  simp [fr_def, atI_i]
  refine ⟨.inr (by omega), .inr (by omega), ?_⟩
  rw [Rat.lt_iff]
/-! what the lower ones divide -/
theorem den_dvd {r : Rat} {D : Nat} : r.den ∣ D ↔ ∃ z : Int, r * (D : Rat) = (z : Rat) := by
  have e : ∀ z : Int, (z : Rat) = Rat.divInt z 1 := fun z => by
    rw [Rat.divInt_eq_div]; simp [Rat.div_def]
    grind
  have eD : (D : Rat) = Rat.divInt (D : Int) 1 := by rw [← e]; rfl
  have hd : (r.den : Int) * 1 ≠ 0 := by have := den_pos (r := r); omega
  have key : ∀ z : Int, r * (D : Rat) = (z : Rat) ↔ r.num * D = z * r.den := fun z => by
    rw [eD, e z]
    conv => lhs; lhs; rw [← Rat.num_divInt_den r]
    rw [Rat.divInt_mul_divInt, Rat.divInt_eq_divInt_iff hd (by decide)]
    simp
  constructor
  · rintro ⟨k, rfl⟩
    refine ⟨r.num * k, (key _).mpr ?_⟩
    rw [Int.natCast_mul]
    grind
  · rintro ⟨z, hz⟩
    have hz := (key z).mp hz
    have : (r.den : Int) ∣ r.num * D := ⟨z, by rw [hz, Int.mul_comm]⟩
    have : r.den ∣ r.num.natAbs * D := by
      have := Int.natAbs_dvd_natAbs.mpr this
      rw [Int.natAbs_mul] at this
      exact this
    exact r.reduced.symm.dvd_of_dvd_mul_left this
theorem dvd_add {r s : Rat} {D : Nat} (h1 : r.den ∣ D) (h2 : s.den ∣ D) : (r + s).den ∣ D := by
  obtain ⟨a, ha⟩ := den_dvd.mp h1
  obtain ⟨b, hb⟩ := den_dvd.mp h2
  exact den_dvd.mpr ⟨a + b, by rw [Rat.add_mul, ha, hb, Rat.intCast_add]⟩
theorem dvd_sub {r s : Rat} {D : Nat} (h1 : r.den ∣ D) (h2 : s.den ∣ D) : (r - s).den ∣ D := by
  rw [Rat.sub_eq_add_neg]
  exact dvd_add h1 (by rw [show (-s).den = s.den from rfl]; exact h2)
theorem dvd_mul {r s : Rat} {D E : Nat} (h1 : r.den ∣ D) (h2 : s.den ∣ E) : (r * s).den ∣ D * E := by
  obtain ⟨a, ha⟩ := den_dvd.mp h1
  obtain ⟨b, hb⟩ := den_dvd.mp h2
  refine den_dvd.mpr ⟨a * b, ?_⟩
  rw [Rat.intCast_mul, ← ha, ← hb, Rat.natCast_mul]
  grind
theorem dvd_divInt {u l : Int} {D : Nat} (hl : l ≠ 0) (h : l.natAbs ∣ D) : (Rat.divInt u l).den ∣ D := by
  rw [Rat.den_divInt, if_neg hl]
  exact Nat.dvd_trans (Nat.div_dvd_of_dvd (Nat.gcd_dvd_left ..)) h
theorem dvd_le {r : Rat} {D : Nat} (h : r.den ∣ D) (hD : 0 < D) : r.den ≤ D := Nat.le_of_dvd hD h
theorem dvd_sum {rs : List Rat} {D : Nat} (h : ∀ r ∈ rs, r.den ∣ D) : rs.sum.den ∣ D := by
  induction rs with
  | nil => exact Nat.one_dvd _
  | cons r rs ih =>
    rw [List.sum_cons]
    exact dvd_add (h r List.mem_cons_self) (ih fun s hs => h s (List.mem_cons_of_mem _ hs))
theorem fr_zero : fr 0 = .tuple [.int 0, .int 1] := rfl
theorem sum_take {rs : List Rat} {k : Nat} (hk : k < rs.length) : (rs.take (k + 1)).sum = (rs.take k).sum + rs[k] := by
  rw [List.take_add_one, List.getElem?_eq_getElem hk, List.sum_append]
  simp [Rat.add_zero]
theorem sum_frW {rs : List Rat} {D : Nat} (h : ∀ r ∈ rs, r.den ∣ D) (h0 : 0 < D) (hD : D < 18446744073709551616) (hl : rs.length ≤ 1000000) {T : PyData} (hT : T = .tuple (rs.map fr) ∨ T = .list (rs.map fr)) : f_sum_of [T] = some (fr rs.sum) := by
  suffices H : W (f_sum_of [T]) fun q => q = fr rs.sum from W_out H
  unfold f_sum_of b_sum_of
  rw [w_runP]
  have hz : (sizeLine : Nat) = 16777216 := sizeLine_eq
  have core : W (forL (gN 2) (sFg [2] (sAsg (eCP f_added (aCons (eVar 1) (aCons (eVar 2) aNil))) (gN 1))) (rs.map fr) [some (.p T), some (.p (fr 0)), none] []) fun o => o = .nx [some (.p T), some (.p (fr rs.sum)), none] [] := by
    refine forL_ix (F := fr) (fun k ρ S => S = [] ∧ ρ = [some (.p T), some (.p (fr (rs.take k).sum)), none]) (fun k hk ρ S hi => ?_) (fun ρ S hi => ?_) ⟨rfl, rfl⟩
    · obtain ⟨rfl, rfl⟩ := hi
      have a1 : (rs.take k).sum.den ∣ D := dvd_sum fun r hr => h r (List.mem_of_mem_take hr)
      have a2 : (rs[k]).den ∣ D := h _ (List.getElem_mem hk)
      have e := added_frW (r := (rs.take k).sum) (s := rs[k]) (Nat.lt_of_le_of_lt (dvd_le a1 h0) hD) (Nat.lt_of_le_of_lt (dvd_le a2 h0) hD)
      rw [sum_take hk]
      simp [e]
    · obtain ⟨rfl, rfl⟩ := hi
      simp
  rcases hT with rfl | rfl
  · simp
    refine ⟨by omega, ?_⟩
    rw [← fr_zero]
    refine core.mono fun o ho => ?_
    subst ho
    simp
  · simp
    refine ⟨by omega, ?_⟩
    rw [← fr_zero]
    refine core.mono fun o ho => ?_
    subst ho
    simp
theorem sum_fr {rs : List Rat} {D : Nat} (h : ∀ r ∈ rs, r.den ∣ D) (h0 : 0 < D) (hD : D * D < 18446744073709551616) (hl : rs.length ≤ 1000000) {T : PyData} (hT : T = .tuple (rs.map fr) ∨ T = .list (rs.map fr)) : f_sum_of [T] = some (fr rs.sum) := sum_frW h h0 (Nat.lt_of_le_of_lt (Nat.le_mul_of_pos_left D h0) hD) hl hT
theorem num_sub_le {r s : Rat} : (r - s).num.natAbs ≤ r.num.natAbs * s.den + s.num.natAbs * r.den := by
  rw [Rat.sub_eq_add_neg, ← divInt_add', Rat.num_divInt]
  refine Nat.le_trans (Int.natAbs_ediv_le_natAbs _ _) ?_
  rw [Int.natAbs_mul]
  have h1 : ∀ z : Int, z.sign.natAbs ≤ 1 := fun z => by
    rcases Int.lt_trichotomy z 0 with q | q | q
    · rw [Int.sign_eq_neg_one_of_neg q]; decide
    · rw [q]; decide
    · rw [Int.sign_eq_one_of_pos q]; decide
  refine Nat.le_trans (Nat.mul_le_mul_right _ (h1 _)) ?_
  rw [Nat.one_mul]
  refine Nat.le_trans (Int.natAbs_add_le _ _) ?_
  rw [Int.natAbs_mul, Int.natAbs_mul]
  show _ + (-s.num).natAbs * _ ≤ _
  rw [Int.natAbs_neg]
  exact Nat.le_refl _
theorem num_div_le {u l : Int} : (Rat.divInt u l).num.natAbs ≤ u.natAbs := by
  rw [Rat.num_divInt]
  refine Nat.le_trans (Int.natAbs_ediv_le_natAbs _ _) ?_
  rw [Int.natAbs_mul]
  have h1 : ∀ z : Int, z.sign.natAbs ≤ 1 := fun z => by
    rcases Int.lt_trichotomy z 0 with q | q | q
    · rw [Int.sign_eq_neg_one_of_neg q]; decide
    · rw [q]; decide
    · rw [Int.sign_eq_one_of_pos q]; decide
  refine Nat.le_trans (Nat.mul_le_mul_right _ (h1 _)) ?_
  rw [Nat.one_mul]
  exact Nat.le_refl _
theorem den_div_le {u l : Int} (h : l ≠ 0) : (Rat.divInt u l).den ≤ l.natAbs := dvd_le (dvd_divInt h (Nat.dvd_refl _)) (by omega)
theorem ix0 {r : Rat} : ixD (fr r) (.int 0) = some (.int r.num) := rfl
theorem ix1 {r : Rat} : ixD (fr r) (.int 1) = some (.int (r.den : Int)) := rfl
theorem isND_fr {r : Rat} : isND (fr r) = false := rfl
theorem frI {a : Int} : (.tuple [.int a, .int 1] : PyData) = fr (a : Rat) := rfl
theorem fr_unit {n : Nat} : fr (Rat.divInt 1 ((n : Int) + 1)) = .tuple [.int 1, .int ((n : Int) + 1)] := by
  unfold fr pr rp
  have h : ((n : Int) + 1) ≠ 0 := by omega
  have h1 : (Rat.divInt 1 ((n : Int) + 1)).num = 1 := by
    rw [Rat.num_divInt, Int.sign_eq_one_of_pos (by omega)]
    simp
  have h2 : ((Rat.divInt 1 ((n : Int) + 1)).den : Int) = (n : Int) + 1 := by
    rw [Rat.den_divInt, if_neg h]
    simp
    omega
  rw [h1, h2]
/-- bounds -/
theorem le_sum : ∀ {rs : List Rat} {r : Rat}, (∀ s ∈ rs, 0 ≤ s) → r ∈ rs → r ≤ rs.sum
  | x :: xs, r, h, hr => by
    have hx := h x List.mem_cons_self
    have hs : 0 ≤ xs.sum := sum_nn fun s hs => h s (List.mem_cons_of_mem _ hs)
    rw [List.sum_cons]
    rcases List.mem_cons.mp hr with rfl | hr
    · grind
    · have := le_sum (fun s hs => h s (List.mem_cons_of_mem _ hs)) hr
      grind
where sum_nn : ∀ {rs : List Rat}, (∀ s ∈ rs, 0 ≤ s) → 0 ≤ rs.sum
  | [], _ => by simp
  | x :: xs, h => by
    have hx := h x List.mem_cons_self
    have := sum_nn (rs := xs) fun s hs => h s (List.mem_cons_of_mem _ hs)
    rw [List.sum_cons]
    grind
theorem num_le {r : Rat} {b : Nat} (h0 : 0 ≤ r) (h1 : r ≤ (b : Rat)) : r.num.natAbs ≤ b * r.den := by
  have hn : 0 ≤ r.num := Rat.num_nonneg.mpr h0
  rw [Rat.le_iff] at h1
  have e1 : ((b : Rat)).den = 1 := rfl
  have e2 : ((b : Rat)).num = b := rfl
  rw [e1, e2] at h1
  have : ((b * r.den : Nat) : Int) = (b : Int) * (r.den : Int) := Int.natCast_mul ..
  omega
theorem int_divInt (z : Int) : (z : Rat) = Rat.divInt z 1 := by
  rw [Rat.divInt_eq_div]; simp [Rat.div_def]
  grind
theorem nat_divInt (z : Nat) : (z : Rat) = Rat.divInt (z : Int) 1 := by rw [← int_divInt]; rfl
theorem one_divInt : (1 : Rat) = Rat.divInt 1 1 := int_divInt 1
end DL
namespace DL
open PySem PySem.Spec L2
open PyProof.Rows hiding St
/-! ### more encodings, ranges -/
section
variable {α β γ δ : Type} [DecidableEq α] [DecidableEq β] [DecidableEq γ] [DecidableEq δ] {n m k l : Nat} {e : α → PyData} {f : β → PyData} {g : γ → PyData} {h : δ → PyData}
theorem Enc.trip (he : Enc n e) (hf : Enc n f) (hg : Enc n g) : Enc (n + 1) (fun p : α × β × γ => PyData.tuple [e p.1, f p.2.1, g p.2.2]) :=
  ⟨fun p => by rw [fitN_t]; simp [he.fit, hf.fit, hg.fit], fun p q => by
    show PyData.eqvAll _ _ = _
    simp only [PyData.eqvAll]
    rw [he.eqv, hf.eqv, hg.eqv, Bool.and_true, ← Bool.decide_and, ← Bool.decide_and]
    exact decide_eq_decide.mpr ⟨fun z => Prod.ext z.1 (Prod.ext z.2.1 z.2.2), fun z => by rw [z]; exact ⟨rfl, rfl, rfl⟩⟩, fun p q => by
    show PySem.W.alikeAll _ _ = true
    simp only [PySem.W.alikeAll, he.alk, hf.alk, hg.alk, Bool.and_self], fun _ => rfl, .inl fun _ => rfl⟩
theorem Enc.quad (he : Enc n e) (hf : Enc n f) (hg : Enc n g) (hh : Enc n h) : Enc (n + 1) (fun p : α × β × γ × δ => PyData.tuple [e p.1, f p.2.1, g p.2.2.1, h p.2.2.2]) :=
  ⟨fun p => by rw [fitN_t]; simp [he.fit, hf.fit, hg.fit, hh.fit], fun p q => by
    show PyData.eqvAll _ _ = _
    simp only [PyData.eqvAll]
    rw [he.eqv, hf.eqv, hg.eqv, hh.eqv, Bool.and_true, ← Bool.decide_and, ← Bool.decide_and, ← Bool.decide_and]
    exact decide_eq_decide.mpr ⟨fun z => Prod.ext z.1 (Prod.ext z.2.1 (Prod.ext z.2.2.1 z.2.2.2)), fun z => by rw [z]; exact ⟨rfl, rfl, rfl, rfl⟩⟩, fun p q => by
    show PySem.W.alikeAll _ _ = true
    simp only [PySem.W.alikeAll, he.alk, hf.alk, hg.alk, hh.alk, Bool.and_self], fun _ => rfl, .inl fun _ => rfl⟩
theorem Enc.up (he : Enc n e) (hm : n ≤ m) : Enc m e := ⟨fun a => fitN_mono hm (he.fit a), he.eqv, he.alk, he.nn, he.knd⟩
/-- the least is the first of the sorted -/
theorem Enc.min_head (he : Enc n e) {x y : α} {xs ys : List α} (hs : sortE e (x :: xs) = y :: ys) : minE e x xs = y := by
  have hso := sortE_sorted (e := e) (xs := x :: xs)
  rw [hs] at hso
  refine he.min_eq (sortE_mem.mp (by rw [hs]; exact List.mem_cons_self)) fun z hz => ?_
  have hz : z ∈ y :: ys := by rw [← hs]; exact sortE_mem.mpr hz
  rcases List.mem_cons.mp hz with rfl | hz
  · exact leE_def.mpr (ltE_irrefl _)
  · exact (List.pairwise_cons.mp hso).1 z hz
theorem ddE_len : ∀ {xs : List α}, (ddE xs).length ≤ xs.length
  | [] => Nat.le_refl _
  | [x] => Nat.le_refl _
  | x :: y :: r => by
    have ih := ddE_len (xs := y :: r)
    unfold ddE
    dsimp only
    split
    · exact Nat.le_trans ih (Nat.le_succ _)
    · exact Nat.succ_le_succ ih
theorem uset_len {xs : List α} : (usetE e xs).length ≤ xs.length := Nat.le_trans ddE_len (by rw [sortE_len]; exact Nat.le_refl _)
end
theorem rng_lo {lo : Int} {n : Nat} : rngD lo n = (List.range n).map fun i : Nat => PyData.int (lo + (i : Int)) := rfl
theorem rng_one {n : Nat} : rngD 1 n = (List.range n).map fun i : Nat => PyData.int ((i + 1 : Nat) : Int) := by
  unfold rngD
  refine List.map_congr_left fun k hk => ?_
  simp; omega
theorem rng_from {i n : Nat} : rngD ((i : Int) + 1) ((n : Int) - (i + 1)).toNat = (List.range (n - (i + 1))).map fun t : Nat => PyData.int ((i + 1 + t : Nat) : Int) := by
  unfold rngD
  rw [show ((n : Int) - (i + 1)).toNat = n - (i + 1) by omega]
  exact List.map_congr_left fun t _ => by simp
theorem enc_boolD : Enc 0 PyData.bool := ⟨fun _ => rfl, fun a b => by cases a <;> cases b <;> rfl, fun _ _ => rfl, fun _ => rfl, .inr fun _ => rfl⟩
/-- [1 for ..] == [], != [] -/
theorem ones_e {α : Type} : ∀ xs : List α, xs.map (fun _ => PyData.int 1) = (xs.map fun _ => (1 : Int)).map PyData.int := fun xs => by rw [List.map_map]; rfl
theorem ones_i {α : Type} : ∀ xs : List α, (xs.map fun _ => (1 : Int)).isEmpty = xs.isEmpty := fun xs => by cases xs <;> rfl
theorem ones_eq {α : Type} {xs : List α} : eqD (.list (xs.map fun _ => PyData.int 1)) (.list []) = some (.bool xs.isEmpty) := by rw [ones_e, enc_int.l0, ones_i]
theorem ones_ne {α : Type} {xs : List α} : neD (.list (xs.map fun _ => PyData.int 1)) (.list []) = some (.bool (!xs.isEmpty)) := by rw [ones_e, enc_int.nl0, ones_i]
theorem ixN_nat {n k : Nat} (h : k < n) : ixN n (k : Int) = some k := by
  unfold ixN
  rw [if_pos (by omega)]
  simp [h]
theorem setD_nat {xs : List PyData} {k : Nat} {v : PyData} (h : k < xs.length) : setD (.list xs) (.int (k : Int)) v = some (.list (xs.set k v)) := by
  show (ixN xs.length (k : Int)).map _ = _
  rw [ixN_nat h]
  rfl
end DL
namespace DL
open PySem PySem.Spec L2
open PyProof.Rows hiding St
/-! ### d.get(k), d.get(k, x) -/
section
variable {X : Cx} {pins : List (Addr × Obj)} {σ : L2.St} {H : Hp} {s : Shared} {L : AdP}
theorem look_get1 {a : Addr} {y : V} {u : Value} {o : Option PyData} {A : Around} {E : Value → Shared → Prop} {Q : Value → Shared → Prop} (hu : A.units + 1 < cLine) (I : Inv X pins σ H s) (g : DLook H L a y o) (ry : RelV y u)
    (h : ∀ v w' s', Inv X pins σ H s' → RelV v w' → At H L v (o.getD .none) → Q w' s') : wpAny (model X.prog X.w) A (call (.builtin "dict.get") [.ref a, u]) Q E s := by
  cases g with
  | none g => exact d_get1 hu I g ry fun w' s' I' r => h _ w' s' I' r .non
  | some g r1 => exact d_get1 hu I g ry fun w' s' I' r => h _ w' s' I' r r1
  | emK e ey eb =>
    subst ey
    cases (show u = Value.ref _ from ry)
    obtain ⟨_, hd, vs, _, dd⟩ := dk_rd I.hok e
    exact call_meetsIn PySem.F.slot_dict_get dd.typeIs PySem.F.entry_dict_get (PySem.F.args_dict_get_2 _ _) (meetsH_dict_get (tupleKind (mixKind X.prog X.w)) a _ hd) ⟨tupleKind_room_in1 hu, _, [], key_of I.hok eb, dK_emptyH I e, h .non _ _ (I.tok _) rfl .non⟩
  | emT e ey =>
    subst ey
    obtain ⟨_, hd, xs, _, dd⟩ := dt_rd I.hok e
    exact call_meetsIn PySem.F.slot_dict_get dd.typeIs PySem.F.entry_dict_get (PySem.F.args_dict_get_2 _ _) (meets_dict_get (mixKind X.prog X.w) a (kV_is ry) hd) ⟨_, (dT_emptyO I e).mapOf, h .non _ _ (I.tok _) rfl .non⟩
theorem look_get2 {a : Addr} {y z : V} {u r : Value} {dz : PyData} {o : Option PyData} {A : Around} {E : Value → Shared → Prop} {Q : Value → Shared → Prop} (hu : A.units + 1 < cLine) (I : Inv X pins σ H s) (g : DLook H L a y o) (ry : RelV y u) (rz : RelV z r) (hz : At H L z dz)
    (h : ∀ v w' s', Inv X pins σ H s' → RelV v w' → At H L v (o.getD dz) → Q w' s') : wpAny (model X.prog X.w) A (call (.builtin "dict.get") [.ref a, u, r]) Q E s := by
  cases g with
  | none g => exact d_get2 hu I g ry rz fun w' s' I' r => h _ w' s' I' r hz
  | some g r1 => exact d_get2 hu I g ry rz fun w' s' I' r => h _ w' s' I' r r1
  | emK e ey eb =>
    subst ey
    cases (show u = Value.ref _ from ry)
    obtain ⟨_, hd, vs, _, dd⟩ := dk_rd I.hok e
    exact call_meetsIn PySem.F.slot_dict_get dd.typeIs PySem.F.entry_dict_get (PySem.F.args_dict_get_3 _ _ _) (meetsH_dict_get_default (tupleKind (mixKind X.prog X.w)) a _ hd r) ⟨tupleKind_room_in1 hu, _, [], key_of I.hok eb, dK_emptyH I e, h z _ _ (I.tok _) rz hz⟩
  | emT e ey =>
    subst ey
    obtain ⟨_, hd, xs, _, dd⟩ := dt_rd I.hok e
    exact call_meetsIn PySem.F.slot_dict_get dd.typeIs PySem.F.entry_dict_get (PySem.F.args_dict_get_3 _ _ _) (meets_dict_get_default (mixKind X.prog X.w) a (kV_is ry) hd r) ⟨_, (dT_emptyO I e).mapOf, h z _ _ (I.tok _) rz hz⟩
def tLG1 (td ty : TE) : TE := fun σ H Q => td σ H fun x H1 => ∃ a, x = .ref a ∧ IsD H1 a ∧ ty σ H1 fun y H2 => ∃ (L : AdP) (o : Option PyData), DLook H2 L a y o ∧ Gr H2 L Q (o.getD .none)
def tLG2 (td ty tx : TE) : TE := fun σ H Q => td σ H fun x H1 => ∃ a, x = .ref a ∧ IsD H1 a ∧ ty σ H1 fun y H2 => tx σ H2 fun z H3 => ∃ (L : AdP) (o : Option PyData) (dz : PyData), DLook H3 L a y o ∧ At H3 L z dz ∧ Gr H3 L Q (o.getD dz)
variable {o e f : Expr} {apos cpos : Pos} {td ty tx : TE}
theorem pe_lget1 (hu : X.A.units + 1 < cLine) (ho : PE X o td) (he : PE X e ty) (m : M1 X o "get" apos e cpos) : PE X (.Call (.Attribute o "get" apos) [e] [] cpos) (tLG1 td ty) := by
  refine ⟨fun pins s σ H Q I h => ?_⟩
  refine wpAny_Call_method m.base m.few m.line PySem.F.plainAttrs_dict PySem.F.slot_dict_get PySem.F.type_dict_get (thn (ho.run pins s σ H _ I h) fun u s1 ⟨x, H1, I1, rx, a, ex, d, q1⟩ => ?_)
  subst ex
  obtain rfl : u = Value.ref a := rx
  obtain ⟨t1, t2, _⟩ := isD_at I1 d
  refine ⟨t1, t2, ?_⟩
  rw [m.trees]
  refine Calls.callWith_builtin rfl (Calls.evalArgs_plain (Calls.spliced_cons (thn (he.run pins s1 σ H1 _ I1 q1) fun iv s2 ⟨y, H2, I2, ry, L, ov, g, q2⟩ => Calls.spliced_nil ?_)))
  exact look_get1 hu I2 g ry fun v w' s3 I3 rw' at' => ⟨v, H2, I3, rw', q2 v H2 (fun _ _ z => z) at'⟩
theorem pe_lget2 (hu : X.A.units + 1 < cLine) (ho : PE X o td) (he : PE X e ty) (hf : PE X f tx) (m : M2 X o "get" apos e f cpos) : PE X (.Call (.Attribute o "get" apos) [e, f] [] cpos) (tLG2 td ty tx) := by
  refine ⟨fun pins s σ H Q I h => ?_⟩
  refine wpAny_Call_method m.base m.few m.line PySem.F.plainAttrs_dict PySem.F.slot_dict_get PySem.F.type_dict_get (thn (ho.run pins s σ H _ I h) fun u s1 ⟨x, H1, I1, rx, a, ex, d, q1⟩ => ?_)
  subst ex
  obtain rfl : u = Value.ref a := rx
  obtain ⟨t1, t2, _⟩ := isD_at I1 d
  refine ⟨t1, t2, ?_⟩
  rw [m.trees]
  refine Calls.callWith_builtin rfl (Calls.evalArgs_plain (Calls.spliced_cons (thn (he.run pins s1 σ H1 _ I1 q1) fun iv s2 ⟨y, H2, I2, ry, q2⟩ =>
    Calls.spliced_cons (thn (hf.run pins s2 σ H2 _ I2 q2) fun fv s3 ⟨z, H3, I3, rz, L, ov, dz, g, hz, q3⟩ => Calls.spliced_nil ?_))))
  exact look_get2 hu I3 g ry rz hz fun v w' s4 I4 rw' at' => ⟨v, H3, I4, rw', q3 v H3 (fun _ _ z => z) at'⟩
end
section
variable {c : Cxt} {o a b : Expr} {fo fa fb : Ev} {apos cpos : Pos}
def getDD (m k dz : PyData) : Option PyData := match m with | .dict dd => if keyOk dd k = true then some ((getK dd k).getD dz) else none | _ => none
def isDD : PyData → Bool | .dict _ => true | _ => false
def eGet1 (fo fa : Ev) : Ev := fun ρ S => (fo ρ S).bind fun p => (vw p.2 p.1).bind fun m0 => if isDD m0 = true then (fa ρ p.2).bind fun q => (vw q.2 p.1).bind fun m => (vw q.2 q.1).bind fun k => (getDD m k .none).bind fun r => some (.p r, q.2) else none
def eGet2 (fo fa fb : Ev) : Ev := fun ρ S => (fo ρ S).bind fun p => (vw p.2 p.1).bind fun m0 => if isDD m0 = true then (fa ρ p.2).bind fun q => (fb ρ q.2).bind fun z => match z.1 with
  | .p dz => (vw z.2 p.1).bind fun m => (vw z.2 q.1).bind fun k => (getDD m k dz).bind fun r => some (.p r, z.2)
  | _ => none else none
theorem isDD_out {m : PyData} (h : isDD m = true) : ∃ dd, m = .dict dd := by cases m <;> first | exact ⟨_, rfl⟩ | cases h
theorem de_get1 (ho : DE c o fo) (ha : DE c a fa) (hu : ∀ X, InC c X → X.A.units + 1 < cLine) (hm : ∀ X, InC c X → M1 X o "get" apos a cpos) : DE c (.Call (.Attribute o "get" apos) [a] [] cpos) (eGet1 fo fa) := by
  obtain ⟨to, po, vo⟩ := ho
  obtain ⟨ta, pa, va⟩ := ha
  refine ⟨tLG1 to ta, fun X hX => pe_lget1 (hu X hX) (po X hX) (pa X hX) (hm X hX), fun Lf adr S σ H ρ d S' Q I e w => ?_⟩
  unfold eGet1 at e
  obtain ⟨⟨x, S1⟩, e1, e⟩ := Option.bind_eq_some_iff.mp e
  obtain ⟨m0, e2, e⟩ := Option.bind_eq_some_iff.mp e
  split at e
  · rename_i hdd
    obtain ⟨dd0, rfl⟩ := isDD_out hdd
    obtain ⟨⟨y, S2⟩, e4, e⟩ := Option.bind_eq_some_iff.mp e
    obtain ⟨m, e5, e⟩ := Option.bind_eq_some_iff.mp e
    obtain ⟨k, e6, e⟩ := Option.bind_eq_some_iff.mp e
    obtain ⟨r, e7, e⟩ := Option.bind_eq_some_iff.mp e
    cases e
    refine vo Lf adr S σ H ρ x S1 _ I e1 fun v adr1 H1 x1 s1 r1 => ?_
    obtain ⟨a1, rfl, hd⟩ := (vw_ok s1 r1 e2).dict_inv
    refine ⟨a1, rfl, hd.imp (fun ⟨kvs, h, _⟩ => ⟨kvs, h⟩) (fun ⟨kvs, h, _⟩ => ⟨kvs, h⟩), va Lf adr1 S1 σ H1 ρ y S2 _ (I.ext x1 s1) e4 fun u adr2 H2 x2 s2 r2 => ?_⟩
    unfold getDD at e7
    split at e7
    · rename_i dd
      split at e7
      · rename_i hk
        cases e7
        obtain ⟨a2, ea, hl⟩ := dlook (vw_ok s2 (r1.ext0 s1 x2) e5) (vw_ok s2 r2 e6) hk
        cases ea
        exact ⟨_, _, hl, wi_gr s2 (w.trans (x1.trans x2))⟩
      · cases e7
    · cases e7
  · cases e
theorem de_get2 (ho : DE c o fo) (ha : DE c a fa) (hb : DE c b fb) (hu : ∀ X, InC c X → X.A.units + 1 < cLine) (hm : ∀ X, InC c X → M2 X o "get" apos a b cpos) : DE c (.Call (.Attribute o "get" apos) [a, b] [] cpos) (eGet2 fo fa fb) := by
  obtain ⟨to, po, vo⟩ := ho
  obtain ⟨ta, pa, va⟩ := ha
  obtain ⟨tb, pb, vb⟩ := hb
  refine ⟨tLG2 to ta tb, fun X hX => pe_lget2 (hu X hX) (po X hX) (pa X hX) (pb X hX) (hm X hX), fun Lf adr S σ H ρ d S' Q I e w => ?_⟩
  unfold eGet2 at e
  obtain ⟨⟨x, S1⟩, e1, e⟩ := Option.bind_eq_some_iff.mp e
  obtain ⟨m0, e2, e⟩ := Option.bind_eq_some_iff.mp e
  split at e
  · rename_i hdd
    obtain ⟨dd0, rfl⟩ := isDD_out hdd
    obtain ⟨⟨y, S2⟩, e4, e⟩ := Option.bind_eq_some_iff.mp e
    obtain ⟨⟨z, S3⟩, e8, e⟩ := Option.bind_eq_some_iff.mp e
    split at e
    · rename_i dz hz
      simp only at hz
      subst hz
      obtain ⟨m, e5, e⟩ := Option.bind_eq_some_iff.mp e
      obtain ⟨k, e6, e⟩ := Option.bind_eq_some_iff.mp e
      obtain ⟨r, e7, e⟩ := Option.bind_eq_some_iff.mp e
      cases e
      refine vo Lf adr S σ H ρ x S1 _ I e1 fun v adr1 H1 x1 s1 r1 => ?_
      obtain ⟨a1, rfl, hd⟩ := (vw_ok s1 r1 e2).dict_inv
      refine ⟨a1, rfl, hd.imp (fun ⟨kvs, h, _⟩ => ⟨kvs, h⟩) (fun ⟨kvs, h, _⟩ => ⟨kvs, h⟩), va Lf adr1 S1 σ H1 ρ y S2 _ (I.ext x1 s1) e4 fun u adr2 H2 x2 s2 r2 => ?_⟩
      refine vb Lf adr2 S2 σ H2 ρ _ S3 _ ((I.ext x1 s1).ext x2 s2) e8 fun u3 adr3 H3 x3 s3 r3 => ?_
      unfold getDD at e7
      split at e7
      · rename_i dd
        split at e7
        · rename_i hk
          cases e7
          obtain ⟨a2, ea, hl⟩ := dlook (vw_ok s3 ((r1.ext0 s1 x2).ext0 s2 x3) e5) (vw_ok s3 (r2.ext0 s2 x3) e6) hk
          cases ea
          exact ⟨_, _, _, hl, r3, wi_gr s3 (w.trans ((x1.trans x2).trans x3))⟩
        · cases e7
      · cases e7
    · cases e
  · cases e
theorem getm1 (ho : DE c o fo) (ha : DE c a fa) (hm : ∀ X, InC c X → M1 X o "get" apos a cpos := by exact fun _ _ => ⟨rfl, rfl, rfl, rfl⟩) : DE c (.Call (.Attribute o "get" apos) [a] [] cpos) (eGet1 fo fa) := de_get1 ho ha (fun X hX => by have := hX.un; omega) hm
theorem getm2 (ho : DE c o fo) (ha : DE c a fa) (hb : DE c b fb) (hm : ∀ X, InC c X → M2 X o "get" apos a b cpos := by exact fun _ _ => ⟨rfl, rfl, rfl, rfl⟩) : DE c (.Call (.Attribute o "get" apos) [a, b] [] cpos) (eGet2 fo fa fb) := de_get2 ho ha hb (fun X hX => by have := hX.un; omega) hm
/-! walking -/
variable {ρ : Env'} {S : Sto} {Q : D × Sto → Prop}
@[simp ↓] theorem w_get1 : W (eGet1 fo fa ρ S) Q = W (fo ρ S) fun p => W (vw p.2 p.1) fun m0 => isDD m0 = true ∧ W (fa ρ p.2) fun q => W (vw q.2 p.1) fun m => W (vw q.2 q.1) fun k => W (getDD m k .none) fun r => Q (.p r, q.2) := by
  unfold eGet1
  simp only [W_bind, W_some, W_ite, W_none]
  congr; funext p; congr; funext m
  cases isDD m <;> simp
@[simp ↓] theorem w_get2 : W (eGet2 fo fa fb ρ S) Q = W (fo ρ S) fun p => W (vw p.2 p.1) fun m0 => isDD m0 = true ∧ W (fa ρ p.2) fun q => W (fb ρ q.2) fun z => match z.1 with
  | .p dz => W (vw z.2 p.1) fun m => W (vw z.2 q.1) fun k => W (getDD m k dz) fun r => Q (.p r, z.2)
  | _ => False := by
  unfold eGet2
  simp only [W_bind, W_some, W_ite, W_none]
  congr; funext p; congr; funext m
  cases isDD m
  · simp
  · simp only [if_true, true_and]
    congr; funext q; congr; funext z
    cases z.1 <;> simp [W_bind, W_some, W_none]
@[simp] theorem isDD_d {dd : List (PyData × PyData)} : isDD (.dict dd) = true := rfl
end
end DL
namespace DL
open PySem PySem.Spec L2
open PyProof.Rows hiding St
/-! ### x.pop(), as a statement -/
def popD (m : PyData) : Option PyData := match m with | .list ds => if ds = [] then none else some (.list ds.dropLast) | _ => none
def rPop0 : V → List V → Hp → VK → Prop := fun x vs H Q => ∃ (L : AdP) (p : Addr) (m m' : PyData), x = .ref p ∧ vs = [] ∧ L p ∧ Ob H L p m ∧ popD m = some m' ∧ ∀ y o, Ob (L2.upd H p o) L p m' → Q y (L2.upd H p o)
theorem AtL.dropLast {H : Hp} {L : AdP} : ∀ {xs : List V} {ds : List PyData}, AtL H L xs ds → AtL H L xs.dropLast ds.dropLast
  | _, _, .nil => .nil
  | _, _, .cons a .nil => .nil
  | _, _, .cons a (.cons b r) => .cons a (AtL.dropLast (.cons b r))
theorem hm_pop {X : Cx} : MtR X "list.pop" rPop0 := by
  intro pins s σ H x vs v us Q I rx rv h
  obtain ⟨L, p, m, m', rfl, rfl, hL, ob, e, q⟩ := h
  unfold popD at e
  split at e
  · rename_i ds
    split at e
    · cases e
    · rename_i hne
      cases e
      obtain ⟨xs, hx, r⟩ := ob
      have hl := r.length
      have hpos : 0 < xs.length := by
        rw [hl]
        exact List.length_pos_iff.mpr hne
      exact mt_pop pins s σ H _ _ v us Q I rx rv ⟨p, xs, xs[xs.length - 1], rfl, rfl, hx, by rw [List.getElem?_eq_getElem], q _ _ ⟨_, upd_same, (r.dropLast).tr (tr_upd hL)⟩⟩
  · cases e
section
variable {c : Cxt} {e : En} {pos : Pos}
def sPop (i : Nat) : Sv := fun ρ S => match ρ[i]? with
  | some (some (.o m)) => (popD m).bind fun m' => some (.nx (ρ.set i (some (.o m'))) S)
  | some (some (.c k)) => match S[k]? with
    | some (some (.d m)) => (popD m).bind fun m' => some (.nx ρ (S.set k (some (.d m'))))
    | _ => none
  | _ => none
theorem pop_list {m m' : PyData} (h : popD m = some m') : ∃ ds, m = .list ds := by cases m <;> first | exact ⟨_, rfl⟩ | cases h
theorem sv_pop {i : Nat} : SvOk c (tDrop (tBM0 c.K "list" rPop0 (tVar i))) (sPop i) := fun e adr S σ H ρ o D I h w => by
  unfold sPop at h
  split at h
  · rename_i m hi
    obtain ⟨m', e3, e4⟩ := Option.bind_eq_some_iff.mp h
    cases e4
    obtain ⟨v, h1, a, rfl, l, ob⟩ := I.eok.slot i _ hi
    obtain ⟨ds, rfl⟩ := pop_list e3
    have ob0 := ob
    obtain ⟨xs, hx, _⟩ := ob0
    refine ⟨_, h1, .inl ⟨rfl, _, .of hx⟩, ?_⟩
    exact ⟨_, a, _, m', rfl, rfl, .inl l, I.own_at hi h1, e3, fun y o' ob' => w adr _ _ (I.upd hi h1 ob')⟩
  · rename_i k hi
    split at h
    · rename_i m hk
      obtain ⟨m', e3, e4⟩ := Option.bind_eq_some_iff.mp h
      cases e4
      obtain ⟨v, h1, rfl, hkl⟩ := I.eok.slot i _ hi
      obtain ⟨ds, rfl⟩ := pop_list e3
      obtain ⟨xs, hx, _⟩ := I.eok.sto.ob k _ hk
      refine ⟨_, h1, .inl ⟨rfl, _, .of hx⟩, ?_⟩
      exact ⟨Lvv (LfN e σ ρ) adr S, adr k, .list ds, m', rfl, rfl, .inr ⟨k, _, hk, rfl⟩, I.eok.sto.ob k _ hk, e3, fun y o' ob' => w adr _ _ (I.updC hk ob')⟩
    · cases h
  · cases h
theorem ds_pop {i : Nat} {x : Str} {p apos cpos : Pos} (hN : c.N[i]? = some x) (hv : Vis c.sc x) (hd : (x == ("__debug__" : Str)) = false) (hcd : (x == ("__classdict__" : Str)) = false)
    (hbase : ∀ X, InC c X → attributeBase (.Name x p) "pop" X.env (eval (.Name x p) X.env) = eval (.Name x p) X.env)
    (hline : (apos.endLine == cpos.line) = true) (hs : ∀ X, InC c X → swapsWith (.Call (.Attribute (.Name x p) "pop" apos) [] [] cpos) none pos.line X.env = pure false) :
    DS c (.Expr (.Call (.Attribute (.Name x p) "pop" apos) [] [] cpos) pos) (sPop i) :=
  ⟨_, fun X hX => ps_expr (by
    have h := pe_bm0 (cpos := cpos) (apos := apos) PySem.F.plainAttrs_list PySem.F.slot_list_pop PySem.F.type_list_pop (hm_pop (X := X)) (pe_var (pos := p) (i := i) (by rw [hX.N]; exact hN) (by rw [hX.sc]; exact hv) hd hcd) (hbase X hX) hline
    rw [hX.K] at h
    exact h) (hs X hX), sv_pop⟩
theorem popm (i : Nat) {x : Str} {p apos cpos : Pos} (hN : c.N[i]? = some x := by rfl) (hv : Vis c.sc x := by first | exact Or.inl rfl | exact Or.inr (Or.inl rfl) | exact Or.inr (Or.inr rfl)) (hd : (x == ("__debug__" : Str)) = false := by decide) (hcd : (x == ("__classdict__" : Str)) = false := by decide)
    (hbase : ∀ X, InC c X → attributeBase (.Name x p) "pop" X.env (eval (.Name x p) X.env) = eval (.Name x p) X.env := by exact fun _ _ => rfl)
    (hline : (apos.endLine == cpos.line) = true := by rfl) (hs : ∀ X, InC c X → swapsWith (.Call (.Attribute (.Name x p) "pop" apos) [] [] cpos) none pos.line X.env = pure false := by exact fun _ _ => rfl) :
    DS c (.Expr (.Call (.Attribute (.Name x p) "pop" apos) [] [] cpos) pos) (sPop i) := ds_pop hN hv hd hcd hbase hline hs
@[simp ↓] theorem w_pop {ρ : Env'} {S : Sto} {Q : Out → Prop} {i : Nat} : W (sPop i ρ S) Q = (match ρ[i]? with
  | some (some (.o m)) => W (popD m) fun m' => Q (.nx (ρ.set i (some (.o m'))) S)
  | some (some (.c k)) => (match S[k]? with | some (some (.d m)) => W (popD m) fun m' => Q (.nx ρ (S.set k (some (.d m')))) | _ => False)
  | _ => False) := by
  unfold sPop
  split
  · simp only [W_bind, W_some]
  · split
    · simp only [W_bind, W_some]
    · exact W_none
  · exact W_none
end
end DL
namespace DL
open PySem PySem.Spec L2
open PyProof.Rows hiding St
/-! ### the law's sameness on any data -/
open Classical in
noncomputable def eqB (a b : PyData) : Bool := if a = b then true else false
theorem eqB_iff {a b : PyData} : eqB a b = true ↔ a = b := by
  unfold eqB
  split <;> simp [*]
theorem eqB_eq {a b : PyData} {k : Bool} (h : k = true ↔ a = b) : eqB a b = k := by
  rw [Bool.eq_iff_iff, eqB_iff, h]
theorem eqB_ne {a b : PyData} (h : a ≠ b) : eqB a b = false := eqB_eq (iff_of_false Bool.false_ne_true h)
@[simp] theorem eqB_self {a : PyData} : eqB a a = true := eqB_iff.mpr rfl
/-- data without a dict, down to the depth -/
def okA : Nat → PyData → Bool
  | 0, _ => true
  | _ + 1, .dict _ => false
  | n + 1, .tuple xs => xs.all (okA n)
  | _ + 1, _ => true
theorem eqB_tup {xs ys : List PyData} (h : xs.length = ys.length) : eqB (.tuple xs) (.tuple ys) = ((List.range ys.length).filter fun k => !eqB (xs.getD k .none) (ys.getD k .none)).isEmpty := by
  refine eqB_eq ?_
  rw [List.isEmpty_iff, List.filter_eq_nil_iff]
  constructor
  · intro q
    congr 1
    refine List.ext_getElem h fun k h1 h2 => ?_
    have := q k (by simp; omega)
    rw [Bool.not_eq_true', Bool.not_eq_false, eqB_iff] at this
    simpa [h1, h2] using this
  · intro e
    injection e with e
    subst e
    intro k _
    simp
theorem alike_any : ∀ {n : Nat} {due told : PyData}, okS n due = true → okA n told = true → f__law_alike n [told, due] = some (.bool (eqB told due))
  | 0, d, _, h, _ => by cases h
  | n + 1, .tuple ys, told, h, h2 => by
    suffices H : W (f__law_alike (n + 1) [told, .tuple ys]) fun q => q = .bool (eqB told (.tuple ys)) from W_out H
    have h : (decide (ys.length ≤ 100000) && ys.all (okS n)) = true := h
    rw [Bool.and_eq_true, List.all_eq_true, decide_eq_true_eq] at h
    show W (runP 2 3 (b__law_alike (f__law_alike n)) _) _
    unfold b__law_alike
    rw [w_runP]
    have hz : (sizeLine : Nat) = 16777216 := sizeLine_eq
    cases told with
    | tuple xs =>
      have h2 : xs.all (okA n) = true := h2
      rw [List.all_eq_true] at h2
      by_cases hl : xs.length = ys.length
      · simp [hl]
        refine ⟨by omega, ?_⟩
        rw [rng_0]
        refine w_compL (fun k => !eqB (xs.getD k .none) (ys.getD k .none)) (fun k : Nat => .int k) rfl (fun k hk => ?_) ?_
        · simp at hk
          have k1 : k < xs.length := by omega
          have e1 := alike_any (n := n) (due := ys[k]) (told := xs[k]) (h.2 _ (List.getElem_mem hk)) (h2 _ (List.getElem_mem k1))
          simp [atI_pos, hk, k1, e1]
        · rw [eqB_tup hl]
          generalize ((List.range ys.length).filter fun k => !eqB (xs.getD k .none) (ys.getD k .none)) = F
          simp
      · have : eqB (.tuple xs) (.tuple ys) = false := eqB_ne fun e => hl (by injection e with e; rw [e])
        rw [this]
        simp [hl]
        omega
    | dict _ => cases h2
    | _ => rw [eqB_ne (by intro e; cases e)]; simp
  | n + 1, .list _, _, h, _ => by cases h
  | n + 1, .dict _, _, h, _ => by cases h
  | n + 1, .none, told, _, h2 => by
    suffices H : W (f__law_alike (n + 1) [told, .none]) fun q => q = .bool (eqB told .none) from W_out H
    show W (runP 2 3 (b__law_alike (f__law_alike n)) _) _
    unfold b__law_alike
    rw [w_runP]
    cases told with
    | none => simp
    | dict _ => cases h2
    | _ => rw [eqB_ne (by intro e; cases e)]; simp
  | n + 1, .bool b, told, _, h2 => by
    suffices H : W (f__law_alike (n + 1) [told, .bool b]) fun q => q = .bool (eqB told (.bool b)) from W_out H
    show W (runP 2 3 (b__law_alike (f__law_alike n)) _) _
    unfold b__law_alike
    rw [w_runP]
    cases told with
    | bool c =>
      rw [show eqB (.bool c) (.bool b) = (c == b) from eqB_eq (by simp)]
      simp
    | dict _ => cases h2
    | _ => rw [eqB_ne (by intro e; cases e)]; simp
  | n + 1, .int b, told, _, h2 => by
    suffices H : W (f__law_alike (n + 1) [told, .int b]) fun q => q = .bool (eqB told (.int b)) from W_out H
    show W (runP 2 3 (b__law_alike (f__law_alike n)) _) _
    unfold b__law_alike
    rw [w_runP]
    cases told with
    | int c =>
      rw [show eqB (.int c) (.int b) = decide (c = b) from eqB_eq (by simp)]
      simp
    | dict _ => cases h2
    | _ => rw [eqB_ne (by intro e; cases e)]; simp
  | n + 1, .str b, told, _, h2 => by
    suffices H : W (f__law_alike (n + 1) [told, .str b]) fun q => q = .bool (eqB told (.str b)) from W_out H
    show W (runP 2 3 (b__law_alike (f__law_alike n)) _) _
    unfold b__law_alike
    rw [w_runP]
    cases told with
    | str c =>
      rw [show eqB (.str c) (.str b) = (c == b) from eqB_eq (by simp)]
      simp
    | dict _ => cases h2
    | _ => rw [eqB_ne (by intro e; cases e)]; simp
/-! loops and comprehensions over data as it is -/
theorem forL_ixD {g : Gv} {b : Sv} {Q : Out → Prop} {xs : List PyData} {ρ : Env'} {S : Sto} (I : Nat → Env' → Sto → Prop)
    (h : ∀ k (hk : k < xs.length), ∀ ρ S, I k ρ S → W (g xs[k] ρ) fun ρ1 => W (b ρ1 S) fun o => match o with | .nx ρ' S' => I (k + 1) ρ' S' | .ct ρ' S' => I (k + 1) ρ' S' | .bk ρ' S' => Q (.nx ρ' S') | .rt d S' => Q (.rt d S'))
    (hn : ∀ ρ S, I xs.length ρ S → Q (.nx ρ S)) (h0 : I 0 ρ S) : W (forL g b xs ρ S) Q := by
  have := forL_ix (F := id) (g := g) (b := b) (Q := Q) (xs := xs) (ρ := ρ) (S := S) I h hn h0
  rwa [List.map_id] at this
theorem w_compAD {g : Gv} {f : Ev} {ρ : Env'} {S : Sto} {Q : List PyData × Sto → Prop} (r : PyData → PyData) {xs : List PyData} (h : ∀ x ∈ xs, W (g x ρ) fun ρ1 => W (f ρ1 S) fun y => y = (.p (r x), S))
    (q : Q (xs.map r, S)) : W (compL g tYes f ρ xs S) Q := by
  have := w_compA (F := id) (g := g) (f := f) (ρ := ρ) (S := S) (Q := Q) r h q
  rwa [List.map_id] at this
theorem w_compLD {g : Gv} {t : Tv} {f : Ev} {ρ : Env'} {S : Sto} {Q : List PyData × Sto → Prop} (p : PyData → Bool) (r : PyData → PyData) {xs ys : List PyData} (e : xs.filter p = ys) (h : ∀ x ∈ xs, W (g x ρ) fun ρ1 => W (t ρ1 S) fun b => b = (p x, S) ∧ (p x = true → W (f ρ1 S) fun y => y = (.p (r x), S)))
    (q : Q (ys.map r, S)) : W (compL g t f ρ xs S) Q := by
  have := w_compL (F := id) (g := g) (t := t) (f := f) (ρ := ρ) (S := S) (Q := Q) p r e h q
  rwa [List.map_id] at this
/-! slices -/
section
variable {α : Type} {xs : List α} {x : α} {k : Nat}
theorem cut_hi : cut xs none (some (k : Int)) = xs.take k := by
  unfold cut
  rw [HT.sIx_nat]
  show (xs.drop 0).take (min k xs.length - 0) = _
  rw [List.drop_zero, Nat.sub_zero]
  rcases Nat.le_total xs.length k with h | h
  · rw [Nat.min_eq_right h, List.take_length, List.take_of_length_le h]
  · rw [Nat.min_eq_left h]
theorem cut_lo : cut xs (some (k : Int)) none = xs.drop k := by
  unfold cut
  rw [HT.sIx_nat]
  show (xs.drop (min k xs.length)).take (xs.length - min k xs.length) = _
  rcases Nat.le_total xs.length k with h | h
  · rw [Nat.min_eq_right h, List.drop_length, List.drop_of_length_le h, List.take_nil]
  · rw [Nat.min_eq_left h, List.take_of_length_le (by simp)]
theorem cut_lo1 : cut xs (some ((k : Int) + 1)) none = xs.drop (k + 1) := cut_lo (k := k + 1)
theorem cut_hi1 : cut xs none (some ((k : Int) + 1)) = xs.take (k + 1) := cut_hi (k := k + 1)
theorem cut_one : cut xs (some 1) none = xs.drop 1 := cut_lo (k := 1)
theorem cut_1 : cut xs none (some 1) = xs.take 1 := cut_hi (k := 1)
theorem cut_m1 : cut xs none (some (-1)) = xs.take (xs.length - 1) := by
  unfold cut
  have e : HT.sIx xs.length xs.length (some (-1)) = xs.length - 1 := by
    unfold HT.sIx
    simp
    omega
  rw [e]
  rfl
theorem cutD_cut {xs : List PyData} {lo hi : Option Int} : cutD xs lo hi = cut xs lo hi := rfl
theorem cutD_tail {x : PyData} {xs : List PyData} : cutD (x :: xs) (some 1) none = xs := cut_one
theorem take_set_drop {o : α} (hk : k < xs.length) : xs.take k ++ o :: xs.drop (k + 1) = xs.set k o := by
  rw [List.set_eq_take_append_cons_drop, if_pos hk]
end
@[simp] theorem listL_t {xs : List PyData} : listL [.tuple xs] = some xs := rfl
@[simp] theorem listL_l {xs : List PyData} : listL [.list xs] = some xs := rfl
/-! a loop over a told row -/
theorem w_forL0 {g : Gv} {b : Sv} {ρ : Env'} {S : Sto} {Q : Out → Prop} : W (forL g b [] ρ S) Q = Q (.nx ρ S) := W_some
theorem w_forL1 {g : Gv} {b : Sv} {x : PyData} {xs : List PyData} {ρ : Env'} {S : Sto} {Q : Out → Prop} : W (forL g b (x :: xs) ρ S) Q = W (g x ρ) fun ρ1 => W (b ρ1 S) fun o => match o with
    | .nx ρ' S' => W (forL g b xs ρ' S') Q
    | .ct ρ' S' => W (forL g b xs ρ' S') Q
    | .bk ρ' S' => Q (.nx ρ' S')
    | .rt d S' => Q (.rt d S') := by
  rw [forL, W_bind]
  congr; funext ρ1
  rw [W_bind]
  congr; funext o
  cases o <;> first | rfl | exact W_some
/-! a loop that appends to a list -/
theorem forL_flat {α β : Type} {F : α → PyData} {g : Gv} {b : Sv} {Q : Out → Prop} {S : Sto} (f : α → List β) (E : List β → Env') (M : Nat) {xs : List α} {acc0 : List β}
    (hM : ∀ x ∈ xs, (f x).length ≤ M)
    (h : ∀ x ∈ xs, ∀ acc, acc.length ≤ acc0.length + xs.length * M → W (g (F x) (E acc)) fun ρ1 => W (b ρ1 S) fun o => o = .nx (E (acc ++ f x)) S)
    (hq : Q (.nx (E (acc0 ++ xs.flatMap f)) S)) : W (forL g b (xs.map F) (E acc0) S) Q := by
  refine forL_ix (F := F) (fun k ρ S' => S' = S ∧ ρ = E (acc0 ++ (xs.take k).flatMap f)) (fun k hk ρ S' hi => ?_) (fun ρ S' hi => ?_) ⟨rfl, by simp⟩
  · obtain ⟨rfl, rfl⟩ := hi
    have hb : ((xs.take k).flatMap f).length ≤ xs.length * M := by
      have : ∀ ys : List α, (∀ y ∈ ys, (f y).length ≤ M) → (ys.flatMap f).length ≤ ys.length * M := fun ys => by
        induction ys with
        | nil => intro _; simp
        | cons y ys ih =>
          intro hy
          have h1 := ih fun z hz => hy z (List.mem_cons_of_mem _ hz)
          have h2 := hy y List.mem_cons_self
          rw [List.flatMap_cons, List.length_append, List.length_cons, Nat.succ_mul]
          omega
      have h1 := this (xs.take k) fun y hy => hM y (List.mem_of_mem_take hy)
      have h2 : (xs.take k).length * M ≤ xs.length * M := Nat.mul_le_mul_right _ (by rw [List.length_take]; omega)
      omega
    refine (h xs[k] (List.getElem_mem hk) _ (by rw [List.length_append]; omega)).mono fun ρ1 w => w.mono fun o ho => ?_
    subst ho
    refine ⟨rfl, ?_⟩
    rw [List.take_add_one, List.getElem?_eq_getElem hk, List.flatMap_append]
    simp
  · obtain ⟨rfl, rfl⟩ := hi
    rw [List.take_length]
    exact hq
end DL
namespace DL
open PySem PySem.Spec L2 PySem.W PyProof.Rows
/-! ### set(xs) -/
abbrev newSet (w : World) : Obj := { cls := .type "set", dict := none, data := .set #[] 0 (.fresh 0 0 (!w.params.followText "set-order")) }
section
variable {P : Program} {w : World} {A : Around} {E : Value → Shared → Prop} {s : Shared}
theorem upd_loop {I : Addr} {fp wr : List Addr} {G : Array GenState → Array GenState → Prop} {n : Nat} {Pv : Nat → Value → Prop} {St : Nat → Shared → Prop} {R : Result → Shared → Prop}
    (W : WalksS P w A.in1 I fp wr G n Pv St) (S : Addr) (hSf : S ∉ fp) (h0 : Heap) (hS0 : h0.get? S = none) (hw0 : ∀ b ∈ wr, h0.get? b = none) (J : Nat → Heap → Prop)
    (stab : ∀ i h h', J i h → (∀ o, h.get? S = some o → h'.get? S = some o) → (∀ b o, h0.get? b = some o → h'.get? b = some o) → J i h')
    (step : ∀ (i : Nat) (v : Value) (s' : Shared) (Q' : Bool → Shared → Prop) (E' : Value → Shared → Prop), Pv i v → J i s'.heap → (∀ b o, h0.get? b = some o → s'.heap.get? b = some o) →
      (∀ b h' tk, s'.toks ≤ tk → Heap.SameBut S s'.heap h' → J (i + 1) h' → Q' b { s' with heap := h', toks := tk }) → wpAny (model P w) A.in1 (setAdd S v) Q' E' s') :
    ∀ (k i : Nat) (s : Shared), n - i = k → i ≤ n → St i s → (∀ b o, h0.get? b = some o → s.heap.get? b = some o) → J i s.heap →
      (∀ s', Moved (S :: wr) G s s' → J n s'.heap → (∀ b o, h0.get? b = some o → s'.heap.get? b = some o) → R (.ok (.ret .none)) s') →
      codeAny (model P w) A (.builtin "set.update.loop" ⟨[.ref S, .ref I], []⟩) R s := by
  have hSw : S ∉ wr := fun h => hSf (W.sub _ h)
  have hsub : ∀ b ∈ wr, b ∈ S :: wr := fun b hb => List.mem_cons_of_mem _ hb
  have keepM : ∀ {s s' : Shared}, Moved wr G s s' → (∀ b o, h0.get? b = some o → s.heap.get? b = some o) → ∀ b o, h0.get? b = some o → s'.heap.get? b = some o := fun hm hkp b o e =>
    hm.heap b o (fun hb => by rw [hw0 b hb] at e; cases e) (hkp b o e)
  intro k
  induction k with
  | zero =>
    intro i s hk hi hst hkp hJ hR
    obtain rfl : i = n := by omega
    refine codeAny_builtin F.entry_set_update_loop ?_
    rw [Around.under_plainId F.plain_set_update_loop _]
    show wpAny _ A.in1 (pyNext (.ref I) >>= _) _ _ s
    refine wpAny_bind (W.done s _ _ hst fun s' hm => ?_)
    show wpAny _ A.in1 (ret Value.none) _ _ s'
    exact wpAny_pure (hR s' (hm.mono hsub) (stab _ _ _ hJ (fun o e => hm.heap S o hSw e) (keepM hm hkp)) (keepM hm hkp))
  | succ k ih =>
    intro i s hk hi hst hkp hJ hR
    have hlt : i < n := by omega
    refine codeAny_builtin F.entry_set_update_loop ?_
    rw [Around.under_plainId F.plain_set_update_loop _]
    show wpAny _ A.in1 (pyNext (.ref I) >>= _) _ _ s
    refine wpAny_bind (W.item i s _ _ hlt hst fun v s' hP hst' hm => ?_)
    have hkp' := keepM hm hkp
    have hJ' := stab _ _ s'.heap hJ (fun o e => hm.heap S o hSw e) hkp'
    show wpAny _ A.in1 (holding [v] (setAdd S v) >>= _) _ _ s'
    refine wpAny_bind (wpAny_holding (step i v s' _ _ hP hJ' hkp' fun b h' tk htk hsb hJ2 => ?_))
    have hkp2 : ∀ b o, h0.get? b = some o → h'.get? b = some o := fun b o e => (hsb.2 b (fun z => by rw [z, hS0] at e; cases e)).trans (hkp' b o e)
    refine wpAny_pure ⟨plainId_quiet F.plain_set_update_loop _, ih (i + 1) _ (by omega) hlt (W.frame _ s' _ _ hst' htk fun b hb o e => ?_) hkp2 hJ2 fun s'' hm'' hJ'' hkp'' => ?_⟩
    · rw [hsb.2 b (fun h : b = S => hSf (by rw [← h]; exact hb))]; exact e
    · refine hR s'' (Moved.trans W.gtrans ((hm.mono hsub).then_heap htk fun b o hb e => ?_) hm'') hJ'' hkp''
      rw [hsb.2 b (fun h : b = S => hb (by rw [h]; exact List.mem_cons_self))]; exact e

set_option maxRecDepth 100000 in
set_option maxHeartbeats 3200000 in
/-- set(xs) of a KIND: item by item, whatever is known of the set (J) -/
theorem call_set_lst {l : Addr} {items : Array Value} {Q : Value → Shared → Prop} (hh : A.handled = none) (hl : s.heap.IsList l items) (J : Nat → Heap → Prop)
    (stab : ∀ i h h', J i h → (∀ o, h.get? s.heap.objs.size = some o → h'.get? s.heap.objs.size = some o) → (∀ b o, s.heap.get? b = some o → h'.get? b = some o) → J i h')
    (start : ∀ h', h'.get? s.heap.objs.size = some (newSet w) → (∀ b o, s.heap.get? b = some o → h'.get? b = some o) → J 0 h')
    (step : ∀ (A' : Around) (i : Nat) (v : Value) (s' : Shared) (Q' : Bool → Shared → Prop) (E' : Value → Shared → Prop), A'.units ≤ A.units + 3 → items[i]? = some v → J i s'.heap → (∀ b o, s.heap.get? b = some o → s'.heap.get? b = some o) →
      (∀ b h' tk, s'.toks ≤ tk → Heap.SameBut s.heap.objs.size s'.heap h' → J (i + 1) h' → Q' b { s' with heap := h', toks := tk }) → wpAny (model P w) A' (setAdd s.heap.objs.size v) Q' E' s')
    (h : ∀ (h' : Heap) (tk : Nat), J items.size h' → (∀ b o, s.heap.get? b = some o → h'.get? b = some o) → Q (.ref s.heap.objs.size) { s with heap := h', toks := tk }) :
    wpAny (model P w) A (call (.type "set") [.ref l]) Q E s := by
  obtain ⟨c, tl, hmro⟩ := F.called_set.mro
  have hmade := F.called_set.made
  have hsub := F.called_set.sub
  refine wpAny_call (codeAny_of_tree ?_)
  show wpAny _ _ (callAny (.type "set") _) _ _ _
  refine wpAny_pure ⟨Code.quiet_builtin _ (by decide +kernel), codeAny_builtin F.entry_type_call ?_⟩
  rw [Around.under_plain (weight_type_call_type "set" [.ref l] []) rfl]
  have h1 := F.called_set.notType
  have h2 := F.called_set.canCreate
  have hct := F.typeCall_set_1 (.ref l)
  repeat (any_goals (first | assumption | wp_step))
  refine codeAny_mono (code_set_led1 (.ref l) (E := E) (Q₁ := fun obj s₁ => obj = .ref s.heap.objs.size ∧ s₁ = { s with heap := s.heap.push (newSet w) }) ⟨rfl, rfl⟩) fun r s₁ hr => ?_
  cases r with
  | error e => exact hr
  | ok fl =>
    cases fl with
    | ret obj =>
      obtain ⟨rfl, rfl⟩ := hr
      have hS : (s.heap.push (newSet w)).get? s.heap.objs.size = some (newSet w) := Heap.get?_push_size _ rfl
      have hT : Shared.TypeIs { s with heap := s.heap.push (newSet w) } (.ref s.heap.objs.size) "set" := ⟨_, hS, rfl⟩
      have hli := F.called_set.init.lookup
      have hbi := F.called_set.init.bind (.ref s.heap.objs.size)
      repeat (any_goals (first | assumption | wp_step))
      refine codeAny_mono (codeAny_call_builtin (R := wants (fun r s₂ => r = .none ∧ ∃ h' tk, s₂ = { s with heap := h', toks := tk } ∧ J items.size h' ∧ (∀ b o, s.heap.get? b = some o → h'.get? b = some o)) E) F.called_set.init.plain F.entry_set_init (check_set_init_1 hT ?_)) fun r₂ s₂ hr₂ => ?_
      · obtain ⟨⟨oc, od, ot, os⟩, hol, hcl, nl, hdl⟩ := hl
        simp only at hcl hdl
        subst hcl hdl
        have hol' : (s.heap.push (newSet w)).get? l = some { cls := .type "list", dict := od, data := .seq items nl, slots := os } := Heap.get?_push_of_some _ hol
        have hsls := F.sub_list_set
        have hslf := F.sub_list_frozenset
        have hne : (Value.type "list" == Value.type "dict") = false := by decide
        have hl1 : (s.heap.push (newSet w)).IsList l items := ⟨_, hol', rfl, nl, rfl⟩
        unfold Builtin.«set.__init__» noKeywords Builtin.Frozenset.updateFrom
        generalize hPI : pyIter = PI
        wp_walk
        subst hPI
        refine wpAny_pyIter_list hl1 ?_
        refine wpAny_bind (wpAny_runValue ?_)
        have hlS : l < s.heap.objs.size := Heap.lt_size hol
        have hz1 : (s.heap.push (newSet w)).objs.size = s.heap.objs.size + 1 := Heap.size_push ..
        have hneI : l ≠ (s.heap.push (newSet w)).objs.size := by rw [hz1]; exact Nat.ne_of_lt (Nat.lt_succ_of_lt hlS)
        have hSf : s.heap.objs.size ∉ [(s.heap.push (newSet w)).objs.size, l] := by
          rw [hz1]
          simp only [List.mem_cons, List.not_mem_nil, or_false, not_or]
          exact ⟨Nat.ne_of_lt (Nat.lt_succ_self _), Nat.ne_of_gt hlS⟩
        have none_of : ∀ b, s.heap.objs.size ≤ b → s.heap.get? b = none := fun b hb => by
          cases q : s.heap.get? b with
          | none => rfl
          | some o => exact absurd (Nat.lt_of_lt_of_le (Heap.lt_size q) hb) (Nat.lt_irrefl _)
        have old : ∀ b o, s.heap.get? b = some o → ((s.heap.push (newSet w)).push { cls := .type "list_iterator", data := .fields #[.ref l, .int 0 0] }).get? b = some o := fun b o e => Heap.get?_push_of_some _ (Heap.get?_push_of_some _ e)
        refine upd_loop ((Walks.list (A := A.in1.in1.in1) (by simp [hh]) _ l hneI items).toS) s.heap.objs.size hSf s.heap (none_of _ (Nat.le_refl _)) (fun b hb => none_of b (by
            rw [List.mem_singleton.mp hb, hz1]
            omega)) J stab (fun i v s' Q' E' hv hJ hk hQ => step _ i v s' Q' E' (by simp [Around.in1]) hv hJ hk hQ) (items.size - 0) 0 _ (by omega) (Nat.zero_le _)
          ⟨⟨_, Heap.get?_push_size _ rfl, rfl, rfl⟩, (hl1.push _)⟩ old (start _ (Heap.get?_push_of_some _ hS) old) ?hR
        case hR =>
          intro s' hm hJ hkp
          obtain ⟨h', g2, d', tk', os'⟩ := s'
          have eg : g2 = s.gens := hm.gens
          have ed : d' = s.drawn := hm.drawn
          have eo : os' = s.os := hm.os
          subst eg ed eo
          show wpAny _ _ _ _ _ _
          refine wpAny_pure ?_
          show wpAny _ _ (ret Value.none) _ _ _
          exact wpAny_pure ⟨rfl, h', tk', rfl, hJ, hkp⟩
      · cases r₂ with
        | error e => exact hr₂
        | ok fl₂ =>
          cases fl₂ with
          | ret r =>
            obtain ⟨rfl, h', tk, rfl, hJ, hk'⟩ := hr₂
            repeat (any_goals (first | assumption | wp_step))
            exact h _ _ hJ hk'
          | _ => exact hr₂.elim
    | _ => exact hr.elim

set_option maxRecDepth 100000 in
set_option maxHeartbeats 3200000 in
/-- set(xs) of a KIND: item by item, whatever is known of the set (J) -/
theorem call_set_tup {l : Addr} {items : Array Value} {Q : Value → Shared → Prop} (hh : A.handled = none) (hl : s.heap.IsTuple l items) (J : Nat → Heap → Prop)
    (stab : ∀ i h h', J i h → (∀ o, h.get? s.heap.objs.size = some o → h'.get? s.heap.objs.size = some o) → (∀ b o, s.heap.get? b = some o → h'.get? b = some o) → J i h')
    (start : ∀ h', h'.get? s.heap.objs.size = some (newSet w) → (∀ b o, s.heap.get? b = some o → h'.get? b = some o) → J 0 h')
    (step : ∀ (A' : Around) (i : Nat) (v : Value) (s' : Shared) (Q' : Bool → Shared → Prop) (E' : Value → Shared → Prop), A'.units ≤ A.units + 3 → items[i]? = some v → J i s'.heap → (∀ b o, s.heap.get? b = some o → s'.heap.get? b = some o) →
      (∀ b h' tk, s'.toks ≤ tk → Heap.SameBut s.heap.objs.size s'.heap h' → J (i + 1) h' → Q' b { s' with heap := h', toks := tk }) → wpAny (model P w) A' (setAdd s.heap.objs.size v) Q' E' s')
    (h : ∀ (h' : Heap) (tk : Nat), J items.size h' → (∀ b o, s.heap.get? b = some o → h'.get? b = some o) → Q (.ref s.heap.objs.size) { s with heap := h', toks := tk }) :
    wpAny (model P w) A (call (.type "set") [.ref l]) Q E s := by
  obtain ⟨c, tl, hmro⟩ := F.called_set.mro
  have hmade := F.called_set.made
  have hsub := F.called_set.sub
  refine wpAny_call (codeAny_of_tree ?_)
  show wpAny _ _ (callAny (.type "set") _) _ _ _
  refine wpAny_pure ⟨Code.quiet_builtin _ (by decide +kernel), codeAny_builtin F.entry_type_call ?_⟩
  rw [Around.under_plain (weight_type_call_type "set" [.ref l] []) rfl]
  have h1 := F.called_set.notType
  have h2 := F.called_set.canCreate
  have hct := F.typeCall_set_1 (.ref l)
  repeat (any_goals (first | assumption | wp_step))
  refine codeAny_mono (code_set_led1 (.ref l) (E := E) (Q₁ := fun obj s₁ => obj = .ref s.heap.objs.size ∧ s₁ = { s with heap := s.heap.push (newSet w) }) ⟨rfl, rfl⟩) fun r s₁ hr => ?_
  cases r with
  | error e => exact hr
  | ok fl =>
    cases fl with
    | ret obj =>
      obtain ⟨rfl, rfl⟩ := hr
      have hS : (s.heap.push (newSet w)).get? s.heap.objs.size = some (newSet w) := Heap.get?_push_size _ rfl
      have hT : Shared.TypeIs { s with heap := s.heap.push (newSet w) } (.ref s.heap.objs.size) "set" := ⟨_, hS, rfl⟩
      have hli := F.called_set.init.lookup
      have hbi := F.called_set.init.bind (.ref s.heap.objs.size)
      repeat (any_goals (first | assumption | wp_step))
      refine codeAny_mono (codeAny_call_builtin (R := wants (fun r s₂ => r = .none ∧ ∃ h' tk, s₂ = { s with heap := h', toks := tk } ∧ J items.size h' ∧ (∀ b o, s.heap.get? b = some o → h'.get? b = some o)) E) F.called_set.init.plain F.entry_set_init (check_set_init_1 hT ?_)) fun r₂ s₂ hr₂ => ?_
      · obtain ⟨⟨oc, od, ot, os⟩, hol, hcl, nl, hdl⟩ := hl
        simp only at hcl hdl
        subst hcl hdl
        have hol' : (s.heap.push (newSet w)).get? l = some { cls := .type "tuple", dict := od, data := .seq items nl, slots := os } := Heap.get?_push_of_some _ hol
        have hsls := F.sub_tuple_set
        have hslf := F.sub_tuple_frozenset
        have hne : (Value.type "tuple" == Value.type "dict") = false := by decide
        have hl1 : (s.heap.push (newSet w)).IsTuple l items := ⟨_, hol', rfl, nl, rfl⟩
        unfold Builtin.«set.__init__» noKeywords Builtin.Frozenset.updateFrom
        generalize hPI : pyIter = PI
        wp_walk
        subst hPI
        refine wpAny_pyIter_tuple hl1 ?_
        refine wpAny_bind (wpAny_runValue ?_)
        have hlS : l < s.heap.objs.size := Heap.lt_size hol
        have hz1 : (s.heap.push (newSet w)).objs.size = s.heap.objs.size + 1 := Heap.size_push ..
        have hneI : l ≠ (s.heap.push (newSet w)).objs.size := by rw [hz1]; exact Nat.ne_of_lt (Nat.lt_succ_of_lt hlS)
        have hSf : s.heap.objs.size ∉ [(s.heap.push (newSet w)).objs.size, l] := by
          rw [hz1]
          simp only [List.mem_cons, List.not_mem_nil, or_false, not_or]
          exact ⟨Nat.ne_of_lt (Nat.lt_succ_self _), Nat.ne_of_gt hlS⟩
        have none_of : ∀ b, s.heap.objs.size ≤ b → s.heap.get? b = none := fun b hb => by
          cases q : s.heap.get? b with
          | none => rfl
          | some o => exact absurd (Nat.lt_of_lt_of_le (Heap.lt_size q) hb) (Nat.lt_irrefl _)
        have old : ∀ b o, s.heap.get? b = some o → ((s.heap.push (newSet w)).push { cls := .type "tuple_iterator", data := .fields #[.ref l, .int 0 0] }).get? b = some o := fun b o e => Heap.get?_push_of_some _ (Heap.get?_push_of_some _ e)
        refine upd_loop ((Walks.tuple (A := A.in1.in1.in1) (by simp [hh]) _ l hneI items).toS) s.heap.objs.size hSf s.heap (none_of _ (Nat.le_refl _)) (fun b hb => none_of b (by
            rw [List.mem_singleton.mp hb, hz1]
            omega)) J stab (fun i v s' Q' E' hv hJ hk hQ => step _ i v s' Q' E' (by simp [Around.in1]) hv hJ hk hQ) (items.size - 0) 0 _ (by omega) (Nat.zero_le _)
          ⟨⟨_, Heap.get?_push_size _ rfl, rfl, rfl⟩, (hl1.push _)⟩ old (start _ (Heap.get?_push_of_some _ hS) old) ?hR
        case hR =>
          intro s' hm hJ hkp
          obtain ⟨h', g2, d', tk', os'⟩ := s'
          have eg : g2 = s.gens := hm.gens
          have ed : d' = s.drawn := hm.drawn
          have eo : os' = s.os := hm.os
          subst eg ed eo
          show wpAny _ _ _ _ _ _
          refine wpAny_pure ?_
          show wpAny _ _ (ret Value.none) _ _ _
          exact wpAny_pure ⟨rfl, h', tk', rfl, hJ, hkp⟩
      · cases r₂ with
        | error e => exact hr₂
        | ok fl₂ =>
          cases fl₂ with
          | ret r =>
            obtain ⟨rfl, h', tk, rfl, hJ, hk'⟩ := hr₂
            repeat (any_goals (first | assumption | wp_step))
            exact h _ _ hJ hk'
          | _ => exact hr₂.elim
    | _ => exact hr.elim
end
end DL
namespace DL
open PySem PySem.Spec L2 PySem.W PyProof.Rows
/-! ### sets of ints and texts -/
def keyV (v : Value) : Key := match v with | .int k _ => .inl k | .str x _ => .inr x | _ => .inl 0
def GoodG (w : World) (e : Int × Value) : Prop := ∃ k, keyIs k e.2 = true ∧ e.1 = keyH w k
theorem keyV_of {k : Key} {v : Value} (h : keyIs k v = true) : keyV v = k := by
  rcases keyIs_shape h with ⟨i, t, rfl, rfl⟩ | ⟨x, t, rfl, rfl⟩ <;> rfl
theorem key_sc {k : Key} {v : Value} (h : keyIs k v = true) : v.scannable = true := by
  rcases keyIs_shape h with ⟨i, t, rfl, rfl⟩ | ⟨x, t, rfl, rfl⟩ <;> rfl
/-- the set at a: its members S, its table can be walked -/
def SetG (w : World) (h : Heap) (a : Addr) (S : Key → Bool) (n : Nat) : Prop :=
  ∃ o es ep t, h.get? a = some o ∧ o.ExactSet ∧ o.data = .set es ep t ∧ (∀ e ∈ es.toList, GoodG w e) ∧ (es.toList.map fun e => keyV e.2).Nodup ∧ (∀ k, S k = true ↔ k ∈ es.toList.map fun e => keyV e.2) ∧
    es.size < scanBound ∧ t.fits es.size = true ∧ es.size = n ∧ Ris t.place.toList ∧ (w.params.followText "set-order" = true ∨ t.led = true)
section
variable {P : Program} {w : World} {A : Around} {E : Value → Shared → Prop} {s : Shared} {a : Addr} {S : Key → Bool} {n : Nat}
theorem SetG.at {h h' : Heap} (R : SetG w h a S n) (k : ∀ o, h.get? a = some o → h'.get? a = some o) : SetG w h' a S n := by
  obtain ⟨o, es, ep, t, ho, r⟩ := R
  exact ⟨o, es, ep, t, k o ho, r⟩
theorem SetG.congr {h : Heap} {S' : Key → Bool} (R : SetG w h a S n) (e : ∀ k, S' k = S k) : SetG w h a S' n := by rw [show S' = S from funext e]; exact R
theorem goodG_elems {l : List (Int × Value)} (g : ∀ e ∈ l, GoodG w e) : ElemsOf (mixKind P w) l := fun e he => by
  obtain ⟨k, h1, h2⟩ := g e he
  exact ⟨⟨k, h1, h2⟩, key_sc h1⟩
theorem goodG_mem {l : List (Int × Value)} (g : ∀ e ∈ l, GoodG w e) (k : Key) : k ∈ (l.map fun e => keyV e.2) ↔ ∃ e ∈ l, (mixKind P w).is k e.2 = true := by
  rw [List.mem_map]
  constructor
  · rintro ⟨e, he, q⟩
    obtain ⟨k', h1, _⟩ := g e he
    rw [keyV_of h1] at q
    exact ⟨e, he, q ▸ h1⟩
  · rintro ⟨e, he, q⟩
    exact ⟨e, he, keyV_of q⟩
theorem setG_tail {g : Bool → Sem Unit} (hg : ∀ (b : Bool) (s₁ : Shared) (Q' : Unit → Shared → Prop), Q' () s₁ → wpAny (model P w) A (g b) Q' E s₁)
    {o : Obj} {es : Array (Int × Value)} {ep : Nat} {t : SetTable} (ho : s.heap.get? a = some o) (hex : o.ExactSet) (hd : o.data = .set es ep t)
    {es1 : Array (Int × Value)} {t2 : SetTable} {S' : Key → Bool} (g1 : ∀ e ∈ es1.toList, GoodG w e) (nd1 : (es1.toList.map fun e => keyV e.2).Nodup) (m1 : ∀ k, S' k = true ↔ k ∈ es1.toList.map fun e => keyV e.2)
    (hb1 : es1.size < scanBound) (hf2 : t2.fits es1.size = true) (hr : Ris t2.place.toList) (hl : w.params.followText "set-order" = true ∨ t2.led = true) {wasDummy : Bool} {R : Option Bool → Shared → Prop}
    (hR : ∀ h', Heap.SameBut a s.heap h' → SetG w h' a S' es1.size → R (some true) { s with heap := h' }) :
    wpAny (model P w) A (do
        storeSet a es1 t2
        if (!wasDummy && t2.tooFull) = true then do
            g (relayAll t2 es1 (SetTable.grown es1.size)).2.2
            storeSet a (relayAll t2 es1 (SetTable.grown es1.size)).1 (relayAll t2 es1 (SetTable.grown es1.size)).2.1
            pure (some true)
          else pure (some true)) R E s := by
  have hz1 := fits_of_scanBound hb1
  have ho1 := store_at (es' := es1) (t' := t2) ho hd
  have sb1 := Heap.SameBut.update s.heap a (Obj.putSet es1 t2)
  refine wpAny_bind (wpAny_storeSet_of ho hd ?_ hz1)
  split
  · have pm := relayAll_perm t2 es1 (SetTable.grown es1.size)
    have f1 := relayAll_fits t2 es1 (SetTable.grown es1.size)
    have f2 := relayAll_ris t2 es1 (SetTable.grown es1.size)
    have f3 := relayAll_led t2 es1 (SetTable.grown es1.size)
    revert pm f1 f2 f3
    generalize relayAll t2 es1 (SetTable.grown es1.size) = Z
    obtain ⟨es2, t3, gave⟩ := Z
    intro pm f1 f2 f3
    dsimp only at pm f1 f2 f3 ⊢
    have hsz : es2.size = es1.size := by rw [← Array.length_toList, pm.length_eq, Array.length_toList]
    have hb2 : es2.size < scanBound := hsz ▸ hb1
    refine wpAny_bind (hg _ _ _ (wpAny_bind (wpAny_storeSet_of ho1 rfl ?_ (fits_of_scanBound hb2))))
    exact wpAny_pure (hR _ (sb1.trans (Heap.SameBut.update _ a _)) ⟨_, es2, _, t3, store_at (es' := es2) (t' := t3) ho1 rfl, hex, rfl, fun e he => g1 e (pm.mem_iff.mp he), (pm.map fun e => keyV e.2).nodup_iff.mpr nd1,
      fun k => (m1 k).trans (pm.map fun e => keyV e.2).mem_iff.symm, hb2, f1, hsz, f2, hl.imp id fun z => f3.trans z⟩)
  · exact wpAny_pure (hR _ sb1 ⟨_, es1, _, t2, ho1, hex, rfl, g1, nd1, m1, hb1, hf2, rfl, hr, hl⟩)
theorem setG_add {k : Key} {v : Value} {Q : Bool → Shared → Prop} (hkey : keyIs k v = true) (R : SetG w s.heap a S n) (room : n + 1 < scanBound)
    (hQ : ∀ b h', Heap.SameBut a s.heap h' → SetG w h' a (fun j => S j || decide (j = k)) (if S k = true then n else n + 1) → Q b { s with heap := h' }) :
    wpAny (model P w) A (setAddHashed a v ((mixKind P w).hash k)) Q E s := by
  obtain ⟨o, es, ep, t, ho, hex, hd, g, nd, hm, hb, hf, hn, hr, hl⟩ := R
  have hkey' : (mixKind P w).is k v = true := hkey
  have hsc := key_sc hkey
  have hel : ElemsOf (mixKind P w) es.toList := goodG_elems g
  unfold setAddHashed setAddHashedIn
  refine wpAny_holding (wpAny_bind (wpAny_setState_of ho hd hf ?_))
  dsimp only
  rw [byScan_of hsc hb hel]
  simp only [↓reduceIte]
  unfold setAddByScan
  refine wpAny_bind (wpAny_bind (wpAny_rule (wpAny_bind (wpAny_setScan_of hkey' ho hd hf hel ?_))))
  cases hfi : List.findIdx? (fun e => (mixKind P w).is k e.2) es.toList with
  | some j =>
    dsimp only
    obtain ⟨hj, pj, _⟩ := List.findIdx?_eq_some_iff_getElem.mp hfi
    have hSk : S k = true := (hm k).2 ((goodG_mem (P := P) (w := w) g k).2 ⟨es.toList[j], List.getElem_mem hj, pj⟩)
    refine wpAny_pure (wpAny_pure (hQ _ s.heap (Heap.SameBut.refl a s.heap) ⟨o, es, ep, t, ho, hex, hd, g, nd, fun i => ?_, hb, hf, by rw [if_pos hSk]; exact hn, hr, hl⟩))
    rw [Bool.or_eq_true, decide_eq_true_eq, ← hm i]
    exact ⟨fun z => z.elim id (fun e => e ▸ hSk), .inl⟩
  | none =>
    dsimp only
    have hnk : k ∉ es.toList.map fun e => keyV e.2 := fun z => by
      obtain ⟨e, he, q⟩ := (goodG_mem (P := P) (w := w) g k).1 z
      have c := List.findIdx?_eq_none_iff.mp hfi e he
      rw [q] at c
      cases c
    have hSk : S k = false := Bool.eq_false_iff.mpr fun q => hnk ((hm k).1 q)
    have hgw : ∀ (b : Bool) (s₁ : Shared) (Q' : Unit → Shared → Prop), Q' () s₁ → wpAny (model P w) A (match b with | true => rule "set.scan.the-table-gave-way" | false => pure ()) Q' E s₁ :=
      fun b s₁ Q' q => by cases b <;> first | exact wpAny_pure q | exact wpAny_rule q
    have pm := layNew_perm t es ((mixKind P w).hash k) v
    have f1 := layNew_fits t es ((mixKind P w).hash k) v
    have f2 := layNew_ris t es ((mixKind P w).hash k) v hr
    have f3 := layNew_led t es ((mixKind P w).hash k) v
    revert pm f1 f2 f3
    generalize layNew t es ((mixKind P w).hash k) v = Z
    obtain ⟨es1, t1, wasDummy, gave⟩ := Z
    intro pm f1 f2 f3
    dsimp only at pm f1 f2 f3 ⊢
    rw [Array.toList_push] at pm
    have pc : es1.toList.Perm (((mixKind P w).hash k, v) :: es.toList) := pm.trans (List.perm_append_singleton _ _)
    have pk : (es1.toList.map fun e => keyV e.2).Perm (k :: es.toList.map fun e => keyV e.2) := by
      have q := pc.map fun e : Int × Value => keyV e.2
      rw [List.map_cons, keyV_of hkey] at q
      exact q
    have g1 : ∀ e ∈ es1.toList, GoodG w e := fun e he => by
      rcases List.mem_cons.mp (pc.mem_iff.mp he) with z | z
      · rw [z]; exact ⟨k, hkey, rfl⟩
      · exact g e z
    have nd1 : (es1.toList.map fun e => keyV e.2).Nodup := pk.nodup_iff.mpr (List.nodup_cons.mpr ⟨hnk, nd⟩)
    have m1 : ∀ i, (S i || decide (i = k)) = true ↔ i ∈ es1.toList.map fun e => keyV e.2 := fun i => by
      rw [Bool.or_eq_true, decide_eq_true_eq, hm i, pk.mem_iff, List.mem_cons]
      exact Or.comm
    have hsz : es1.size = n + 1 := by rw [← Array.length_toList, pc.length_eq, List.length_cons, Array.length_toList, hn]
    have hb1 : es1.size < scanBound := by rw [hsz]; exact room
    have hled : w.params.followText "set-order" = true ∨ t1.led = true := hl.imp id fun z => f3.trans z
    have fin : ∀ b h', Heap.SameBut a s.heap h' → SetG w h' a (fun j => S j || decide (j = k)) es1.size → Q b { s with heap := h' } := fun b h' sb r => by
      have q := hQ b h' sb
      rw [hSk] at q
      rw [hsz] at r
      exact q r
    refine wpAny_bind (hgw _ _ _ ?_)
    split
    · refine wpAny_bind ?_
      rw [hashByValue_scannable 8 hsc]
      refine wpAny_pure (setG_tail hgw ho hex hd g1 nd1 m1 hb1 ?_ ?_ ?_ ?_)
      · first | (split <;> first | exact f1 | exact SetTable.fits_plain_off f1) | exact f1
      · first | (split <;> exact f2) | exact f2
      · first | (split <;> exact hled) | exact hled
      · intro h' sb r; dsimp only; exact wpAny_pure (fin _ h' sb r)
    · refine wpAny_bind (wpAny_pure ?_)
      simp only [↓reduceIte]
      refine setG_tail hgw ho hex hd g1 nd1 m1 hb1 f1 f2 hled ?_
      intro h' sb r
      dsimp only
      exact wpAny_pure (fin _ h' sb r)
theorem setG_new {h : Heap} (ho : h.get? a = some (newSet w)) : SetG w h a (fun _ => false) 0 :=
  ⟨_, #[], 0, _, ho, ⟨rfl, rfl, rfl⟩, rfl, (fun e he => by simp at he), (by simp), (fun k => by simp), (by decide), (by rfl), rfl, List.Pairwise.nil, by
    show _ ∨ (!w.params.followText "set-order") = true
    cases w.params.followText "set-order"
    · exact .inr rfl
    · exact .inl rfl⟩
end
end DL
namespace DL
open PySem PySem.Spec L2
open PyProof.Rows hiding St
/-! ### set(xs) of keys, sorted(set(xs)), len(set(xs)) -/
/-- a set that can be walked -/
structure SetW (w : World) (h : Heap) (a : Addr) (es : Array (Int × Value)) (ep : Nat) (t : SetTable) : Prop where
  ob : ∃ o, h.get? a = some o ∧ o.ExactSet ∧ o.data = .set es ep t
  fits : t.fits es.size = true
  few : es.size < scanBound
  ris : Ris t.place.toList
  led : w.params.followText "set-order" = true ∨ t.led = true
theorem SetG.w {w : World} {h : Heap} {a : Addr} {S : Key → Bool} {n : Nat} (R : SetG w h a S n) : ∃ es ep t, SetW w h a es ep t ∧ (∀ e ∈ es.toList, GoodG w e) ∧ (es.toList.map fun e => keyV e.2).Nodup ∧ ∀ k, S k = true ↔ k ∈ es.toList.map fun e => keyV e.2 := by
  obtain ⟨o, es, ep, t, ho, hex, hd, g, nd, hm, hb, hf, hn, hr, hl⟩ := R
  exact ⟨es, ep, t, ⟨⟨o, ho, hex, hd⟩, hf, hb, hr, hl⟩, g, nd, hm⟩
theorem setTR_w {P : Program} {w : World} {h : Heap} {a : Addr} {L : List (Addr × List Int)} {es : Array (Int × Value)} {ep : Nat} {t : SetTable} (R : SetTR P w h a L es ep t) : SetW w h a es ep t :=
  ⟨R.ob, SetTR.fits (s := { heap := h }) R, by
    have e : es.size = L.length := by rw [← Array.length_toList, R.rows]; simp [rowsOf]
    have := R.few
    show es.size < 4096
    omega, R.tab.ris, R.led⟩
section
variable {X : Cx} {pins : List (Addr × Obj)} {σ : L2.St} {H : Hp} {s : Shared} {L : AdP}
theorem keys_list {ds : List PyData} (h : ds.all isKK = true) : ∃ ks : List Key, ds = ks.map keyD := by
  induction ds with
  | nil => exact ⟨[], rfl⟩
  | cons d ds ih =>
    rw [List.all_cons, Bool.and_eq_true] at h
    obtain ⟨k, rfl⟩ := isKK_key h.1
    obtain ⟨ks, rfl⟩ := ih h.2
    exact ⟨k :: ks, rfl⟩
theorem ints_list {ds : List PyData} (h : ds.all isIT = true) : ∃ ks : List (List Int), ds = ks.map fun ns => .tuple (ns.map .int) := by
  induction ds with
  | nil => exact ⟨[], rfl⟩
  | cons d ds ih =>
    rw [List.all_cons, Bool.and_eq_true] at h
    obtain ⟨k, rfl⟩ := isIT_ints h.1
    obtain ⟨ks, rfl⟩ := ih h.2
    exact ⟨k :: ks, rfl⟩
theorem vals_keys : ∀ {ks : List Key} {its : List Value}, Vals (ks.map kV) its → ∀ (i : Nat) (v : Value), its[i]? = some v → ∃ k, ks[i]? = some k ∧ keyIs k v = true
  | [], _, .nil, i, v, e => by simp at e
  | k :: ks, _, .cons r t, 0, v, e => by
    simp at e
    subst e
    refine ⟨k, rfl, ?_⟩
    cases k with
    | inl i => obtain ⟨tk, rfl⟩ := r; exact keyIs_int i tk
    | inr x => obtain ⟨tk, rfl⟩ := r; exact keyIs_str x tk
  | k :: ks, _, .cons r t, i + 1, v, e => by
    obtain ⟨k', h1, h2⟩ := vals_keys t i v (by simpa using e)
    exact ⟨k', by simpa using h1, h2⟩
theorem rel_key {k : Key} {v : Value} (h : keyIs k v = true) : RelV (kV k) v := by
  rcases keyIs_shape h with ⟨i, t, rfl, rfl⟩ | ⟨x, t, rfl, rfl⟩ <;> exact ⟨t, rfl⟩
theorem at_keyD {k : Key} : At H L (kV k) (keyD k) := by
  cases k with
  | inl i => exact .int i
  | inr x => exact .str x
theorem refs_ints : ∀ {xs : List V} {its : List Value} {ns : List (List Int)}, AtL H L xs (ns.map fun n => .tuple (n.map .int)) → Vals xs its → ∃ ks : List (Addr × List Int), ks.map (·.2) = ns ∧ its = ks.map (fun p => Value.ref p.1) ∧ ∀ p ∈ ks, At H L (.ref p.1) (.tuple (p.2.map .int)) ∧ H p.1 = some (.tup (p.2.map V.int))
  | _, _, [], .nil, .nil => ⟨[], rfl, rfl, fun p hp => by cases hp⟩
  | _, _, n :: ns, .cons a b, .cons r t => by
    obtain ⟨ks, e1, e2, h⟩ := refs_ints b t
    have a' := a
    cases a with
    | @tup c xs _ n1 h1 h2 =>
      cases r
      have ex := h2.inj_int
      subst ex
      exact ⟨(c, n) :: ks, by rw [List.map_cons, e1], by rw [List.map_cons, e2], fun p hp => by
        rcases List.mem_cons.mp hp with rfl | hp
        · exact ⟨a', h1⟩
        · exact h p hp⟩
abbrev AtE (H : Hp) (L : AdP) (v : Value) (d : PyData) : Prop := ∃ x, RelV x v ∧ At H L x d
open Classical in
theorem set_keys_out {w : World} {h : Heap} {a : Addr} {ks : List Key} {n : Nat} (R : SetG w h a (fun j => decide (j ∈ ks)) n) : ∃ es ep t us, SetW w h a es ep t ∧ PySem.W.EachIs (AtE H L) (es.toList.map (·.2)) us ∧ us.Nodup ∧ ∀ d, d ∈ us ↔ d ∈ ks.map keyD := by
  obtain ⟨es, ep, t, W, g, nd, hm⟩ := R.w
  refine ⟨es, ep, t, es.toList.map fun e => keyD (keyV e.2), W, ?_, ?_, fun d => ?_⟩
  · clear nd hm W R
    generalize es.toList = l at g
    induction l with
    | nil => exact .nil
    | cons e l ih =>
      obtain ⟨k, h1, _⟩ := g e List.mem_cons_self
      exact .cons ⟨kV k, rel_key h1, by show At H L (kV k) (keyD (keyV e.2)); rw [keyV_of h1]; exact at_keyD⟩ (ih fun e he => g e (List.mem_cons_of_mem _ he))
  · have q := nd
    rw [show (es.toList.map fun e => keyD (keyV e.2)) = (es.toList.map fun e => keyV e.2).map keyD by rw [List.map_map]; rfl]
    exact List.pairwise_map.mpr (q.imp fun hne e => hne (keyD_inj e))
  · rw [show (es.toList.map fun e => keyD (keyV e.2)) = (es.toList.map fun e => keyV e.2).map keyD by rw [List.map_map]; rfl]
    constructor
    · intro hd
      obtain ⟨k, hk, rfl⟩ := List.mem_map.mp hd
      exact List.mem_map.mpr ⟨k, of_decide_eq_true ((hm k).mpr hk), rfl⟩
    · intro hd
      obtain ⟨k, hk, rfl⟩ := List.mem_map.mp hd
      exact List.mem_map.mpr ⟨k, (hm k).mp (decide_eq_true hk), rfl⟩
theorem set_tups_out {P : Program} {w : World} {h : Heap} {a : Addr} {ks M : List (Addr × List Int)} {es : Array (Int × Value)} {ep : Nat} {t : SetTable} (R : SetTR P w h a M es ep t) (g : Got ks ks.length M) (hk : ∀ p ∈ ks, At H L (.ref p.1) (.tuple (p.2.map .int))) :
    ∃ us, SetW w h a es ep t ∧ PySem.W.EachIs (AtE H L) (es.toList.map (·.2)) us ∧ us.Nodup ∧ ∀ d, d ∈ us ↔ d ∈ ks.map (fun p => PyData.tuple (p.2.map .int)) := by
  have sub : ∀ p ∈ M, p ∈ ks := fun p hp => List.mem_of_mem_take (g.sub p hp)
  have inj : ∀ a b : List Int, (PyData.tuple (a.map .int)) = .tuple (b.map .int) → a = b := fun a b e => by
    injection e with e
    exact (List.map_inj_right fun x y z => by injection z).mp e
  refine ⟨M.map fun p => .tuple (p.2.map .int), setTR_w R, ?_, ?_, fun d => ?_⟩
  · rw [R.rows]
    unfold rowsOf
    rw [List.map_map]
    clear R g
    induction M with
    | nil => exact .nil
    | cons p M ih => exact .cons ⟨.ref p.1, rfl, hk p (sub p List.mem_cons_self)⟩ (ih fun q hq => sub q (List.mem_cons_of_mem _ hq))
  · have q := R.nd
    rw [show (M.map fun p => PyData.tuple (p.2.map .int)) = (M.map (·.2)).map fun n => PyData.tuple (n.map .int) by rw [List.map_map]; rfl]
    exact List.pairwise_map.mpr (q.imp fun hne e => hne (inj _ _ e))
  · constructor
    · intro hd
      obtain ⟨p, hp, rfl⟩ := List.mem_map.mp hd
      exact List.mem_map.mpr ⟨p, sub p hp, rfl⟩
    · intro hd
      obtain ⟨p, hp, rfl⟩ := List.mem_map.mp hd
      obtain ⟨q, hq, e⟩ := List.mem_map.mp (g.all p (by rw [List.take_length]; exact hp))
      exact List.mem_map.mpr ⟨q, hq, by rw [e]⟩
open Classical in
theorem call_set_data {A : Around} {E : Value → Shared → Prop} {v : V} {u : Value} {ds : List PyData} {Q : Value → Shared → Prop} (I : Inv X pins σ H s) (hh : A.handled = none) (hu : A.units + 100 < cLine) (hv : Vw X.K H L v (.list ds) ∨ Vw X.K H L v (.tuple ds)) (r : RelV v u) (hb : setB ds = true)
    (h : ∀ h' tk a es ep t us, (∀ b o, s.heap.get? b = some o → h'.get? b = some o) → SetW X.w h' a es ep t → PySem.W.EachIs (AtE H L) (es.toList.map (·.2)) us → us.Nodup → (∀ d, d ∈ us ↔ d ∈ ds) → Q (.ref a) { s with heap := h', toks := tk }) :
    wpAny (model X.prog X.w) A (call (.type "set") [u]) Q E s := by
  -- a list or a tuple: alike
  have both : ∃ (l : Addr) (its : List Value) (xs : List V), u = .ref l ∧ (s.heap.IsList l its.toArray ∨ s.heap.IsTuple l its.toArray) ∧ Vals xs its ∧ AtL H L xs ds := by
    rcases hv with hv | hv
    · obtain ⟨a, xs, its, rfl, rv, hl', h2, r2, _⟩ := hv.isList I
      cases r
      exact ⟨a, its, xs, rfl, .inl hl', rv, r2⟩
    · obtain ⟨a, xs, its, rfl, rv, hl', h2, r2, _⟩ := hv.isTup I
      cases r
      exact ⟨a, its, xs, rfl, .inr hl', rv, r2⟩
  obtain ⟨l, its, xs, rfl, hl, rv, ra⟩ := both
  have run : ∀ (J : Nat → Heap → Prop)
    (stab : ∀ i h h', J i h → (∀ o, h.get? s.heap.objs.size = some o → h'.get? s.heap.objs.size = some o) → (∀ b o, s.heap.get? b = some o → h'.get? b = some o) → J i h')
    (start : ∀ h', h'.get? s.heap.objs.size = some (newSet X.w) → (∀ b o, s.heap.get? b = some o → h'.get? b = some o) → J 0 h')
    (step : ∀ (A' : Around) (i : Nat) (v : Value) (s' : Shared) (Q' : Bool → Shared → Prop) (E' : Value → Shared → Prop), A'.units ≤ A.units + 3 → its.toArray[i]? = some v → J i s'.heap → (∀ b o, s.heap.get? b = some o → s'.heap.get? b = some o) →
      (∀ b h' tk, s'.toks ≤ tk → Heap.SameBut s.heap.objs.size s'.heap h' → J (i + 1) h' → Q' b { s' with heap := h', toks := tk }) → wpAny (model X.prog X.w) A' (setAdd s.heap.objs.size v) Q' E' s')
    (h : ∀ (h' : Heap) (tk : Nat), J its.length h' → (∀ b o, s.heap.get? b = some o → h'.get? b = some o) → Q (.ref s.heap.objs.size) { s with heap := h', toks := tk }), wpAny (model X.prog X.w) A (call (.type "set") [.ref l]) Q E s := by
    intro J stab start step h
    rcases hl with hl | hl
    · exact call_set_lst hh hl J stab start step fun h' tk hJ hk => h h' tk (by simpa using hJ) hk
    · exact call_set_tup hh hl J stab start step fun h' tk hJ hk => h h' tk (by simpa using hJ) hk
  have hS0 : s.heap.get? s.heap.objs.size = none := by
    cases q : s.heap.get? s.heap.objs.size with
    | none => rfl
    | some o => exact absurd (Heap.lt_size q) (Nat.lt_irrefl _)
  unfold setB at hb
  rw [Bool.or_eq_true, Bool.and_eq_true, Bool.and_eq_true] at hb
  have hlen : its.length = ds.length := by rw [← rv.length, ra.length]
  rcases hb with ⟨hb, hn⟩ | ⟨hb, hn⟩
  · obtain ⟨ks, rfl⟩ := keys_list hb
    have hn := of_decide_eq_true hn
    rw [List.length_map] at hlen hn
    have ex := at_keys ra
    subst ex
    refine run (fun i h => ∃ c, c ≤ i ∧ SetG X.w h s.heap.objs.size (fun j => decide (j ∈ ks.take i)) c) (fun i h h' ⟨c, hc, R⟩ k1 _ => ⟨c, hc, R.at k1⟩) (fun h' e _ => ⟨0, Nat.le_refl 0, (setG_new e).congr fun k => by simp⟩) (fun A' i v s' Q' E' hA hi ⟨c, hc, R⟩ hk hQ => ?_) fun h' tk ⟨c, hc, R⟩ hk => ?_
    · obtain ⟨k, hk1, hk2⟩ := vals_keys rv i v (by simpa using hi)
      have hik : i < ks.length := (List.getElem?_eq_some_iff.mp hk1).1
      unfold setAdd
      refine wpAny_holding (wpAny_bind ((mixKind X.prog X.w).pyHash (k := k) hk2 ?_))
      refine setG_add (s := { s' with toks := s'.toks + 1 }) hk2 R (by show c + 1 < 4096; omega) fun b h' hsb R2 => ?_
      refine hQ b h' _ (Nat.le_succ _) hsb ⟨_, ?_, R2.congr fun j => ?_⟩
      · split <;> omega
      · rw [List.take_add_one, hk1]
        simp [List.mem_append]
    · rw [hlen, List.take_length] at R
      obtain ⟨es, ep, t, us, W, e1, e2, e3⟩ := set_keys_out (H := H) (L := L) R
      exact h h' tk _ es ep t us hk W e1 e2 e3
  · obtain ⟨ns, rfl⟩ := ints_list hb
    have hn := of_decide_eq_true hn
    rw [List.length_map] at hlen hn
    obtain ⟨ks, rfl, rfl, hks⟩ := refs_ints ra rv
    rw [List.length_map] at hn hlen
    have hT : ∀ p ∈ ks, IsT X.prog X.w s.heap p.2 p.1 := fun p hp => I.isT (.of (hks p hp).2)
    refine run (fun i h => (∀ b o, s.heap.get? b = some o → h.get? b = some o) ∧ ∃ M es ep t, SetTR X.prog X.w h s.heap.objs.size M es ep t ∧ Got ks i M) (fun i h h' ⟨_, M, es, ep, t, R, g⟩ k1 k2 => ⟨k2, M, es, ep, t, R.keep k1 fun p hp => isT_keep (hT p (List.mem_of_mem_take (g.sub p hp))) k2, g⟩)
      (fun h' e k => ⟨k, [], #[], 0, _, setTR_fresh e, Got.zero ks⟩) (fun A' i v s' Q' E' hA hi ⟨_, M, es, ep, t, R, g⟩ hk hQ => ?_) fun h' tk ⟨_, M, es, ep, t, R, g⟩ hk => ?_
    · obtain ⟨p, hp, rfl⟩ : ∃ p, ks[i]? = some p ∧ v = .ref p.1 := by
        have q : (ks.map fun p => Value.ref p.1)[i]? = some v := by simpa using hi
        rw [List.getElem?_map] at q
        obtain ⟨p, e1, e2⟩ := Option.map_eq_some_iff.mp q
        exact ⟨p, e1, e2.symm⟩
      have hip : i < ks.length := (List.getElem?_eq_some_iff.mp hp).1
      have hx : IsT X.prog X.w s'.heap p.2 p.1 := isT_keep (hT p (List.mem_of_getElem? hp)) hk
      unfold setAdd
      refine wpAny_holding (wpAny_bind (wpAny_pyHash_tuple (by omega) hx ?_))
      refine add_at (s := { s' with toks := s'.toks + (p.2.length + 1) }) R hx (by omega) (by have := g.len; omega) fun b h' L' es' ep' t' hsb R2 c1 c2 => ?_
      refine hQ b h' _ (Nat.le_add_right _ _) hsb ⟨fun b o e => (hsb.2 b (fun z => by rw [z, hS0] at e; cases e)).trans (hk b o e), L', es', ep', t', R2, ?_⟩
      rcases Classical.em (p.2 ∈ M.map (·.2)) with c | c
      · rw [c1 c]; exact g.same hp c
      · exact g.more hp (c2 c)
    · rw [List.length_map] at g
      obtain ⟨us, W, e1, e2, e3⟩ := set_tups_out (H := H) (L := L) R g fun p hp => (hks p hp).1
      refine h h' tk _ es ep t us hk W e1 e2 fun d => ?_
      rw [e3 d, List.map_map]
      rfl
/-! sorted of a set -/
theorem each_and {α β : Type} {R R' : α → β → Prop} : ∀ {xs : List α} {ys : List β}, PySem.W.EachIs R xs ys → PySem.W.EachIs R' xs ys → PySem.W.EachIs (fun a b => R a b ∧ R' a b) xs ys
  | _, _, .nil, _ => .nil
  | _, _, .cons a b, h => by
    cases h with
    | cons a' b' => exact .cons ⟨a, a'⟩ (each_and b b')
open PySem.W PySem.Calls PyProof.Rows in
theorem sorted_setD {A : Around} {E : Value → Shared → Prop} {prog : Program} {w : World} {s : Shared} {a : Addr} {es : Array (Int × Value)} {ep : Nat} {t : SetTable} {R : Value → PyData → Prop} {us : List PyData} {Q : Value → Shared → Prop} (W : SetW w s.heap a es ep t) (hh : A.handled = none)
    (e : EachIs R (es.toList.map (·.2)) us) (er : EachIs (fun v d => ∃ as, Reads s.heap v d as) (es.toList.map (·.2)) us) (hal : AllAlike us) (hk : Srt us) (hL : us.length ≤ sizeLine) (hu : ∀ b, b ∈ us → A.units + 2 + b.depth < cLine)
    (h : ∀ s' p c out rs, (∀ b o, s.heap.get? b = some o → s'.heap.get? b = some o) → s'.gens = s.gens → s'.os = s.os → s.heap.objs.size ≤ p → s'.heap.get? p = some (seqObj "list" (List.toArray out) c) → out.length = us.length → rs.Perm us → rs.Pairwise (fun a b => dle a b = true) → EachIs R out rs → Q (.ref p) s') :
    wpAny (model prog w) A (call (.builtin "sorted") [.ref a]) Q E s := by
  obtain ⟨o, ho, hex, hd⟩ := W.ob
  refine Calls.call_function_entry kind_sorted plain_sorted entry_sorted (args_sorted1 _) ?_
  unfold Builtin.«sorted»
  refine wpAny_bind (m := checkCount "sorted" 1 1 _) (wpAny_pure ?_)
  refine wpAny_bind (collect_set (A := A.in1) hh ⟨o, ho, hex.1, hd⟩ W.fits W.few W.ris W.led fun s1 vs k1 hz g1 o1 pm => ?_)
  -- both relations at once
  have e2 : EachIs (fun v d => R v d ∧ ∃ as, Reads s.heap v d as) (es.toList.map (·.2)) us := each_and e er
  obtain ⟨us', pu, e3⟩ := each_perm pm e2
  have hlv : vs.length = us.length := by rw [e3.length, pu.length_eq]
  refine wpAny_bind (wpAny_newList ?_ (by rw [hlv]; exact hL))
  have hD : (s1.heap.push (seqObj "list" vs.toArray 0)).get? s1.heap.objs.size = some (seqObj "list" vs.toArray 0) := Heap.get?_push_size _ rfl
  have hold : ∀ b o, s.heap.get? b = some o → b ≠ s1.heap.objs.size := fun b o q => Nat.ne_of_lt (Heap.lt_size (k1 b o q))
  have er' : EachIs (fun v b => ∃ as, Reads (sortingHeap (s1.heap.push (seqObj "list" vs.toArray 0)) s1.heap.objs.size vs) v b as) vs us' := e3.mono fun _ _ ⟨_, as, r⟩ => ⟨as, PyProof.Rows.Reads.keeps (fun b o q => sortingHeap_old (hold b o q) (Heap.get?_push_of_some _ (k1 b o q))) r⟩
  have hal' : AllAlike us' := fun d hd d' hd' => hal d (pu.mem_iff.mp hd) d' (pu.mem_iff.mp hd')
  have hk' : Srt us' := hk.imp (fun q d hd => q d (pu.mem_iff.mp hd)) fun q d hd => q d (pu.mem_iff.mp hd)
  refine wpAny_bind (wpAny_holding (wpAny_call_entry slot_list_sort ⟨_, hD, rfl⟩ entry_list_sort ?body (args_list_sort _)))
  case body =>
    refine list_sort_vals (s := { s1 with heap := s1.heap.push (seqObj "list" vs.toArray 0) }) (κ := dataKind (sortingHeap (s1.heap.push (seqObj "list" vs.toArray 0)) s1.heap.objs.size vs) us') hD
      (srt_at (s := { s1 with heap := sortingHeap (s1.heap.push (seqObj "list" vs.toArray 0)) s1.heap.objs.size vs }) er' hal' hk' fun d hd => by exact hu d (pu.mem_iff.mp hd)) (by rw [hlv]; exact hL) ⟨.none, rfl, ?_⟩
    obtain ⟨c, hc2⟩ := sortedHeap_at (out := (sortVals (dataKind (sortingHeap (s1.heap.push (seqObj "list" vs.toArray 0)) s1.heap.objs.size vs) us') false vs vs).toArray) hD
    have sv := sortVals_data (enc := id) false (e3.mono fun _ _ q => q.1) (by simpa using er')
    simp only [List.map_id_fun, id] at sv
    refine wpAny_pure ⟨_, rfl, h _ s1.heap.objs.size c (sortVals _ false vs vs) (us'.mergeSort dle) (fun b o q => ?_) g1 o1 hz hc2 (by rw [sortVals_length false rfl]; exact hlv) ((List.mergeSort_perm _ _).trans pu) (msort_sorted us') (sv hal')⟩
    show (sortedHeap (s1.heap.push (seqObj "list" vs.toArray 0)) s1.heap.objs.size vs _).get? b = some o
    rw [sortedHeap_old (hold b o q) (by rw [size_push']; exact Nat.lt_succ_of_lt (Heap.lt_size (k1 b o q)))]
    exact Heap.get?_push_of_some _ (k1 b o q)
theorem nodup_strict : ∀ {rs : List PyData}, rs.Pairwise (fun a b => dle a b = true) → rs.Nodup → (∀ x ∈ rs, ∀ y ∈ rs, PySem.W.alike x y = true) → (∀ x ∈ rs, ∀ y ∈ rs, PyData.eqv x y = true → x = y) → rs.Pairwise fun a b => dlt a b = true
  | [], _, _, _, _ => List.Pairwise.nil
  | x :: rs, h1, h2, h3, h4 => by
    obtain ⟨a1, a2⟩ := List.pairwise_cons.mp h1
    obtain ⟨b1, b2⟩ := List.nodup_cons.mp h2
    refine List.pairwise_cons.mpr ⟨fun y hy => ?_, nodup_strict a2 b2 (fun x hx y hy => h3 x (List.mem_cons_of_mem _ hx) y (List.mem_cons_of_mem _ hy)) fun x hx y hy => h4 x (List.mem_cons_of_mem _ hx) y (List.mem_cons_of_mem _ hy)⟩
    cases q : dlt x y with
    | true => rfl
    | false =>
      have w := a1 y hy
      rw [dle_def] at w
      have e := h4 x List.mem_cons_self y (List.mem_cons_of_mem _ hy) (dlt_tri (h3 x List.mem_cons_self y (List.mem_cons_of_mem _ hy)) q (by simpa using w))
      exact absurd (e ▸ hy) b1
theorem same_len {α : Type} {xs ys : List α} (h1 : xs.Nodup) (h2 : ys.Nodup) (h : ∀ a, a ∈ xs ↔ a ∈ ys) : xs.length = ys.length := ((List.perm_ext_iff_of_nodup h1 h2).mpr h).length_eq
theorem usort_nodup {ds : List PyData} (h : ∀ x ∈ ds, ∀ y ∈ ds, PySem.W.alike x y = true) : (usort ds).Nodup := (usort_strict h).imp fun {a b} q e => by
  subst e
  rw [dlt_irrefl] at q
  cases q
/-! the rules -/
def tCC (r : List V → Hp → VK → Prop) (ta : TE) : TE := fun σ H Q => ta σ H fun x H1 => r [x] H1 Q
variable {a : Expr} {ta : TE} {p p2 q pos : Pos}
theorem pe_soSet (hc : X.calm = true) (hu : X.A.units + 200 < cLine) (hg : Gl X "sorted") (hm : X.mg "sorted" = none) (hg2 : Gl X "set") (hm2 : X.mg "set" = none) (ha : PE X a ta) (na : starEach [a] X.env = (false, eval a X.env) :: starEach [] X.env) :
    PE X (.Call (.Name "sorted" p) [.Call (.Name "set" p2) [a] [] q] [] pos) (tCC (rCL X.K soSetL) ta) := by
  refine ⟨fun pins s σ H Q I h => ?_⟩
  refine Call_ (ld_blt I hg hm PyProof.Rows.boot_sorted ?_)
  refine PyProof.Rows.callWith_builtin1 (PyProof.Rows.args_cons ?_ rfl) rfl rfl
  refine Call_ (ld_blt I hg2 hm2 PyProof.Rows.boot_set ?_)
  refine PyProof.Rows.callWith_type1 (PyProof.Rows.args_cons (thn (ha.run pins s σ H _ I h) fun v s1 ⟨x, H1, I1, r1, q1⟩ => PyProof.Rows.args_nil ?_) na) na rfl
  obtain ⟨L, ds, rs, hl, hv, e, qq⟩ := q1
  obtain ⟨xs, hx, hb, hs, rfl⟩ := soSet_inv e
  have hv' : Vw X.K H1 L x (.list xs) ∨ Vw X.K H1 L x (.tuple xs) := by
    rcases hx with rfl | rfl
    · obtain ⟨v, e1, h1⟩ := hv.one; cases e1; exact .inl h1
    · obtain ⟨v, e1, h1⟩ := hv.one; cases e1; exact .inr h1
  obtain ⟨f1, al, so⟩ := sortB_ok hs
  refine call_set_data (L := L) I1 (I1.ok.hd hc) (by omega) hv' r1 hb fun h' tk b es ep t us k W e1 e2 e3 => PyProof.Rows.args_nil ?_
  have I2 : Inv X pins σ H1 { s1 with heap := h', toks := tk } := I1.kept k
  have hp := setB_pure hb
  have sub : ∀ d, d ∈ us → d ∈ xs := fun d hd => (e3 d).mp hd
  have hlu : us.length ≤ sizeLine := by
    have h1 : us.length = (usort xs).length := same_len e2 (usort_nodup al) fun d => (e3 d).trans (usort_mem hp d).symm
    have h2 : es.size = us.length := by rw [← e1.length, List.length_map, Array.length_toList]
    have h3 : es.size < 4096 := W.few
    rw [sizeLine_eq]
    omega
  have fitu : us.all fit = true := List.all_eq_true.mpr fun d hd => List.all_eq_true.mp f1 d (sub d hd)
  have er : PySem.W.EachIs (fun v d => ∃ as, Reads h' v d as) (es.toList.map (·.2)) us := by
    clear e2 e3 hlu
    generalize es.toList.map (·.2) = vs at e1
    induction e1 with
    | nil => exact .nil
    | @cons v d vs ds r t ih =>
      rw [List.all_cons, Bool.and_eq_true] at fitu
      obtain ⟨x, rx, ax⟩ := r
      exact .cons (Dp.reads I2 d x v (ax.dp d (fitN_ok 20 d fitu.1).1) rx) (ih (fun d hd => sub d (List.mem_cons_of_mem _ hd)) fitu.2)
  refine sorted_setD (s := { s1 with heap := h', toks := tk }) W (I1.ok.hd hc) e1 er (fun d hd d' hd' => al d (sub d hd) d' (sub d' hd')) (so.imp (fun q d hd => q d (sub d hd)) fun q d hd => q d (sub d hd)) hlu (fun d hd => ?_) fun s' p c out rs k' g o hpz hc2 hlen pm srt eo => ?_
  · have := (fitN_ok 20 d (List.all_eq_true.mp fitu d hd)).2
    show X.A.units + 2 + d.depth < cLine
    omega
  · obtain ⟨ys, rv', r'⟩ := at_of_each eo
    have hz : ys.length ≤ sizeLine := by rw [rv'.length, hlen]; exact hlu
    have hn : H1 p = none := I2.hok.fresh hpz
    have hrs : rs = usort xs := (usort_of (nodup_strict srt (pm.nodup_iff.mpr e2) (fun x hx y hy => al x (sub x (pm.mem_iff.mp hx)) y (sub y (pm.mem_iff.mp hy))) fun x hx y hy => hp x (sub x (pm.mem_iff.mp hx)) y (sub y (pm.mem_iff.mp hy))) (fun d => pm.mem_iff.trans (e3 d)) hp al).symm
    have J : Inv X pins σ (upd H1 p (.lst ys)) { { s1 with heap := h', toks := tk } with heap := s'.heap, gens := s'.gens, drawn := s'.drawn, toks := s'.toks } :=
      I2.call (ch := []) (Un.laid k' hpz hn) (I2.hok.laid k' hpz ⟨hz, out, c, rv', hc2⟩) (by rw [g]; exact I2.bare) (fun _ z => nomatch z)
    have es' : s' = { { s1 with heap := h', toks := tk } with heap := s'.heap, gens := s'.gens, drawn := s'.drawn, toks := s'.toks } := by
      cases s'
      cases s1
      cases o
      rfl
    rw [es']
    exact ⟨.ref p, _, J, rfl, qq p ys _ hn (upd_grow hn) upd_same (hrs ▸ r')⟩
theorem pe_leSet (hc : X.calm = true) (hu : X.A.units + 200 < cLine) (hg : Gl X "len") (hm : X.mg "len" = none) (hg2 : Gl X "set") (hm2 : X.mg "set" = none) (ha : PE X a ta) (na : starEach [a] X.env = (false, eval a X.env) :: starEach [] X.env) :
    PE X (.Call (.Name "len" p) [.Call (.Name "set" p2) [a] [] q] [] pos) (tCC (rCD X.K leSetD) ta) := by
  refine ⟨fun pins s σ H Q I h => ?_⟩
  refine Call_ (ld_blt I hg hm PySem.boot_len ?_)
  refine PyProof.Rows.callWith_builtin1 (PyProof.Rows.args_cons ?_ rfl) rfl rfl
  refine Call_ (ld_blt I hg2 hm2 PyProof.Rows.boot_set ?_)
  refine PyProof.Rows.callWith_type1 (PyProof.Rows.args_cons (thn (ha.run pins s σ H _ I h) fun v s1 ⟨x, H1, I1, r1, q1⟩ => PyProof.Rows.args_nil ?_) na) na rfl
  obtain ⟨L, ds, rs, hl, hv, e, qq⟩ := q1
  obtain ⟨xs, hx, hb, hs, rfl⟩ := leSet_inv e
  have hv' : Vw X.K H1 L x (.list xs) ∨ Vw X.K H1 L x (.tuple xs) := by
    rcases hx with rfl | rfl
    · obtain ⟨v, e1, h1⟩ := hv.one; cases e1; exact .inl h1
    · obtain ⟨v, e1, h1⟩ := hv.one; cases e1; exact .inr h1
  have al := (alikeB_ok hs).1
  refine call_set_data (L := L) I1 (I1.ok.hd hc) (by omega) hv' r1 hb fun h' tk b es ep t us k W e1 e2 e3 => PyProof.Rows.args_nil ?_
  have I2 : Inv X pins σ H1 { s1 with heap := h', toks := tk } := I1.kept k
  have h1 : us.length = (usort xs).length := same_len e2 (usort_nodup al) fun d => (e3 d).trans (usort_mem (setB_pure hb) d).symm
  have h2 : es.size = us.length := by rw [← e1.length, List.length_map, Array.length_toList]
  have h3 : es.size < 4096 := W.few
  obtain ⟨o, ho, hex, hd⟩ := W.ob
  exact call_len_set (s := { s1 with heap := h', toks := tk }) ho hex hd W.fits (by omega) ⟨.int (usort xs).length, H1, I2.tok _, ⟨_, by rw [h2, h1]⟩, qq _ _ (fun _ _ z => z) (.int _)⟩
end
end DL
namespace DL
open PySem PySem.Spec L2 HT
open PyProof.Rows hiding St
section
variable {c : Cxt} {a b : Expr} {fa : Ev} {pos p p2 q p1 p3 : Pos}
theorem InC.un2 {X : Cx} (h : InC c X) : X.A.units + 200 < cLine := by have := h.room.un; omega
theorem so_set (hm : c.mg "sorted" = none) (hm2 : c.mg "set" = none) (ha : DE c a fa) (hg : c.sc.names.lookup ("sorted" : Str) = some .globalImplicit := by rfl) (hg2 : c.sc.names.lookup ("set" : Str) = some .globalImplicit := by rfl) (hst : noStar [a] = true := by rfl) :
    DLs c (.Call (.Name "sorted" p) [.Call (.Name "set" p2) [a] [] q] [] pos) (lSet fa) := by
  obtain ⟨ta, pa, va⟩ := ha
  refine ⟨tCC (rCL c.K soSetL) ta, fun X hX => by
    have h := pe_soSet (p := p) (p2 := p2) (q := q) (pos := pos) hX.calm hX.un2 (show Gl X "sorted" by show X.env.scope.names.lookup _ = _; rw [hX.sc]; exact hg) (by rw [hX.mg]; exact hm) (show Gl X "set" by show X.env.scope.names.lookup _ = _; rw [hX.sc]; exact hg2) (by rw [hX.mg]; exact hm2) (pa X hX) (star_cons hst)
    rw [hX.K] at h
    exact h, fun Lf adr S σ H ρ ds S' Q I e w => ?_⟩
  unfold lSet at e
  simp only [Option.bind_eq_some_iff] at e
  obtain ⟨⟨x, S1⟩, e1, m, e2, r, e3, e4⟩ := e
  cases e4
  refine va Lf adr S σ H ρ _ _ _ I e1 fun v adr1 H1 x1 s1 r1 => ?_
  exact ⟨_, [m], _, fun z => s1.lvv, .cons (vw_ok s1 r1 e2) .nil, e3, wi_grL s1 (w.trans x1)⟩
theorem le_set (hm : c.mg "len" = none) (hm2 : c.mg "set" = none) (ha : DE c a fa) (hg : c.sc.names.lookup ("len" : Str) = some .globalImplicit := by rfl) (hg2 : c.sc.names.lookup ("set" : Str) = some .globalImplicit := by rfl) (hst : noStar [a] = true := by rfl) :
    DE c (.Call (.Name "len" p) [.Call (.Name "set" p2) [a] [] q] [] pos) (eLset fa) := by
  obtain ⟨ta, pa, va⟩ := ha
  refine ⟨tCC (rCD c.K leSetD) ta, fun X hX => by
    have h := pe_leSet (p := p) (p2 := p2) (q := q) (pos := pos) hX.calm hX.un2 (show Gl X "len" by show X.env.scope.names.lookup _ = _; rw [hX.sc]; exact hg) (by rw [hX.mg]; exact hm) (show Gl X "set" by show X.env.scope.names.lookup _ = _; rw [hX.sc]; exact hg2) (by rw [hX.mg]; exact hm2) (pa X hX) (star_cons hst)
    rw [hX.K] at h
    exact h, fun Lf adr S σ H ρ ds S' Q I e w => ?_⟩
  unfold eLset at e
  simp only [Option.bind_eq_some_iff] at e
  obtain ⟨⟨x, S1⟩, e1, m, e2, r, e3, e4⟩ := e
  cases e4
  refine va Lf adr S σ H ρ _ _ _ I e1 fun v adr1 H1 x1 s1 r1 => ?_
  exact ⟨_, [m], _, fun z => s1.lvv, .cons (vw_ok s1 r1 e2) .nil, e3, wi_gr s1 (w.trans x1)⟩
end
end DL
namespace DL
open PySem PySem.Spec L2
open PyProof.Rows hiding St
/-! ### y = [x.pop(0)], x and y own lists -/
theorem hm_popAt {X : Cx} : MtR X "list.pop" rPopAt := mt_popAt
theorem lfN_set {e : En} {σ : L2.St} {ρ : Env'} {i : Nat} {m m' : PyData} (h1 : ρ[i]? = some (some (D.o m))) : LfN e σ (ρ.set i (some (.o m'))) = LfN e σ ρ := by
  have hl : i < ρ.length := (List.getElem?_eq_some_iff.mp h1).1
  refine funext fun a => propext (or_congr Iff.rfl ⟨?_, ?_⟩)
  · rintro ⟨j, m2, q1, q2⟩
    by_cases hj : j = i
    · subst hj; exact ⟨j, m, h1, q2⟩
    · rw [List.getElem?_set_ne (Ne.symm hj)] at q1; exact ⟨j, m2, q1, q2⟩
  · rintro ⟨j, m2, q1, q2⟩
    by_cases hj : j = i
    · subst hj; exact ⟨j, m', List.getElem?_set_self hl, q2⟩
    · exact ⟨j, m2, by rw [List.getElem?_set_ne (Ne.symm hj)]; exact q1, q2⟩
def sPopL (j i : Nat) : Sv := fun ρ S => match ρ[i]? with
  | some (some (.o (.list (d :: ds)))) => if j < ρ.length then some (.nx ((ρ.set i (some (.o (.list ds)))).set j (some (.o (.list [d])))) S) else none
  | _ => none
section
variable {c : Cxt} {pos : Pos}
theorem sv_popL {j i : Nat} : SvOk c (tAsg (tLst (tCons (tBM c.K "list" rPopAt (tVar i) (tCons (tC (.int 0)) tNil)) tNil)) (gName j)) (sPopL j i) := fun e adr S σ H ρ o D I h w => by
  unfold sPopL at h
  split at h
  · rename_i d ds hi
    split at h
    · rename_i hl
      cases h
      obtain ⟨v, h1, a, rfl, l, ob⟩ := I.eok.slot i _ hi
      obtain ⟨xs, hx, r⟩ := ob
      cases r with
      | cons r1 r2 =>
        rename_i y ys
        refine ⟨_, h1, .inl ⟨rfl, _, .of hx⟩, ?_⟩
        refine ⟨a, y :: ys, 0, 0, y, rfl, rfl, hx, by decide, by decide, ?_, rfl, ?_⟩
        · unfold seqIndex?
          simp
        · have hL : Lvv (LfN e σ ρ) adr S a := .inl (.inr ⟨i, _, hi, h1⟩)
          have ob' : Ob (L2.upd H a (.lst ys)) (Lvv (LfN e σ ρ) adr S) a (.list ds) := ⟨ys, upd_same, r2.tr (tr_upd hL)⟩
          have I1 := I.upd hi h1 ob'
          have ry : AtL (L2.upd H a (.lst ys)) (Lvv (LfN e σ (ρ.set i (some (.o (.list ds))))) adr S) [y] [d] := by
            rw [lfN_set hi]
            exact (AtL.cons r1 .nil).tr (tr_upd hL)
          refine ⟨by show (1 : Nat) ≤ sizeLine; rw [sizeLine_eq]; omega, fun p hp => ?_⟩
          refine wi_grL (r := [d]) (Q := fun x H1 => gName j x σ H1 D.nx) I1.eok.sto (fun p ws adr' H' x s hp hw r => ?_) p [y] _ hp (upd_grow hp) upd_same ry
          exact w adr' _ H' (I1.own x s hp ⟨ws, hw, r⟩ (by rw [List.length_set]; exact hl))
    · cases h
  · cases h
theorem ds_popL {j i : Nat} {x y : Str} {a : Expr} {p q apos cpos ipos lpos : Pos} {k : Nat} (hN : c.N.Nodup) (hj : c.N[j]? = some y) (hy : Loc c.sc y) (hf : c.fn y = true ∨ c.sc.names.lookup y = some .local)
    (hi : c.N[i]? = some x) (hv : Vis c.sc x) (hd : (x == ("__debug__" : Str)) = false) (hcd : (x == ("__classdict__" : Str)) = false)
    (hbase : ∀ X, InC c X → attributeBase (.Name x p) "pop" X.env (eval (.Name x p) X.env) = eval (.Name x p) X.env)
    (hfew : ∀ X, InC c X → ((backTo cpos (starEach [.Constant (.int 0) k ipos] X.env)).all (fun x => !x.1) && (backToKw cpos (keywordEach [] X.env)).all (fun x => x.1.isSome)
      && decide ([Expr.Constant (.int 0) k ipos].length + ([] : List Keyword).length + (if ([] : List Keyword).isEmpty then 0 else 1) < 30)) = true)
    (hline : (apos.endLine == cpos.line) = true)
    (hs : ∀ X, InC c X → swapsWith (.List [.Call (.Attribute (.Name x p) "pop" apos) [.Constant (.int 0) k ipos] [] cpos] lpos) (some (.Name y q)) pos.line X.env = pure false) :
    DS c (.Assign [.Name y q] (.List [.Call (.Attribute (.Name x p) "pop" apos) [.Constant (.int 0) k ipos] [] cpos] lpos) pos) (sPopL j i) :=
  ⟨_, fun X hX => ps_set (by rw [hX.N]; exact hN) (by rw [hX.N]; exact hj) (by rw [hX.sc]; exact hy) (by
    have h := pe_bm (cpos := cpos) (apos := apos) PySem.F.plainAttrs_list PySem.F.slot_list_pop PySem.F.type_list_pop (hm_popAt (X := X)) (pe_var (pos := p) (i := i) (by rw [hX.N]; exact hi) (by rw [hX.sc]; exact hv) hd hcd) (pa_cons (pe_int (i := 0) (j := k) (pos := ipos)) pa_nil rfl) (hbase X hX) (hfew X hX) hline rfl rfl
    rw [hX.K] at h
    exact pe_lst (pos := lpos) (pa_cons h pa_nil rfl)) (hs X hX) (by rw [hX.fn, hX.sc]; exact hf), sv_popL⟩
theorem popL (j i : Nat) {x y : Str} {p q apos cpos ipos lpos : Pos} {k : Nat} (hN : c.N.Nodup) (hj : c.N[j]? = some y := by rfl) (hy : Loc c.sc y := by first | exact Or.inl rfl | exact Or.inr rfl) (hf : c.fn y = true ∨ c.sc.names.lookup y = some .local := by first | exact Or.inl rfl | exact Or.inr rfl)
    (hi : c.N[i]? = some x := by rfl) (hv : Vis c.sc x := by first | exact Or.inl rfl | exact Or.inr (Or.inl rfl) | exact Or.inr (Or.inr rfl)) (hd : (x == ("__debug__" : Str)) = false := by decide) (hcd : (x == ("__classdict__" : Str)) = false := by decide)
    (hbase : ∀ X, InC c X → attributeBase (.Name x p) "pop" X.env (eval (.Name x p) X.env) = eval (.Name x p) X.env := by exact fun _ _ => rfl)
    (hfew : ∀ X, InC c X → ((backTo cpos (starEach [.Constant (.int 0) k ipos] X.env)).all (fun x => !x.1) && (backToKw cpos (keywordEach [] X.env)).all (fun x => x.1.isSome)
      && decide ([Expr.Constant (.int 0) k ipos].length + ([] : List Keyword).length + (if ([] : List Keyword).isEmpty then 0 else 1) < 30)) = true := by exact fun _ _ => rfl)
    (hline : (apos.endLine == cpos.line) = true := by rfl)
    (hs : ∀ X, InC c X → swapsWith (.List [.Call (.Attribute (.Name x p) "pop" apos) [.Constant (.int 0) k ipos] [] cpos] lpos) (some (.Name y q)) pos.line X.env = pure false := by exact fun _ _ => rfl) :
    DS c (.Assign [.Name y q] (.List [.Call (.Attribute (.Name x p) "pop" apos) [.Constant (.int 0) k ipos] [] cpos] lpos) pos) (sPopL j i) := ds_popL (a := .List [] lpos) hN hj hy hf hi hv hd hcd hbase hfew hline hs
def popLw (ρ : Env') (S : Sto) (j : Nat) (i : Nat) (m : PyData) : Option Out := match m with
  | .list (d :: ds) => if j < ρ.length then some (.nx ((ρ.set i (some (.o (.list ds)))).set j (some (.o (.list [d])))) S) else none
  | _ => none
@[simp] theorem w_popLw {ρ : Env'} {S : Sto} {j i : Nat} {d : PyData} {ds : List PyData} {Q : Out → Prop} : W (popLw ρ S j i (.list (d :: ds))) Q = (j < ρ.length ∧ Q (.nx ((ρ.set i (some (.o (.list ds)))).set j (some (.o (.list [d])))) S)) := W_req
@[simp ↓] theorem w_popL {ρ : Env'} {S : Sto} {Q : Out → Prop} {j i : Nat} : W (sPopL j i ρ S) Q = (match ρ[i]? with
  | some (some (.o m)) => W (popLw ρ S j i m) Q
  | _ => False) := by
  unfold sPopL popLw
  split
  · rename_i e; rw [e]
  · rename_i n
    split
    · rename_i m e
      split
      · exact absurd e (n _ _)
      · rfl
    · exact W_none
end
end DL
namespace DL
open PySem PySem.Spec L2
open PyProof.Rows hiding St
/-! _law_steps -/
noncomputable def b__law_steps : Sv := sRet (e2 addD (eB absD (aCons (e2 subD (e2 ixD (e2 ixD (eVar 0) (eC (.int 0))) (eC (.int 0))) (e2 ixD (e2 ixD (eVar 1) (eC (.int 0))) (eC (.int 0)))) (aNil))) (eB absD (aCons (e2 subD (e2 ixD (e2 ixD (eVar 0) (eC (.int 0))) (eC (.int 1))) (e2 ixD (e2 ixD (eVar 1) (eC (.int 0))) (eC (.int 1)))) (aNil))))
noncomputable def f__law_steps := runP 2 2 b__law_steps
/-! _law_clusters -/
noncomputable def b__law_clusters : Sv := sSeq (sAsg (eL (lComp [4] (iPO (eVar 0)) (gN 4) (tYes) (eL (lDisp (aCons (eVar 4) (aNil)))))) (gN 3)) (sSeq (sFor [4, 5, 6] (iP (eVar 0)) (gN 4) (sFor [5, 6] (iP (eVar 0)) (gN 5) (sIf (tAnd (tB (e2 leD (eCP f__law_steps (aCons (eVar 4) (aCons (eVar 5) (aNil)))) (eVar 1))) (tB (e2 leD (eB absD (aCons (e2 subD (e2 ixD (eVar 4) (eC (.int 1))) (e2 ixD (eVar 5) (eC (.int 1)))) (aNil))) (eVar 2)))) (sSeq (sAsg (eL (lComp [7] (iPO (eVar 3)) (gN 7) (tOr (tB (e2 inD (eVar 4) (eVar 7))) (tB (e2 inD (eVar 5) (eVar 7)))) (eVar 7))) (gN 6)) (sIf (tB (e2 eqD (eB lenD (aCons (eVar 6) (aNil))) (eC (.int 2)))) (sAsg (eL (lE2 addL (eL (lComp [7] (iPO (eVar 3)) (gN 7) (tB (e2 notInD (eVar 7) (eVar 6))) (eVar 7))) (eL (lDisp (aCons (eL (lE2 addL (e2 ixD (eVar 6) (eC (.int 0))) (e2 ixD (eVar 6) (eC (.int 1))))) (aNil)))))) (gN 3)) (sNx))) (sNx)))) (sRet (eB tupleD (aCons (eL (lB sortedL (aCons (eL (lComp [7] (iPO (eVar 3)) (gN 7) (tYes) (eB tupleD (aCons (eL (lB sortedL (aCons (eVar 7) (aNil)))) (aNil))))) (aNil)))) (aNil)))))
noncomputable def f__law_clusters := runP 3 8 b__law_clusters
/-! are_near -/
noncomputable def b_are_near : Sv := sSeq (sAsg (eTup (aCons (e2 ixD (eVar 0) (eC (.int 0))) (aCons (e2 ixD (eVar 1) (eC (.int 0))) (aNil)))) (gT (gCons (gT (gCons (gN 4) (gCons (gN 5) (gNil)))) (gCons (gT (gCons (gN 6) (gCons (gN 7) (gNil)))) (gNil))))) (sRet (eAnd (e2 leD (e2 addD (eB absD (aCons (e2 subD (eVar 4) (eVar 6)) (aNil))) (eB absD (aCons (e2 subD (eVar 5) (eVar 7)) (aNil)))) (eVar 2)) (e2 leD (eB absD (aCons (e2 subD (e2 ixD (eVar 0) (eC (.int 1))) (e2 ixD (eVar 1) (eC (.int 1)))) (aNil))) (eVar 3))))
noncomputable def f_are_near := runP 4 8 b_are_near
/-! clusters -/
noncomputable def b_clusters : Sv := sSeq (sOwn 3 (lB sortedL (aCons (eVar 0) (aNil)))) (sSeq (sOwn 4 (lDisp (aNil))) (sSeq (sWh [5, 6, 7] (tB (e2 neD (eVar 3) (eL (lDisp (aNil))))) (sSeq (sPopL 5 3) (sSeq (sAsg (eC (.int 0)) (gN 6)) (sSeq (sWh [7] (tB (e2 ltD (eVar 6) (eB lenD (aCons (eVar 5) (aNil))))) (sSeq (sAsg (eL (lComp [8] (iPO (eVar 3)) (gN 8) (tTr (eCP f_are_near (aCons (e2 ixD (eVar 5) (eVar 6)) (aCons (eVar 8) (aCons (eVar 1) (aCons (eVar 2) (aNil))))))) (eVar 8))) (gN 7)) (sSeq (sOwn 3 (lComp [8] (iPO (eVar 3)) (gN 8) (tB (e2 notInD (eVar 8) (eVar 7))) (eVar 8))) (sSeq (sMut extD 5 (eVar 7)) (sAug addI 6 (eC (.int 1))))))) (sMut appD 4 (eB tupleD (aCons (eL (lB sortedL (aCons (eVar 5) (aNil)))) (aNil)))))))) (sRet (eB tupleD (aCons (eL (lB sortedL (aCons (eVar 4) (aNil)))) (aNil))))))
noncomputable def f_clusters := runP 3 9 b_clusters
/-! all_steps -/
noncomputable def b_all_steps : Sv := sSeq (sOwn 1 (lDisp (aCons (eC (.int 0)) (aNil)))) (sSeq (sFor [2] (iP (eVar 0)) (gN 2) (sMut extD 1 (eL (lComp [3] (iPO (eVar 0)) (gN 3) (tYes) (e2 addD (eB absD (aCons (e2 subD (e2 ixD (e2 ixD (eVar 2) (eC (.int 0))) (eC (.int 0))) (e2 ixD (e2 ixD (eVar 3) (eC (.int 0))) (eC (.int 0)))) (aNil))) (eB absD (aCons (e2 subD (e2 ixD (e2 ixD (eVar 2) (eC (.int 0))) (eC (.int 1))) (e2 ixD (e2 ixD (eVar 3) (eC (.int 0))) (eC (.int 1)))) (aNil)))))))) (sRet (eL (lSet (eVar 1)))))
noncomputable def f_all_steps := runP 1 4 b_all_steps
/-! merges -/
noncomputable def b_merges : Sv := sSeq (sOwn 2 (lDisp (aNil))) (sSeq (sFor [3, 4] (iP (eCP f_all_steps (aCons (eVar 0) (aNil)))) (gN 3) (sSeq (sAsg (eB lenD (aCons (eCP f_clusters (aCons (eVar 0) (aCons (eVar 3) (aCons (eVar 1) (aNil))))) (aNil))) (gN 4)) (sIf (tOr (tB (e2 eqD (eVar 2) (eL (lDisp (aNil))))) (tB (e2 neD (e2 ixD (e2 ixD (eVar 2) (eNeg (eC (.int 1)))) (eC (.int 1))) (eVar 4)))) (sMut appD 2 (eTup (aCons (eVar 3) (aCons (eVar 4) (aNil))))) (sNx)))) (sRet (eB tupleD (aCons (eVar 2) (aNil)))))
noncomputable def f_merges := runP 2 5 b_merges
/-! cluster_box -/
noncomputable def b_cluster_box : Sv := sSeq (sPar [1, 2] (aCons (eL (lComp [5, 6, 6] (iPO (eVar 0)) (gT (gCons (gN 5) (gCons (gN 6) (gCons (gN 6) (gNil))))) (tYes) (e2 ixD (eVar 5) (eC (.int 0))))) (aCons (eL (lComp [5, 6, 6] (iPO (eVar 0)) (gT (gCons (gN 5) (gCons (gN 6) (gCons (gN 6) (gNil))))) (tYes) (e2 ixD (eVar 5) (eC (.int 1))))) (aNil)))) (sSeq (sAsg (eL (lComp [6, 7, 6] (iPO (eVar 0)) (gT (gCons (gN 6) (gCons (gN 7) (gCons (gN 6) (gNil))))) (tYes) (eVar 7))) (gN 3)) (sSeq (sAsg (eB maxD (aCons (eL (lComp [6, 6, 4] (iPO (eVar 0)) (gT (gCons (gN 6) (gCons (gN 6) (gCons (gN 4) (gNil))))) (tYes) (eVar 4))) (aNil))) (gN 4)) (sRet (eTup (aCons (eTup (aCons (eB minD (aCons (eVar 1) (aNil))) (aCons (eB minD (aCons (eVar 2) (aNil))) (aNil)))) (aCons (eTup (aCons (eB maxD (aCons (eVar 1) (aNil))) (aCons (eB maxD (aCons (eVar 2) (aNil))) (aNil)))) (aCons (eB minD (aCons (eVar 3) (aNil))) (aCons (e2 addD (eB maxD (aCons (eVar 3) (aNil))) (eC (.int 1))) (aCons (eVar 4) (aNil))))))))))
noncomputable def f_cluster_box := runP 1 8 b_cluster_box
/-! joined_at -/
noncomputable def b_joined_at : Sv := sSeq (sFor [4] (iP (eCP f_all_steps (aCons (eVar 0) (aNil)))) (gN 4) (sIf (tTr (eB anyD (aCons (eL (lComp [5] (iPO (eCP f_clusters (aCons (eVar 0) (aCons (eVar 4) (aCons (eVar 3) (aNil)))))) (gN 5) (tYes) (eAnd (e2 inD (eVar 1) (eVar 5)) (e2 inD (eVar 2) (eVar 5))))) (aNil)))) (sRet (eVar 4)) (sNx))) (sRet (eC .none))
noncomputable def f_joined_at := runP 4 6 b_joined_at
/-! law -/
noncomputable def b_law_c1 : Sv := sIf (tB (e2 neD (eVar 3) (eL (lDisp (aNil))))) (sSeq (sAsg (eTup (aCons (eCG f__law_pick (aCons (eVar 1) (aCons (eVar 3) (aNil)))) (aCons (eCG f__law_pick (aCons (eVar 1) (aCons (eVar 3) (aNil)))) (aNil)))) (gT (gCons (gN 5) (gCons (gN 16) (gNil))))) (sSeq (sAsg (eL (lComp [4] (iR (aCons (eC (.int 14)) (aNil))) (gN 4) (tB (e2 neD (eL (lComp [10] (iPO (eCP f__law_clusters (aCons (eVar 6) (aCons (eVar 4) (aCons (eVar 7) (aNil)))))) (gN 10) (tAnd (tB (e2 inD (eVar 5) (eVar 10))) (tB (e2 inD (eVar 16) (eVar 10)))) (eVar 10))) (eL (lDisp (aNil))))) (eVar 4))) (gN 17)) (sIf (tNot (tTr (eCP (f__law_same 6) (aCons (eCP f_joined_at (aCons (eVar 6) (aCons (eVar 5) (aCons (eVar 16) (aCons (eVar 7) (aNil)))))) (aCons (eIf (tB (e2 neD (eVar 17) (eL (lDisp (aNil))))) (e2 ixD (eVar 17) (eC (.int 0))) (eC .none)) (aNil)))))) (sRet (eC (.bool false))) (sNx)))) (sNx)
noncomputable def b_law_c2 : Sv := sSeq (sFor [10, 11, 12, 13, 14] (iP (eVar 9)) (gN 10) (sSeq (sPar [11, 12, 13] (aCons (eL (lComp [5] (iPO (eVar 10)) (gN 5) (tYes) (e2 ixD (e2 ixD (eVar 5) (eC (.int 0))) (eC (.int 0))))) (aCons (eL (lComp [5] (iPO (eVar 10)) (gN 5) (tYes) (e2 ixD (e2 ixD (eVar 5) (eC (.int 0))) (eC (.int 1))))) (aCons (eL (lComp [5] (iPO (eVar 10)) (gN 5) (tYes) (e2 ixD (eVar 5) (eC (.int 1))))) (aNil))))) (sSeq (sAsg (eTup (aCons (eTup (aCons (eB minD (aCons (eVar 11) (aNil))) (aCons (eB minD (aCons (eVar 12) (aNil))) (aNil)))) (aCons (eTup (aCons (eB maxD (aCons (eVar 11) (aNil))) (aCons (eB maxD (aCons (eVar 12) (aNil))) (aNil)))) (aCons (eB minD (aCons (eVar 13) (aNil))) (aCons (e2 addD (eB maxD (aCons (eVar 13) (aNil))) (eC (.int 1))) (aCons (eB maxD (aCons (eL (lComp [5] (iPO (eVar 10)) (gN 5) (tYes) (e2 ixD (eVar 5) (eC (.int 2))))) (aNil))) (aNil))))))) (gN 14)) (sIf (tNot (tTr (eCP (f__law_same 6) (aCons (eCP f_cluster_box (aCons (eVar 10) (aNil))) (aCons (eVar 14) (aNil)))))) (sRet (eC (.bool false))) (sNx))))) (sSeq (sAsg (eL (lComp [18] (iR (aCons (eC (.int 14)) (aNil))) (gN 18) (tYes) (eB lenD (aCons (eCP f__law_clusters (aCons (eVar 6) (aCons (eVar 18) (aCons (eVar 7) (aNil))))) (aNil))))) (gN 15)) (sSeq (sIf (tNot (tTr (eCP (f__law_same 6) (aCons (eCP f_merges (aCons (eVar 6) (aCons (eVar 7) (aNil)))) (aCons (eB tupleD (aCons (eL (lComp [4] (iR (aCons (eC (.int 14)) (aNil))) (gN 4) (tOr (tB (e2 eqD (eVar 4) (eC (.int 0)))) (tB (e2 neD (e2 ixD (eVar 15) (eVar 4)) (e2 ixD (eVar 15) (e2 subD (eVar 4) (eC (.int 1))))))) (eTup (aCons (eVar 4) (aCons (e2 ixD (eVar 15) (eVar 4)) (aNil)))))) (aNil))) (aNil)))))) (sRet (eC (.bool false))) (sNx)) (b_law_c1)))
noncomputable def b_law : Sv := sSeq (sCell 1 (fDisp (pCons (eC (.str "draws")) (eCG f__law_draws (aCons (eVar 0) (aCons (eC (.int 400)) (aNil)))) (pCons (eC (.str "at")) (eC (.int 0)) (pNil))))) (sSeq (sFor [2, 3, 4, 5, 6, 7, 8, 9, 10, 11, 12, 13, 14, 15, 16, 17] (iR (aCons (eC (.int 4)) (aNil))) (gN 2) (sSeq (sAsg (eL (lDisp (aNil))) (gN 3)) (sSeq (sFor [4, 5] (iR (aCons (eCG f__law_next (aCons (eVar 1) (aCons (eC (.int 8)) (aNil)))) (aNil))) (gN 4) (sSeq (sAsg (eTup (aCons (eTup (aCons (e2 subD (eCG f__law_next (aCons (eVar 1) (aCons (eC (.int 7)) (aNil)))) (eC (.int 2))) (aCons (e2 subD (eCG f__law_next (aCons (eVar 1) (aCons (eC (.int 5)) (aNil)))) (eC (.int 1))) (aNil)))) (aCons (eCG f__law_next (aCons (eVar 1) (aCons (eC (.int 8)) (aNil)))) (aCons (e2 addD (eC (.int 1)) (eCG f__law_next (aCons (eVar 1) (aCons (eC (.int 3)) (aNil))))) (aNil))))) (gN 5)) (sAsg (eL (lE2 addL (eVar 3) (eIf (tB (e2 notInD (eVar 5) (eVar 3))) (eL (lDisp (aCons (eVar 5) (aNil)))) (eL (lDisp (aNil)))))) (gN 3)))) (sSeq (sAsg (eTup (aCons (eB tupleD (aCons (eVar 3) (aNil))) (aCons (eCG f__law_next (aCons (eVar 1) (aCons (eC (.int 8)) (aNil)))) (aCons (eCG f__law_next (aCons (eVar 1) (aCons (eC (.int 6)) (aNil)))) (aNil))))) (gT (gCons (gN 6) (gCons (gN 7) (gCons (gN 8) (gNil)))))) (sSeq (sAsg (eCP f__law_clusters (aCons (eVar 6) (aCons (eVar 8) (aCons (eVar 7) (aNil))))) (gN 9)) (sSeq (sIf (tNot (tTr (eCP (f__law_same 6) (aCons (eCP f_clusters (aCons (eVar 6) (aCons (eVar 8) (aCons (eVar 7) (aNil))))) (aCons (eVar 9) (aNil)))))) (sRet (eC (.bool false))) (sNx)) (b_law_c2))))))) (sRet (eC (.bool true))))
noncomputable def f_law := runG 1 19 b_law
def topS (i : Nat) : Stmt := PySem.Challenge.pw_forewarned_k86_reports_that_lie_near.main.body.getD i (.Pass ⟨0, 0, 0, 0⟩)
abbrev s__law_draws : Stmt := topS 8
abbrev N__law_draws : List Str := ["script", "many", "draws", "mixed", "k", "cell", "rest", "turn"]
theorem sc__law_draws : FnScope N__law_draws ["script", "many"] (defScope s__law_draws) := ⟨rfl, rfl, rfl, by decide +kernel, rfl, by decide +kernel, by decide +kernel⟩
abbrev s__law_steps : Stmt := topS 13
abbrev N__law_steps : List Str := ["one", "other"]
theorem sc__law_steps : FnScope N__law_steps ["one", "other"] (defScope s__law_steps) := ⟨rfl, rfl, rfl, by decide +kernel, rfl, by decide +kernel, by decide +kernel⟩
abbrev s__law_clusters : Stmt := topS 14
abbrev N__law_clusters : List Str := ["reports", "steps", "hours", "groups", "one", "other", "both", "group"]
theorem sc__law_clusters : FnScope N__law_clusters ["reports", "steps", "hours"] (defScope s__law_clusters) := ⟨rfl, rfl, rfl, by decide +kernel, rfl, by decide +kernel, by decide +kernel⟩
abbrev s__law_next : Stmt := topS 9
abbrev N__law_next : List Str := ["w", "many"]
theorem sc__law_next : FnScope N__law_next ["w", "many"] (defScope s__law_next) := ⟨rfl, rfl, rfl, by decide +kernel, rfl, by decide +kernel, by decide +kernel⟩
abbrev s__law_same : Stmt := topS 12
abbrev N__law_same : List Str := ["told", "due", "k"]
theorem sc__law_same : FnScope N__law_same ["told", "due"] (defScope s__law_same) := ⟨rfl, rfl, rfl, by decide +kernel, rfl, by decide +kernel, by decide +kernel⟩
abbrev s_are_near : Stmt := topS 1
abbrev N_are_near : List Str := ["one", "other", "steps", "hours", "x", "y", "a", "b"]
theorem sc_are_near : FnScope N_are_near ["one", "other", "steps", "hours"] (defScope s_are_near) := ⟨rfl, rfl, rfl, by decide +kernel, rfl, by decide +kernel, by decide +kernel⟩
abbrev s_clusters : Stmt := topS 2
abbrev N_clusters : List Str := ["reports", "steps", "hours", "left", "found", "part", "at", "near", "other"]
theorem sc_clusters : FnScope N_clusters ["reports", "steps", "hours"] (defScope s_clusters) := ⟨rfl, rfl, rfl, by decide +kernel, rfl, by decide +kernel, by decide +kernel⟩
abbrev s_all_steps : Stmt := topS 4
abbrev N_all_steps : List Str := ["reports", "found", "one", "other"]
theorem sc_all_steps : FnScope N_all_steps ["reports"] (defScope s_all_steps) := ⟨rfl, rfl, rfl, by decide +kernel, rfl, by decide +kernel, by decide +kernel⟩
abbrev s_merges : Stmt := topS 5
abbrev N_merges : List Str := ["reports", "hours", "found", "steps", "many"]
theorem sc_merges : FnScope N_merges ["reports", "hours"] (defScope s_merges) := ⟨rfl, rfl, rfl, by decide +kernel, rfl, by decide +kernel, by decide +kernel⟩
abbrev s__law_pick : Stmt := topS 10
abbrev N__law_pick : List Str := ["w", "rows"]
theorem sc__law_pick : FnScope N__law_pick ["w", "rows"] (defScope s__law_pick) := ⟨rfl, rfl, rfl, by decide +kernel, rfl, by decide +kernel, by decide +kernel⟩
abbrev s_cluster_box : Stmt := topS 3
abbrev N_cluster_box : List Str := ["cluster", "xs", "ys", "hours", "level", "cell", "_", "hour"]
theorem sc_cluster_box : FnScope N_cluster_box ["cluster"] (defScope s_cluster_box) := ⟨rfl, rfl, rfl, by decide +kernel, rfl, by decide +kernel, by decide +kernel⟩
abbrev s_joined_at : Stmt := topS 6
abbrev N_joined_at : List Str := ["reports", "one", "other", "hours", "steps", "part"]
theorem sc_joined_at : FnScope N_joined_at ["reports", "one", "other", "hours"] (defScope s_joined_at) := ⟨rfl, rfl, rfl, by decide +kernel, rfl, by decide +kernel, by decide +kernel⟩
abbrev s_law : Stmt := topS 15
abbrev N_law : List Str := ["script", "w", "turn", "rows", "k", "one", "reports", "hours", "steps", "due", "part", "xs", "ys", "times", "box", "counts", "other", "able", "far"]
theorem sc_law : FnScope N_law ["script"] (defScope s_law) := ⟨rfl, rfl, rfl, by decide +kernel, rfl, by decide +kernel, by decide +kernel⟩
section
variable {P : Program} {w : World} {K : PySem.W.Frag} {mg : Str → Option Value} {base : Heap}
theorem d__law_draws (m_abs : mg "abs" = none) (m_int : mg "int" = none) (m_len : mg "len" = none) (m_range : mg "range" = none) : DSs (cxD P w K mg base N__law_draws s__law_draws 0) (defBody s__law_draws) b__law_draws := by
  have nd := sc__law_draws.nd
  unfold b__law_draws
  exact dss_cons (own 2 nd (dl_disp (da_nil))) (dss_cons (set 3 nd (de_int)) (dss_cons (ds_for (is := [4, 5, 6, 7]) (di_r1 (by rfl) m_range (da_cons (cb (fun _ _ => hc_len) m_len (da_cons (vr 0) (da_nil) rfl)) (da_nil) rfl) rfl) (gnm 4 nd) ((nf_name 4).gnf) (dss_cons (set 5 nd (cb (fun _ _ => hc_abs) m_abs (da_cons (ct (fun _ _ => hc_int) m_int (da_cons (de_ix (vr 0) (vr 4) (fun _ _ => rfl)) (da_nil) rfl)) (da_nil) rfl))) (dss_cons (set 3 nd (de_op (fun _ _ => ho_mod) (ct (fun _ _ => hc_int) m_int (da_cons (de_op (fun _ _ => ho_add) (de_op (fun _ _ => ho_add) (de_op (fun _ _ => ho_mulI) (vr 3) (de_int)) (de_op (fun _ _ => ho_mod) (vr 5) (de_int))) (vr 4)) (da_nil) rfl)) (de_int))) (dss_cons (set 6 nd (de_int)) (dss_cons (ds_if (dt_cmp (fun _ hX => ho_ge hX.un) (vr 5) (de_op (fun _ _ => ho_pow) (de_int) (de_int)) rfl) (dss_one (set 6 nd (vr 5))) (dss_cons (mutm 2 PySem.F.slot_list_append PySem.F.type_list_append (fun _ => hm_app) app_list (de_op (fun _ _ => ho_mod) (ct (fun _ _ => hc_int) m_int (da_cons (vr 5) (da_nil) rfl)) (de_int))) (dss_one (mutm 2 PySem.F.slot_list_append PySem.F.type_list_append (fun _ => hm_app) app_list (de_op (fun _ _ => ho_mod) (de_op (fun _ _ => ho_mod) (ct (fun _ _ => hc_int) m_int (da_cons (de_op (fun _ _ => ho_add) (de_op (fun _ _ => ho_mulI) (vr 3) (de_int)) (de_int)) (da_nil) rfl)) (de_int)) (de_int)))))) (dss_one (ds_for (is := [7]) (di_r1 (by rfl) m_range (da_cons (de_int) (da_nil) rfl) rfl) (gnm 7 nd) ((nf_name 7).gnf) (dss_one (ds_if (dt_cmp (fun _ hX => ho_gt hX.un) (vr 6) (de_int) rfl) (dss_cons (mutm 2 PySem.F.slot_list_append PySem.F.type_list_append (fun _ => hm_app) app_list (de_op (fun _ _ => ho_mod) (ct (fun _ _ => hc_int) m_int (da_cons (vr 6) (da_nil) rfl)) (de_int))) (dss_one (set 6 nd (de_op (fun _ _ => ho_fdiv) (vr 6) (de_int))))) (dss_nil))) (fun _ _ _ => rfl))))))) (fun _ _ _ => rfl)) (dss_cons (ds_for (is := [4]) (di_r1 (by rfl) m_range (da_cons (vr 1) (da_nil) rfl) rfl) (gnm 4 nd) ((nf_name 4).gnf) (dss_cons (set 3 nd (de_op (fun _ _ => ho_mod) (ct (fun _ _ => hc_int) m_int (da_cons (de_op (fun _ _ => ho_add) (de_op (fun _ _ => ho_add) (de_op (fun _ _ => ho_mulI) (vr 3) (de_int)) (vr 4)) (de_int)) (da_nil) rfl)) (de_int))) (dss_one (mutm 2 PySem.F.slot_list_append PySem.F.type_list_append (fun _ => hm_app) app_list (de_op (fun _ _ => ho_mod) (ct (fun _ _ => hc_int) m_int (da_cons (vr 3) (da_nil) rfl)) (de_int))))) (fun _ _ _ => rfl)) (dss_one (ds_ret (de_sx (vr 2) (do_none) (do_some (vr 1))))))))
theorem d__law_steps (m_abs : mg "abs" = none) : DSs (cxD P w K mg base N__law_steps s__law_steps 0) (defBody s__law_steps) b__law_steps := by
  have nd := sc__law_steps.nd
  unfold b__law_steps
  exact dss_one (ds_ret (de_op (fun _ _ => ho_add) (cb (fun _ _ => hc_abs) m_abs (da_cons (de_op (fun _ _ => ho_sub) (de_ix (de_ix (vr 0) (de_int) (fun _ _ => rfl)) (de_int) (fun _ _ => rfl)) (de_ix (de_ix (vr 1) (de_int) (fun _ _ => rfl)) (de_int) (fun _ _ => rfl))) (da_nil) rfl)) (cb (fun _ _ => hc_abs) m_abs (da_cons (de_op (fun _ _ => ho_sub) (de_ix (de_ix (vr 0) (de_int) (fun _ _ => rfl)) (de_int) (fun _ _ => rfl)) (de_ix (de_ix (vr 1) (de_int) (fun _ _ => rfl)) (de_int) (fun _ _ => rfl))) (da_nil) rfl))))
theorem d__law_clusters (m_abs : mg "abs" = none) (m_len : mg "len" = none) (m_sorted : mg "sorted" = none) (m_tuple : mg "tuple" = none) (h__law_steps : Kn (cM P w K mg base) "_law_steps" 1 (SpP f__law_steps)) : DSs (cxD P w K mg base N__law_clusters s__law_clusters 1) (defBody s__law_clusters) b__law_clusters := by
  have nd := sc__law_clusters.nd
  unfold b__law_clusters
  exact dss_cons (ds_setC (lc 3 nd (own := [("one", 4)]) (di_po (vr 0)) (blkOk_by (by kernel_rfl)) (gnm 4 nd) (dts_nil) (de_l (dl_disp (da_cons (vr 4) (da_nil) rfl))) (by decide))) (dss_cons (ds_for (is := [4, 5, 6]) (di_p (vr 0)) (gnm 4 nd) ((nf_name 4).gnf) (dss_one (ds_for (is := [5, 6]) (di_p (vr 0)) (gnm 5 nd) ((nf_name 5).gnf) (dss_one (ds_if (dt_w (dw_and (dt_cmp (fun _ hX => ho_le hX.un) (cpk (show 1 ≤ 1 by decide) h__law_steps (da_cons (vr 4) (da_cons (vr 5) (da_nil) rfl) rfl)) (vr 1) rfl) (dw_and1 (dt_cmp (fun _ hX => ho_le hX.un) (cb (fun _ _ => hc_abs) m_abs (da_cons (de_op (fun _ _ => ho_sub) (de_ix (vr 4) (de_int) (fun _ _ => rfl)) (de_ix (vr 5) (de_int) (fun _ _ => rfl))) (da_nil) rfl)) (vr 2) rfl)))) (dss_cons (setX 6 nd (de_l (lcomp nd (own := [("group", 7)]) (di_po (vr 3)) (blkOk_by (by kernel_rfl)) (gnm 7 nd) (dts_one (dt_w (dw_or (dt_cmp (fun _ hX => ho_in hX.un) (vr 4) (vr 7) rfl) (dw_or1 (dt_cmp (fun _ hX => ho_in hX.un) (vr 5) (vr 7) rfl))))) (vr 7) (by decide)))) (dss_one (ds_if (dt_cmp (fun _ hX => ho_eq hX.un) (cb (fun _ _ => hc_len) m_len (da_cons (vr 6) (da_nil) rfl)) (de_int) rfl) (dss_one (set 3 nd (de_l (dl_op (fun _ _ => ho_addL) (de_l (lcomp nd (own := [("group", 7)]) (di_po (vr 3)) (blkOk_by (by kernel_rfl)) (gnm 7 nd) (dts_one (dt_cmp (fun _ hX => ho_notIn hX.un) (vr 7) (vr 6) rfl)) (vr 7) (by decide))) (de_l (dl_disp (da_cons (de_l (dl_op (fun _ _ => ho_addL) (de_ix (vr 6) (de_int) (fun _ _ => rfl)) (de_ix (vr 6) (de_int) (fun _ _ => rfl)))) (da_nil) rfl))))))) (dss_nil)))) (dss_nil))) (fun _ _ _ => rfl))) (fun _ _ _ => rfl)) (dss_one (ds_ret (ct (fun _ _ => hc_tuple) m_tuple (da_cons (de_l (lcb (fun _ hX => hc_sorted hX.un) m_sorted (da_cons (de_l (lcomp nd (own := [("group", 7)]) (di_po (vr 3)) (blkOk_by (by kernel_rfl)) (gnm 7 nd) (dts_nil) (ct (fun _ _ => hc_tuple) m_tuple (da_cons (de_l (lcb (fun _ hX => hc_sorted hX.un) m_sorted (da_cons (vr 7) (da_nil) rfl))) (da_nil) rfl)) (by decide))) (da_nil) rfl))) (da_nil) rfl)))))
theorem d__law_next (m_int : mg "int" = none) (m_len : mg "len" = none) : DSs (cxD P w K mg base N__law_next s__law_next 0) (defBody s__law_next) b__law_next := by
  have nd := sc__law_next.nd
  unfold b__law_next
  exact dss_cons (paug 0 (fun _ _ => iop_addI) (de_str) (de_int)) (dss_cons (ds_if (dt_cmp (fun _ hX => ho_gt hX.un) (de_ix (vr 0) (de_str) (fun _ _ => rfl)) (cb (fun _ _ => hc_len) m_len (da_cons (de_ix (vr 0) (de_str) (fun _ _ => rfl)) (da_nil) rfl)) rfl) (dss_one (ds_ret (de_int))) (dss_nil)) (dss_one (ds_ret (de_op (fun _ _ => ho_mod) (ct (fun _ _ => hc_int) m_int (da_cons (de_ix (de_ix (vr 0) (de_str) (fun _ _ => rfl)) (de_op (fun _ _ => ho_sub) (de_ix (vr 0) (de_str) (fun _ _ => rfl)) (de_int)) (fun _ _ => rfl)) (da_nil) rfl)) (vr 1)))))
theorem d__law_same (self : List PyData → Option PyData) (k : Nat) (hk : 0 ≤ k) (m_bool : mg "bool" = none) (m_int : mg "int" = none) (m_isinstance : mg "isinstance" = none) (m_len : mg "len" = none) (m_range : mg "range" = none) (m_str : mg "str" = none) (m_tuple : mg "tuple" = none) (h__law_same : Kn (cM P w K mg base) "_law_same" k (SpP self)) : DSs (cxD P w K mg base N__law_same s__law_same k) (defBody s__law_same) (b__law_same self) := by
  have nd := sc__law_same.nd
  unfold b__law_same
  exact dss_cons (ds_if (dt_truth (isa "tuple" m_isinstance m_tuple (vr 1)) (fun _ _ _ => rfl)) (dss_cons (ds_if (dt_w (dw_or (dt_not (dt_truth (isa "tuple" m_isinstance m_tuple (vr 0)) (fun _ _ _ => rfl))) (dw_or1 (dt_cmp (fun _ hX => ho_ne hX.un) (cb (fun _ _ => hc_len) m_len (da_cons (vr 0) (da_nil) rfl)) (cb (fun _ _ => hc_len) m_len (da_cons (vr 1) (da_nil) rfl)) rfl)))) (dss_one (ds_ret (de_bl))) (dss_nil)) (dss_one (ds_ret (de_cmp (fun _ hX => ho_eq hX.un) (de_l (lcomp nd (own := [("k", 2)]) ((di_r1 (by rfl) m_range (da_cons (cb (fun _ _ => hc_len) m_len (da_cons (vr 1) (da_nil) rfl)) (da_nil) rfl) rfl).any) (blkOk_by (by kernel_rfl)) (gnm 2 nd) (dts_one (dt_not (dt_truth (cpk (Nat.le_refl _) h__law_same (da_cons (de_ix (vr 0) (vr 2) (fun _ _ => rfl)) (da_cons (de_ix (vr 1) (vr 2) (fun _ _ => rfl)) (da_nil) rfl) rfl)) (fun _ _ _ => rfl)))) (vr 2) (by decide))) (de_l (dl_disp (da_nil))) rfl)))) (dss_nil)) (dss_cons (ds_if (dt_cmp (fun _ _ => ho_is) (vr 1) (de_non) rfl) (dss_one (ds_ret (de_cmp (fun _ _ => ho_is) (vr 0) (de_non) rfl))) (dss_nil)) (dss_cons (ds_if (dt_truth (isa "str" m_isinstance m_str (vr 1)) (fun _ _ _ => rfl)) (dss_one (ds_ret (de_and (isa "str" m_isinstance m_str (vr 0)) (de_one (de_cmp (fun _ hX => ho_eq hX.un) (vr 0) (vr 1) rfl))))) (dss_nil)) (dss_one (ds_ret (de_and (isa "int" m_isinstance m_int (vr 0)) (de_and (de_cmp (fun _ hX => ho_eq hX.un) (isa "bool" m_isinstance m_bool (vr 0)) (isa "bool" m_isinstance m_bool (vr 1)) rfl) (de_one (de_cmp (fun _ hX => ho_eq hX.un) (vr 0) (vr 1) rfl))))))))
theorem d_are_near (m_abs : mg "abs" = none) : DSs (cxD P w K mg base N_are_near s_are_near 0) (defBody s_are_near) b_are_near := by
  have nd := sc_are_near.nd
  unfold b_are_near
  exact dss_cons (asg (de_tup (da_cons (de_ix (vr 0) (de_int) (fun _ _ => rfl)) (da_cons (de_ix (vr 1) (de_int) (fun _ _ => rfl)) (da_nil) rfl) rfl)) (dg_tup (dgs_cons (dg_tup (dgs_cons (gnm 4 nd) (dgs_cons (gnm 5 nd) (dgs_nil) (fun _ _ => rfl)) (fun _ _ => rfl)) (fun _ _ => rfl) (fun _ _ => rfl) (gs_lenS (gs_lenS (fun _ _ _ h => gs_len0 h)))) (dgs_cons (dg_tup (dgs_cons (gnm 6 nd) (dgs_cons (gnm 7 nd) (dgs_nil) (fun _ _ => rfl)) (fun _ _ => rfl)) (fun _ _ => rfl) (fun _ _ => rfl) (gs_lenS (gs_lenS (fun _ _ _ h => gs_len0 h)))) (dgs_nil) (fun _ _ => rfl)) (fun _ _ => rfl)) (fun _ _ => rfl) (fun _ _ => rfl) (gs_lenS (gs_lenS (fun _ _ _ h => gs_len0 h)))) ((nf_tup (nfs_cons (nf_tup (nfs_cons (nf_name 4) (nfs_cons (nf_name 5) (nfs_nil)))) (nfs_cons (nf_tup (nfs_cons (nf_name 6) (nfs_cons (nf_name 7) (nfs_nil)))) (nfs_nil)))).gnf)) (dss_one (ds_ret (de_and (de_cmp (fun _ hX => ho_le hX.un) (de_op (fun _ _ => ho_add) (cb (fun _ _ => hc_abs) m_abs (da_cons (de_op (fun _ _ => ho_sub) (vr 4) (vr 6)) (da_nil) rfl)) (cb (fun _ _ => hc_abs) m_abs (da_cons (de_op (fun _ _ => ho_sub) (vr 5) (vr 7)) (da_nil) rfl))) (vr 2) rfl) (de_one (de_cmp (fun _ hX => ho_le hX.un) (cb (fun _ _ => hc_abs) m_abs (da_cons (de_op (fun _ _ => ho_sub) (de_ix (vr 0) (de_int) (fun _ _ => rfl)) (de_ix (vr 1) (de_int) (fun _ _ => rfl))) (da_nil) rfl)) (vr 3) rfl)))))
theorem d_clusters (m_len : mg "len" = none) (m_sorted : mg "sorted" = none) (m_tuple : mg "tuple" = none) (h_are_near : Kn (cM P w K mg base) "are_near" 1 (SpP f_are_near)) : DSs (cxD P w K mg base N_clusters s_clusters 1) (defBody s_clusters) b_clusters := by
  have nd := sc_clusters.nd
  unfold b_clusters
  exact dss_cons (own 3 nd (lcb (fun _ hX => hc_sorted hX.un) m_sorted (da_cons (vr 0) (da_nil) rfl))) (dss_cons (own 4 nd (dl_disp (da_nil))) (dss_cons (ds_wh (is := [5, 6, 7]) (dt_cmp (fun _ hX => ho_ne hX.un) (vr 3) (de_l (dl_disp (da_nil))) rfl) (dss_cons (popL 5 3 nd) (dss_cons (set 6 nd (de_int)) (dss_cons (ds_wh (is := [7]) (dt_cmp (fun _ hX => ho_lt hX.un) (vr 6) (cb (fun _ _ => hc_len) m_len (da_cons (vr 5) (da_nil) rfl)) rfl) (dss_cons (setX 7 nd (de_l (lcomp nd (own := [("other", 8)]) (di_po (vr 3)) (blkOk_by (by kernel_rfl)) (gnm 8 nd) (dts_one (dt_truth (cpk (show 1 ≤ 1 by decide) h_are_near (da_cons (de_ix (vr 5) (vr 6) (fun _ _ => rfl)) (da_cons (vr 8) (da_cons (vr 1) (da_cons (vr 2) (da_nil) rfl) rfl) rfl) rfl)) (fun _ _ _ => rfl))) (vr 8) (by decide)))) (dss_cons (ds_ownC (lc 3 nd (own := [("other", 8)]) (di_po (vr 3)) (blkOk_by (by kernel_rfl)) (gnm 8 nd) (dts_one (dt_cmp (fun _ hX => ho_notIn hX.un) (vr 8) (vr 7) rfl)) (vr 8) (by decide))) (dss_cons (mutm 5 PySem.F.slot_list_extend PySem.F.type_list_extend (fun _ => hm_ext) ext_list (vr 7)) (dss_one (aug 6 nd (fun _ _ => iop_addI) (de_int))))))) (dss_one (mutm 4 PySem.F.slot_list_append PySem.F.type_list_append (fun _ => hm_app) app_list (ct (fun _ _ => hc_tuple) m_tuple (da_cons (de_l (lcb (fun _ hX => hc_sorted hX.un) m_sorted (da_cons (vr 5) (da_nil) rfl))) (da_nil) rfl)))))))) (dss_one (ds_ret (ct (fun _ _ => hc_tuple) m_tuple (da_cons (de_l (lcb (fun _ hX => hc_sorted hX.un) m_sorted (da_cons (vr 4) (da_nil) rfl))) (da_nil) rfl))))))
theorem d_all_steps (m_abs : mg "abs" = none) (m_set : mg "set" = none) (m_sorted : mg "sorted" = none) : DSs (cxD P w K mg base N_all_steps s_all_steps 0) (defBody s_all_steps) b_all_steps := by
  have nd := sc_all_steps.nd
  unfold b_all_steps
  exact dss_cons (own 1 nd (dl_disp (da_cons (de_int) (da_nil) rfl))) (dss_cons (ds_for (is := [2]) (di_p (vr 0)) (gnm 2 nd) ((nf_name 2).gnf) (dss_one (mutm 1 PySem.F.slot_list_extend PySem.F.type_list_extend (fun _ => hm_ext) ext_list (de_l (lcomp nd (own := [("other", 3)]) (di_po (vr 0)) (blkOk_by (by kernel_rfl)) (gnm 3 nd) (dts_nil) (de_op (fun _ _ => ho_add) (cb (fun _ _ => hc_abs) m_abs (da_cons (de_op (fun _ _ => ho_sub) (de_ix (de_ix (vr 2) (de_int) (fun _ _ => rfl)) (de_int) (fun _ _ => rfl)) (de_ix (de_ix (vr 3) (de_int) (fun _ _ => rfl)) (de_int) (fun _ _ => rfl))) (da_nil) rfl)) (cb (fun _ _ => hc_abs) m_abs (da_cons (de_op (fun _ _ => ho_sub) (de_ix (de_ix (vr 2) (de_int) (fun _ _ => rfl)) (de_int) (fun _ _ => rfl)) (de_ix (de_ix (vr 3) (de_int) (fun _ _ => rfl)) (de_int) (fun _ _ => rfl))) (da_nil) rfl))) (by decide))))) (fun _ _ _ => rfl)) (dss_one (ds_ret (de_l (so_set m_sorted m_set (vr 1))))))
theorem d_merges (m_len : mg "len" = none) (m_tuple : mg "tuple" = none) (h_clusters : Kn (cM P w K mg base) "clusters" 2 (SpP f_clusters)) (h_all_steps : Kn (cM P w K mg base) "all_steps" 1 (SpP f_all_steps)) : DSs (cxD P w K mg base N_merges s_merges 2) (defBody s_merges) b_merges := by
  have nd := sc_merges.nd
  unfold b_merges
  exact dss_cons (own 2 nd (dl_disp (da_nil))) (dss_cons (ds_for (is := [3, 4]) (di_p (cpk (show 1 ≤ 2 by decide) h_all_steps (da_cons (vr 0) (da_nil) rfl))) (gnm 3 nd) ((nf_name 3).gnf) (dss_cons (set 4 nd (cb (fun _ _ => hc_len) m_len (da_cons (cpk (show 2 ≤ 2 by decide) h_clusters (da_cons (vr 0) (da_cons (vr 3) (da_cons (vr 1) (da_nil) rfl) rfl) rfl)) (da_nil) rfl))) (dss_one (ds_if (dt_w (dw_or (dt_cmp (fun _ hX => ho_eq hX.un) (vr 2) (de_l (dl_disp (da_nil))) rfl) (dw_or1 (dt_cmp (fun _ hX => ho_ne hX.un) (de_ix (de_ix (vr 2) (de_neg (de_int)) (fun _ _ => rfl)) (de_int) (fun _ _ => rfl)) (vr 4) rfl)))) (dss_one (mutm 2 PySem.F.slot_list_append PySem.F.type_list_append (fun _ => hm_app) app_list (de_tup (da_cons (vr 3) (da_cons (vr 4) (da_nil) rfl) rfl)))) (dss_nil)))) (fun _ _ _ => rfl)) (dss_one (ds_ret (ct (fun _ _ => hc_tuple) m_tuple (da_cons (vr 2) (da_nil) rfl)))))
theorem d__law_pick (m_len : mg "len" = none) (h__law_next : Kn (cM P w K mg base) "_law_next" 1 (SpG (cM P w K mg base).c0 f__law_next)) : DSs (cxD P w K mg base N__law_pick s__law_pick 1) (defBody s__law_pick) b__law_pick := by
  have nd := sc__law_pick.nd
  unfold b__law_pick
  exact dss_one (ds_ret (de_ix (vr 1) (cgk (show 1 ≤ 1 by decide) h__law_next (da_cons (vr 0) (da_cons (cb (fun _ _ => hc_len) m_len (da_cons (vr 1) (da_nil) rfl)) (da_nil) rfl) rfl)) (fun _ _ => rfl)))
theorem d_cluster_box (m_max : mg "max" = none) (m_min : mg "min" = none) : DSs (cxD P w K mg base N_cluster_box s_cluster_box 0) (defBody s_cluster_box) b_cluster_box := by
  have nd := sc_cluster_box.nd
  unfold b_cluster_box
  exact dss_cons (par2 1 2 nd (da_cons (de_l (lcomp nd (own := [("cell", 5), ("_", 6), ("_", 6)]) (di_po (vr 0)) (blkOk_by (by kernel_rfl)) (dg_tup (dgs_cons (gnm 5 nd) (dgs_cons (gnm 6 nd) (dgs_cons (gnm 6 nd) (dgs_nil) (fun _ _ => rfl)) (fun _ _ => rfl)) (fun _ _ => rfl)) (fun _ _ => rfl) (fun _ _ => rfl) (gs_lenS (gs_lenS (gs_lenS (fun _ _ _ h => gs_len0 h))))) (dts_nil) (de_ix (vr 5) (de_int) (fun _ _ => rfl)) (by decide))) (da_cons (de_l (lcomp nd (own := [("cell", 5), ("_", 6), ("_", 6)]) (di_po (vr 0)) (blkOk_by (by kernel_rfl)) (dg_tup (dgs_cons (gnm 5 nd) (dgs_cons (gnm 6 nd) (dgs_cons (gnm 6 nd) (dgs_nil) (fun _ _ => rfl)) (fun _ _ => rfl)) (fun _ _ => rfl)) (fun _ _ => rfl) (fun _ _ => rfl) (gs_lenS (gs_lenS (gs_lenS (fun _ _ _ h => gs_len0 h))))) (dts_nil) (de_ix (vr 5) (de_int) (fun _ _ => rfl)) (by decide))) (da_nil) rfl) rfl)) (dss_cons (ds_setC (lc 3 nd (own := [("_", 6), ("hour", 7), ("_", 6)]) (di_po (vr 0)) (blkOk_by (by kernel_rfl)) (dg_tup (dgs_cons (gnm 6 nd) (dgs_cons (gnm 7 nd) (dgs_cons (gnm 6 nd) (dgs_nil) (fun _ _ => rfl)) (fun _ _ => rfl)) (fun _ _ => rfl)) (fun _ _ => rfl) (fun _ _ => rfl) (gs_lenS (gs_lenS (gs_lenS (fun _ _ _ h => gs_len0 h))))) (dts_nil) (vr 7) (by decide))) (dss_cons (set 4 nd (cb (fun _ hX => hc_max hX.calm hX.un) m_max (da_cons (de_l (lcomp nd (own := [("_", 6), ("_", 6), ("level", 4)]) (di_po (vr 0)) (blkOk_by (by kernel_rfl)) (dg_tup (dgs_cons (gnm 6 nd) (dgs_cons (gnm 6 nd) (dgs_cons (gnm 4 nd) (dgs_nil) (fun _ _ => rfl)) (fun _ _ => rfl)) (fun _ _ => rfl)) (fun _ _ => rfl) (fun _ _ => rfl) (gs_lenS (gs_lenS (gs_lenS (fun _ _ _ h => gs_len0 h))))) (dts_nil) (vr 4) (by decide))) (da_nil) rfl))) (dss_one (ds_ret (de_tup (da_cons (de_tup (da_cons (cb (fun _ hX => hc_min hX.calm hX.un) m_min (da_cons (vr 1) (da_nil) rfl)) (da_cons (cb (fun _ hX => hc_min hX.calm hX.un) m_min (da_cons (vr 2) (da_nil) rfl)) (da_nil) rfl) rfl)) (da_cons (de_tup (da_cons (cb (fun _ hX => hc_max hX.calm hX.un) m_max (da_cons (vr 1) (da_nil) rfl)) (da_cons (cb (fun _ hX => hc_max hX.calm hX.un) m_max (da_cons (vr 2) (da_nil) rfl)) (da_nil) rfl) rfl)) (da_cons (cb (fun _ hX => hc_min hX.calm hX.un) m_min (da_cons (vr 3) (da_nil) rfl)) (da_cons (de_op (fun _ _ => ho_add) (cb (fun _ hX => hc_max hX.calm hX.un) m_max (da_cons (vr 3) (da_nil) rfl)) (de_int)) (da_cons (vr 4) (da_nil) rfl) rfl) rfl) rfl) rfl))))))
theorem d_joined_at (m_any : mg "any" = none) (h_clusters : Kn (cM P w K mg base) "clusters" 2 (SpP f_clusters)) (h_all_steps : Kn (cM P w K mg base) "all_steps" 1 (SpP f_all_steps)) : DSs (cxD P w K mg base N_joined_at s_joined_at 2) (defBody s_joined_at) b_joined_at := by
  have nd := sc_joined_at.nd
  unfold b_joined_at
  exact dss_cons (ds_for (is := [4]) (di_p (cpk (show 1 ≤ 2 by decide) h_all_steps (da_cons (vr 0) (da_nil) rfl))) (gnm 4 nd) ((nf_name 4).gnf) (dss_one (ds_if (dt_truth (cb (fun _ hX => hc_any hX.calm) m_any (da_cons (de_l (lcomp nd (own := [("part", 5)]) (di_po (cpk (show 2 ≤ 2 by decide) h_clusters (da_cons (vr 0) (da_cons (vr 4) (da_cons (vr 3) (da_nil) rfl) rfl) rfl))) (blkOk_by (by kernel_rfl)) (gnm 5 nd) (dts_nil) (de_and (de_cmp (fun _ hX => ho_in hX.un) (vr 1) (vr 5) rfl) (de_one (de_cmp (fun _ hX => ho_in hX.un) (vr 2) (vr 5) rfl))) (by decide))) (da_nil) rfl)) (fun _ _ _ => rfl)) (dss_one (ds_ret (vr 4))) (dss_nil))) (fun _ _ _ => rfl)) (dss_one (ds_ret (de_non)))
theorem d_law (m_len : mg "len" = none) (m_max : mg "max" = none) (m_min : mg "min" = none) (m_range : mg "range" = none) (m_tuple : mg "tuple" = none) (h__law_draws : Kn (cM P w K mg base) "_law_draws" 1 (SpG (cM P w K mg base).c0 f__law_draws)) (h__law_clusters : Kn (cM P w K mg base) "_law_clusters" 2 (SpP f__law_clusters)) (h__law_next : Kn (cM P w K mg base) "_law_next" 1 (SpG (cM P w K mg base).c0 f__law_next)) (h__law_same : Kn (cM P w K mg base) "_law_same" 6 (SpP (f__law_same 6))) (h_clusters : Kn (cM P w K mg base) "clusters" 2 (SpP f_clusters)) (h_merges : Kn (cM P w K mg base) "merges" 3 (SpP f_merges)) (h__law_pick : Kn (cM P w K mg base) "_law_pick" 2 (SpG (cM P w K mg base).c0 f__law_pick)) (h_cluster_box : Kn (cM P w K mg base) "cluster_box" 1 (SpP f_cluster_box)) (h_joined_at : Kn (cM P w K mg base) "joined_at" 3 (SpP f_joined_at)) : DSs (cxD P w K mg base N_law s_law 6) (defBody s_law) b_law := by
  have nd := sc_law.nd
  unfold b_law b_law_c2 b_law_c1
  exact dss_cons (cell 1 nd (df_disp (dps_cons (de_str) (cgk (show 1 ≤ 6 by decide) h__law_draws (da_cons (vr 0) (da_cons (de_int) (da_nil) rfl) rfl)) (dps_cons (de_str) (de_int) (dps_nil))) rfl rfl (by simp) (by decide))) (dss_cons (ds_for (is := [2, 3, 4, 5, 6, 7, 8, 9, 10, 11, 12, 13, 14, 15, 16, 17]) (di_r1 (by rfl) m_range (da_cons (de_int) (da_nil) rfl) rfl) (gnm 2 nd) ((nf_name 2).gnf) (dss_cons (set 3 nd (de_l (dl_disp (da_nil)))) (dss_cons (ds_for (is := [4, 5]) (di_r1 (by rfl) m_range (da_cons (cgk (show 1 ≤ 6 by decide) h__law_next (da_cons (vr 1) (da_cons (de_int) (da_nil) rfl) rfl)) (da_nil) rfl) rfl) (gnm 4 nd) ((nf_name 4).gnf) (dss_cons (set 5 nd (de_tup (da_cons (de_tup (da_cons (de_op (fun _ _ => ho_sub) (cgk (show 1 ≤ 6 by decide) h__law_next (da_cons (vr 1) (da_cons (de_int) (da_nil) rfl) rfl)) (de_int)) (da_cons (de_op (fun _ _ => ho_sub) (cgk (show 1 ≤ 6 by decide) h__law_next (da_cons (vr 1) (da_cons (de_int) (da_nil) rfl) rfl)) (de_int)) (da_nil) rfl) rfl)) (da_cons (cgk (show 1 ≤ 6 by decide) h__law_next (da_cons (vr 1) (da_cons (de_int) (da_nil) rfl) rfl)) (da_cons (de_op (fun _ _ => ho_add) (de_int) (cgk (show 1 ≤ 6 by decide) h__law_next (da_cons (vr 1) (da_cons (de_int) (da_nil) rfl) rfl))) (da_nil) rfl) rfl) rfl))) (dss_one (set 3 nd (de_l (dl_op (fun _ _ => ho_addL) (vr 3) (de_if (dt_cmp (fun _ hX => ho_notIn hX.un) (vr 5) (vr 3) rfl) (de_l (dl_disp (da_cons (vr 5) (da_nil) rfl))) (de_l (dl_disp (da_nil))))))))) (fun _ _ _ => rfl)) (dss_cons (asg (de_tup (da_cons (ct (fun _ _ => hc_tuple) m_tuple (da_cons (vr 3) (da_nil) rfl)) (da_cons (cgk (show 1 ≤ 6 by decide) h__law_next (da_cons (vr 1) (da_cons (de_int) (da_nil) rfl) rfl)) (da_cons (cgk (show 1 ≤ 6 by decide) h__law_next (da_cons (vr 1) (da_cons (de_int) (da_nil) rfl) rfl)) (da_nil) rfl) rfl) rfl)) (dg_tup (dgs_cons (gnm 6 nd) (dgs_cons (gnm 7 nd) (dgs_cons (gnm 8 nd) (dgs_nil) (fun _ _ => rfl)) (fun _ _ => rfl)) (fun _ _ => rfl)) (fun _ _ => rfl) (fun _ _ => rfl) (gs_lenS (gs_lenS (gs_lenS (fun _ _ _ h => gs_len0 h))))) ((nf_tup (nfs_cons (nf_name 6) (nfs_cons (nf_name 7) (nfs_cons (nf_name 8) (nfs_nil))))).gnf)) (dss_cons (set 9 nd (cpk (show 2 ≤ 6 by decide) h__law_clusters (da_cons (vr 6) (da_cons (vr 8) (da_cons (vr 7) (da_nil) rfl) rfl) rfl))) (dss_cons (ds_if (dt_not (dt_truth (cpk (show 6 ≤ 6 by decide) h__law_same (da_cons (cpk (show 2 ≤ 6 by decide) h_clusters (da_cons (vr 6) (da_cons (vr 8) (da_cons (vr 7) (da_nil) rfl) rfl) rfl)) (da_cons (vr 9) (da_nil) rfl) rfl)) (fun _ _ _ => rfl))) (dss_one (ds_ret (de_bl))) (dss_nil)) (dss_cons (ds_for (is := [10, 11, 12, 13, 14]) (di_p (vr 9)) (gnm 10 nd) ((nf_name 10).gnf) (dss_cons (par3 11 12 13 nd (da_cons (de_l (lcomp nd (own := [("one", 5)]) (di_po (vr 10)) (blkOk_by (by kernel_rfl)) (gnm 5 nd) (dts_nil) (de_ix (de_ix (vr 5) (de_int) (fun _ _ => rfl)) (de_int) (fun _ _ => rfl)) (by decide))) (da_cons (de_l (lcomp nd (own := [("one", 5)]) (di_po (vr 10)) (blkOk_by (by kernel_rfl)) (gnm 5 nd) (dts_nil) (de_ix (de_ix (vr 5) (de_int) (fun _ _ => rfl)) (de_int) (fun _ _ => rfl)) (by decide))) (da_cons (de_l (lcomp nd (own := [("one", 5)]) (di_po (vr 10)) (blkOk_by (by kernel_rfl)) (gnm 5 nd) (dts_nil) (de_ix (vr 5) (de_int) (fun _ _ => rfl)) (by decide))) (da_nil) rfl) rfl) rfl)) (dss_cons (set 14 nd (de_tup (da_cons (de_tup (da_cons (cb (fun _ hX => hc_min hX.calm hX.un) m_min (da_cons (vr 11) (da_nil) rfl)) (da_cons (cb (fun _ hX => hc_min hX.calm hX.un) m_min (da_cons (vr 12) (da_nil) rfl)) (da_nil) rfl) rfl)) (da_cons (de_tup (da_cons (cb (fun _ hX => hc_max hX.calm hX.un) m_max (da_cons (vr 11) (da_nil) rfl)) (da_cons (cb (fun _ hX => hc_max hX.calm hX.un) m_max (da_cons (vr 12) (da_nil) rfl)) (da_nil) rfl) rfl)) (da_cons (cb (fun _ hX => hc_min hX.calm hX.un) m_min (da_cons (vr 13) (da_nil) rfl)) (da_cons (de_op (fun _ _ => ho_add) (cb (fun _ hX => hc_max hX.calm hX.un) m_max (da_cons (vr 13) (da_nil) rfl)) (de_int)) (da_cons (cb (fun _ hX => hc_max hX.calm hX.un) m_max (da_cons (de_l (lcomp nd (own := [("one", 5)]) (di_po (vr 10)) (blkOk_by (by kernel_rfl)) (gnm 5 nd) (dts_nil) (de_ix (vr 5) (de_int) (fun _ _ => rfl)) (by decide))) (da_nil) rfl)) (da_nil) rfl) rfl) rfl) rfl) rfl))) (dss_one (ds_if (dt_not (dt_truth (cpk (show 6 ≤ 6 by decide) h__law_same (da_cons (cpk (show 1 ≤ 6 by decide) h_cluster_box (da_cons (vr 10) (da_nil) rfl)) (da_cons (vr 14) (da_nil) rfl) rfl)) (fun _ _ _ => rfl))) (dss_one (ds_ret (de_bl))) (dss_nil))))) (fun _ _ _ => rfl)) (dss_cons (setX 15 nd (de_l (lcomp nd (own := [("far", 18)]) ((di_r1 (by rfl) m_range (da_cons (de_int) (da_nil) rfl) rfl).any) (blkOk_by (by kernel_rfl)) (gnm 18 nd) (dts_nil) (cb (fun _ _ => hc_len) m_len (da_cons (cpk (show 2 ≤ 6 by decide) h__law_clusters (da_cons (vr 6) (da_cons (vr 18) (da_cons (vr 7) (da_nil) rfl) rfl) rfl)) (da_nil) rfl)) (by decide)))) (dss_cons (ds_if (dt_not (dt_truth (cpk (show 6 ≤ 6 by decide) h__law_same (da_cons (cpk (show 3 ≤ 6 by decide) h_merges (da_cons (vr 6) (da_cons (vr 7) (da_nil) rfl) rfl)) (da_cons (ct (fun _ _ => hc_tuple) m_tuple (da_cons (de_l (lcomp nd (own := [("k", 4)]) ((di_r1 (by rfl) m_range (da_cons (de_int) (da_nil) rfl) rfl).any) (blkOk_by (by kernel_rfl)) (gnm 4 nd) (dts_one (dt_w (dw_or (dt_cmp (fun _ hX => ho_eq hX.un) (vr 4) (de_int) rfl) (dw_or1 (dt_cmp (fun _ hX => ho_ne hX.un) (de_ix (vr 15) (vr 4) (fun _ _ => rfl)) (de_ix (vr 15) (de_op (fun _ _ => ho_sub) (vr 4) (de_int)) (fun _ _ => rfl)) rfl))))) (de_tup (da_cons (vr 4) (da_cons (de_ix (vr 15) (vr 4) (fun _ _ => rfl)) (da_nil) rfl) rfl)) (by decide))) (da_nil) rfl)) (da_nil) rfl) rfl)) (fun _ _ _ => rfl))) (dss_one (ds_ret (de_bl))) (dss_nil)) (dss_one (ds_if (dt_cmp (fun _ hX => ho_ne hX.un) (vr 3) (de_l (dl_disp (da_nil))) rfl) (dss_cons (asg (de_tup (da_cons (cgk (show 2 ≤ 6 by decide) h__law_pick (da_cons (vr 1) (da_cons (vr 3) (da_nil) rfl) rfl)) (da_cons (cgk (show 2 ≤ 6 by decide) h__law_pick (da_cons (vr 1) (da_cons (vr 3) (da_nil) rfl) rfl)) (da_nil) rfl) rfl)) (dg_tup (dgs_cons (gnm 5 nd) (dgs_cons (gnm 16 nd) (dgs_nil) (fun _ _ => rfl)) (fun _ _ => rfl)) (fun _ _ => rfl) (fun _ _ => rfl) (gs_lenS (gs_lenS (fun _ _ _ h => gs_len0 h)))) ((nf_tup (nfs_cons (nf_name 5) (nfs_cons (nf_name 16) (nfs_nil)))).gnf)) (dss_cons (ds_setC (lc 17 nd (own := [("k", 4)]) ((di_r1 (by rfl) m_range (da_cons (de_int) (da_nil) rfl) rfl).any) (blkOk_by (by kernel_rfl)) (gnm 4 nd) (dts_one (dt_cmp (fun _ hX => ho_ne hX.un) (de_l (lcomp nd (own := [("part", 10)]) (di_po (cpk (show 2 ≤ 6 by decide) h__law_clusters (da_cons (vr 6) (da_cons (vr 4) (da_cons (vr 7) (da_nil) rfl) rfl) rfl))) (blkOk_by (by kernel_rfl)) (gnm 10 nd) (dts_one (dt_w (dw_and (dt_cmp (fun _ hX => ho_in hX.un) (vr 5) (vr 10) rfl) (dw_and1 (dt_cmp (fun _ hX => ho_in hX.un) (vr 16) (vr 10) rfl))))) (vr 10) (by decide))) (de_l (dl_disp (da_nil))) rfl)) (vr 4) (by decide))) (dss_one (ds_if (dt_not (dt_truth (cpk (show 6 ≤ 6 by decide) h__law_same (da_cons (cpk (show 3 ≤ 6 by decide) h_joined_at (da_cons (vr 6) (da_cons (vr 5) (da_cons (vr 16) (da_cons (vr 7) (da_nil) rfl) rfl) rfl) rfl)) (da_cons (de_if (dt_cmp (fun _ hX => ho_ne hX.un) (vr 17) (de_l (dl_disp (da_nil))) rfl) (de_ix (vr 17) (de_int) (fun _ _ => rfl)) (de_non)) (da_nil) rfl) rfl)) (fun _ _ _ => rfl))) (dss_one (ds_ret (de_bl))) (dss_nil))))) (dss_nil))))))))))) (fun _ _ _ => rfl)) (dss_one (ds_ret (de_bl))))
set_option maxHeartbeats 0 in
theorem law_all {P : Program} {w : World} {K : PySem.W.Frag} {mg : Str → Option Value} {h : Heap} {fa : Addr} (X : K.In h) (G : h.Ns mainGlobals mg) (hmg : mg "law" = some (.ref fa)) (hF : lawOk f_law) (F__law_draws : FnIn K mg "_law_draws" s__law_draws ["script", "many"]) (F__law_steps : FnIn K mg "_law_steps" s__law_steps ["one", "other"]) (F__law_clusters : FnIn K mg "_law_clusters" s__law_clusters ["reports", "steps", "hours"]) (F__law_next : FnIn K mg "_law_next" s__law_next ["w", "many"]) (F__law_same : FnIn K mg "_law_same" s__law_same ["told", "due"]) (F_are_near : FnIn K mg "are_near" s_are_near ["one", "other", "steps", "hours"]) (F_clusters : FnIn K mg "clusters" s_clusters ["reports", "steps", "hours"]) (F_all_steps : FnIn K mg "all_steps" s_all_steps ["reports"]) (F_merges : FnIn K mg "merges" s_merges ["reports", "hours"]) (F__law_pick : FnIn K mg "_law_pick" s__law_pick ["w", "rows"]) (F_cluster_box : FnIn K mg "cluster_box" s_cluster_box ["cluster"]) (F_joined_at : FnIn K mg "joined_at" s_joined_at ["reports", "one", "other", "hours"]) (F_law : FnIn K mg "law" s_law ["script"]) (m_abs : mg "abs" = none) (m_any : mg "any" = none) (m_bool : mg "bool" = none) (m_int : mg "int" = none) (m_isinstance : mg "isinstance" = none) (m_len : mg "len" = none) (m_max : mg "max" = none) (m_min : mg "min" = none) (m_range : mg "range" = none) (m_set : mg "set" = none) (m_sorted : mg "sorted" = none) (m_str : mg "str" = none) (m_tuple : mg "tuple" = none) : ∃ fd : FuncData, (∀ (s : Shared) (v : Value), BindsTo s fd ⟨[v], []⟩ [("script", v)]) ∧ ∀ base : Heap, K.In base → base.Ns mainGlobals mg → FnOk P w K mg base CX0 7 fa fd ["script"] (spLaw K) := by
  refine law_mk (N := N_law) hmg F_law sc_law (fun base _ _ => ?_) hF
  have h__law_draws : Kn (cM P w K mg base) "_law_draws" 1 (SpG (cM P w K mg base).c0 f__law_draws) := kn_G F__law_draws sc__law_draws (d__law_draws m_abs m_int m_len m_range)
  have h__law_steps : Kn (cM P w K mg base) "_law_steps" 1 (SpP f__law_steps) := kn_P F__law_steps sc__law_steps (d__law_steps m_abs)
  have h__law_clusters : Kn (cM P w K mg base) "_law_clusters" 2 (SpP f__law_clusters) := kn_P F__law_clusters sc__law_clusters (d__law_clusters m_abs m_len m_sorted m_tuple h__law_steps)
  have h__law_next : Kn (cM P w K mg base) "_law_next" 1 (SpG (cM P w K mg base).c0 f__law_next) := kn_G F__law_next sc__law_next (d__law_next m_int m_len)
  have h__law_same : Kn (cM P w K mg base) "_law_same" 6 (SpP (f__law_same 6)) := by
    have H : ∀ n, Kn (cM P w K mg base) "_law_same" (0 + n) (SpP (f__law_same n)) := by
      intro n
      induction n with
      | zero => exact kn_0m F__law_same _
      | succ n ih => exact kn_P F__law_same sc__law_same (d__law_same _ _ (Nat.le_add_right _ _) m_bool m_int m_isinstance m_len m_range m_str m_tuple ih)
    exact H 6
  have h_are_near : Kn (cM P w K mg base) "are_near" 1 (SpP f_are_near) := kn_P F_are_near sc_are_near (d_are_near m_abs)
  have h_clusters : Kn (cM P w K mg base) "clusters" 2 (SpP f_clusters) := kn_P F_clusters sc_clusters (d_clusters m_len m_sorted m_tuple h_are_near)
  have h_all_steps : Kn (cM P w K mg base) "all_steps" 1 (SpP f_all_steps) := kn_P F_all_steps sc_all_steps (d_all_steps m_abs m_set m_sorted)
  have h_merges : Kn (cM P w K mg base) "merges" 3 (SpP f_merges) := kn_P F_merges sc_merges (d_merges m_len m_tuple h_clusters h_all_steps)
  have h__law_pick : Kn (cM P w K mg base) "_law_pick" 2 (SpG (cM P w K mg base).c0 f__law_pick) := kn_G F__law_pick sc__law_pick (d__law_pick m_len h__law_next)
  have h_cluster_box : Kn (cM P w K mg base) "cluster_box" 1 (SpP f_cluster_box) := kn_P F_cluster_box sc_cluster_box (d_cluster_box m_max m_min)
  have h_joined_at : Kn (cM P w K mg base) "joined_at" 3 (SpP f_joined_at) := kn_P F_joined_at sc_joined_at (d_joined_at m_any h_clusters h_all_steps)
  exact d_law m_len m_max m_min m_range m_tuple h__law_draws h__law_clusters h__law_next h__law_same h_clusters h_merges h__law_pick h_cluster_box h_joined_at
end
set_option maxHeartbeats 0 in
theorem all_mk {l : PySem.W.OpenLaw} {w : World} {K : PySem.W.Frag} {h : Heap} {mg : Str → Option Value} {fa : Addr} (X : K.In h) (G : h.Ns mainGlobals mg) (hmg : mg "law" = some (.ref fa)) (hF : lawOk f_law) {f0 : Addr} {od0 an0 : Option Addr} {sl0 : Array (Option Value)} {oc0 kV0 dc0 pm0 cd0 ct0 : Value} (a0 : PySem.W.nsIn K mainGlobals "_law_draws" = some (some (.ref f0))) (l0 : K.lookup f0 = some ⟨oc0, od0, .func (PySem.W.fnOf "_law_draws" "_law_draws" (defArgs s__law_draws) (defBody s__law_draws) (defScope s__law_draws) .none kV0 dc0 pm0 an0 cd0 ct0), sl0⟩) (c0 : PySem.W.codeIn K cd0 "_law_draws" = true) (k0 : PySem.W.keepIn K (.ref f0) = true) {f1 : Addr} {od1 an1 : Option Addr} {sl1 : Array (Option Value)} {oc1 kV1 dc1 pm1 cd1 ct1 : Value} (a1 : PySem.W.nsIn K mainGlobals "_law_steps" = some (some (.ref f1))) (l1 : K.lookup f1 = some ⟨oc1, od1, .func (PySem.W.fnOf "_law_steps" "_law_steps" (defArgs s__law_steps) (defBody s__law_steps) (defScope s__law_steps) .none kV1 dc1 pm1 an1 cd1 ct1), sl1⟩) (c1 : PySem.W.codeIn K cd1 "_law_steps" = true) (k1 : PySem.W.keepIn K (.ref f1) = true) {f2 : Addr} {od2 an2 : Option Addr} {sl2 : Array (Option Value)} {oc2 kV2 dc2 pm2 cd2 ct2 : Value} (a2 : PySem.W.nsIn K mainGlobals "_law_clusters" = some (some (.ref f2))) (l2 : K.lookup f2 = some ⟨oc2, od2, .func (PySem.W.fnOf "_law_clusters" "_law_clusters" (defArgs s__law_clusters) (defBody s__law_clusters) (defScope s__law_clusters) .none kV2 dc2 pm2 an2 cd2 ct2), sl2⟩) (c2 : PySem.W.codeIn K cd2 "_law_clusters" = true) (k2 : PySem.W.keepIn K (.ref f2) = true) {f3 : Addr} {od3 an3 : Option Addr} {sl3 : Array (Option Value)} {oc3 kV3 dc3 pm3 cd3 ct3 : Value} (a3 : PySem.W.nsIn K mainGlobals "_law_next" = some (some (.ref f3))) (l3 : K.lookup f3 = some ⟨oc3, od3, .func (PySem.W.fnOf "_law_next" "_law_next" (defArgs s__law_next) (defBody s__law_next) (defScope s__law_next) .none kV3 dc3 pm3 an3 cd3 ct3), sl3⟩) (c3 : PySem.W.codeIn K cd3 "_law_next" = true) (k3 : PySem.W.keepIn K (.ref f3) = true) {f4 : Addr} {od4 an4 : Option Addr} {sl4 : Array (Option Value)} {oc4 kV4 dc4 pm4 cd4 ct4 : Value} (a4 : PySem.W.nsIn K mainGlobals "_law_same" = some (some (.ref f4))) (l4 : K.lookup f4 = some ⟨oc4, od4, .func (PySem.W.fnOf "_law_same" "_law_same" (defArgs s__law_same) (defBody s__law_same) (defScope s__law_same) .none kV4 dc4 pm4 an4 cd4 ct4), sl4⟩) (c4 : PySem.W.codeIn K cd4 "_law_same" = true) (k4 : PySem.W.keepIn K (.ref f4) = true) {f5 : Addr} {od5 an5 : Option Addr} {sl5 : Array (Option Value)} {oc5 kV5 dc5 pm5 cd5 ct5 : Value} (a5 : PySem.W.nsIn K mainGlobals "are_near" = some (some (.ref f5))) (l5 : K.lookup f5 = some ⟨oc5, od5, .func (PySem.W.fnOf "are_near" "are_near" (defArgs s_are_near) (defBody s_are_near) (defScope s_are_near) .none kV5 dc5 pm5 an5 cd5 ct5), sl5⟩) (c5 : PySem.W.codeIn K cd5 "are_near" = true) (k5 : PySem.W.keepIn K (.ref f5) = true) {f6 : Addr} {od6 an6 : Option Addr} {sl6 : Array (Option Value)} {oc6 kV6 dc6 pm6 cd6 ct6 : Value} (a6 : PySem.W.nsIn K mainGlobals "clusters" = some (some (.ref f6))) (l6 : K.lookup f6 = some ⟨oc6, od6, .func (PySem.W.fnOf "clusters" "clusters" (defArgs s_clusters) (defBody s_clusters) (defScope s_clusters) .none kV6 dc6 pm6 an6 cd6 ct6), sl6⟩) (c6 : PySem.W.codeIn K cd6 "clusters" = true) (k6 : PySem.W.keepIn K (.ref f6) = true) {f7 : Addr} {od7 an7 : Option Addr} {sl7 : Array (Option Value)} {oc7 kV7 dc7 pm7 cd7 ct7 : Value} (a7 : PySem.W.nsIn K mainGlobals "all_steps" = some (some (.ref f7))) (l7 : K.lookup f7 = some ⟨oc7, od7, .func (PySem.W.fnOf "all_steps" "all_steps" (defArgs s_all_steps) (defBody s_all_steps) (defScope s_all_steps) .none kV7 dc7 pm7 an7 cd7 ct7), sl7⟩) (c7 : PySem.W.codeIn K cd7 "all_steps" = true) (k7 : PySem.W.keepIn K (.ref f7) = true) {f8 : Addr} {od8 an8 : Option Addr} {sl8 : Array (Option Value)} {oc8 kV8 dc8 pm8 cd8 ct8 : Value} (a8 : PySem.W.nsIn K mainGlobals "merges" = some (some (.ref f8))) (l8 : K.lookup f8 = some ⟨oc8, od8, .func (PySem.W.fnOf "merges" "merges" (defArgs s_merges) (defBody s_merges) (defScope s_merges) .none kV8 dc8 pm8 an8 cd8 ct8), sl8⟩) (c8 : PySem.W.codeIn K cd8 "merges" = true) (k8 : PySem.W.keepIn K (.ref f8) = true) {f9 : Addr} {od9 an9 : Option Addr} {sl9 : Array (Option Value)} {oc9 kV9 dc9 pm9 cd9 ct9 : Value} (a9 : PySem.W.nsIn K mainGlobals "_law_pick" = some (some (.ref f9))) (l9 : K.lookup f9 = some ⟨oc9, od9, .func (PySem.W.fnOf "_law_pick" "_law_pick" (defArgs s__law_pick) (defBody s__law_pick) (defScope s__law_pick) .none kV9 dc9 pm9 an9 cd9 ct9), sl9⟩) (c9 : PySem.W.codeIn K cd9 "_law_pick" = true) (k9 : PySem.W.keepIn K (.ref f9) = true) {f10 : Addr} {od10 an10 : Option Addr} {sl10 : Array (Option Value)} {oc10 kV10 dc10 pm10 cd10 ct10 : Value} (a10 : PySem.W.nsIn K mainGlobals "cluster_box" = some (some (.ref f10))) (l10 : K.lookup f10 = some ⟨oc10, od10, .func (PySem.W.fnOf "cluster_box" "cluster_box" (defArgs s_cluster_box) (defBody s_cluster_box) (defScope s_cluster_box) .none kV10 dc10 pm10 an10 cd10 ct10), sl10⟩) (c10 : PySem.W.codeIn K cd10 "cluster_box" = true) (k10 : PySem.W.keepIn K (.ref f10) = true) {f11 : Addr} {od11 an11 : Option Addr} {sl11 : Array (Option Value)} {oc11 kV11 dc11 pm11 cd11 ct11 : Value} (a11 : PySem.W.nsIn K mainGlobals "joined_at" = some (some (.ref f11))) (l11 : K.lookup f11 = some ⟨oc11, od11, .func (PySem.W.fnOf "joined_at" "joined_at" (defArgs s_joined_at) (defBody s_joined_at) (defScope s_joined_at) .none kV11 dc11 pm11 an11 cd11 ct11), sl11⟩) (c11 : PySem.W.codeIn K cd11 "joined_at" = true) (k11 : PySem.W.keepIn K (.ref f11) = true) {f12 : Addr} {od12 an12 : Option Addr} {sl12 : Array (Option Value)} {oc12 kV12 dc12 pm12 cd12 ct12 : Value} (a12 : PySem.W.nsIn K mainGlobals "law" = some (some (.ref f12))) (l12 : K.lookup f12 = some ⟨oc12, od12, .func (PySem.W.fnOf "law" "law" (defArgs s_law) (defBody s_law) (defScope s_law) .none kV12 dc12 pm12 an12 cd12 ct12), sl12⟩) (c12 : PySem.W.codeIn K cd12 "law" = true) (k12 : PySem.W.keepIn K (.ref f12) = true) (z_abs : PySem.W.nsIn K mainGlobals "abs" = some none) (z_any : PySem.W.nsIn K mainGlobals "any" = some none) (z_bool : PySem.W.nsIn K mainGlobals "bool" = some none) (z_int : PySem.W.nsIn K mainGlobals "int" = some none) (z_isinstance : PySem.W.nsIn K mainGlobals "isinstance" = some none) (z_len : PySem.W.nsIn K mainGlobals "len" = some none) (z_max : PySem.W.nsIn K mainGlobals "max" = some none) (z_min : PySem.W.nsIn K mainGlobals "min" = some none) (z_range : PySem.W.nsIn K mainGlobals "range" = some none) (z_set : PySem.W.nsIn K mainGlobals "set" = some none) (z_sorted : PySem.W.nsIn K mainGlobals "sorted" = some none) (z_str : PySem.W.nsIn K mainGlobals "str" = some none) (z_tuple : PySem.W.nsIn K mainGlobals "tuple" = some none) :
    ∃ fd : FuncData, (∀ (s : Shared) (v : Value), BindsTo s fd ⟨[v], []⟩ [("script", v)]) ∧ ∀ base : Heap, K.In base → base.Ns mainGlobals mg → FnOk l.prog w K mg base CX0 7 fa fd ["script"] (spLaw K) :=
  law_all X G hmg hF (FnIn.mk' (st := s__law_draws) (ps := ["script", "many"]) X G a0 l0 c0 k0 (fun _ _ _ _ _ _ us hl => match us, hl with | [_, _], _ => rfl)) (FnIn.mk' (st := s__law_steps) (ps := ["one", "other"]) X G a1 l1 c1 k1 (fun _ _ _ _ _ _ us hl => match us, hl with | [_, _], _ => rfl)) (FnIn.mk' (st := s__law_clusters) (ps := ["reports", "steps", "hours"]) X G a2 l2 c2 k2 (fun _ _ _ _ _ _ us hl => match us, hl with | [_, _, _], _ => rfl)) (FnIn.mk' (st := s__law_next) (ps := ["w", "many"]) X G a3 l3 c3 k3 (fun _ _ _ _ _ _ us hl => match us, hl with | [_, _], _ => rfl)) (FnIn.mk' (st := s__law_same) (ps := ["told", "due"]) X G a4 l4 c4 k4 (fun _ _ _ _ _ _ us hl => match us, hl with | [_, _], _ => rfl)) (FnIn.mk' (st := s_are_near) (ps := ["one", "other", "steps", "hours"]) X G a5 l5 c5 k5 (fun _ _ _ _ _ _ us hl => match us, hl with | [_, _, _, _], _ => rfl)) (FnIn.mk' (st := s_clusters) (ps := ["reports", "steps", "hours"]) X G a6 l6 c6 k6 (fun _ _ _ _ _ _ us hl => match us, hl with | [_, _, _], _ => rfl)) (FnIn.mk' (st := s_all_steps) (ps := ["reports"]) X G a7 l7 c7 k7 (fun _ _ _ _ _ _ us hl => match us, hl with | [_], _ => rfl)) (FnIn.mk' (st := s_merges) (ps := ["reports", "hours"]) X G a8 l8 c8 k8 (fun _ _ _ _ _ _ us hl => match us, hl with | [_, _], _ => rfl)) (FnIn.mk' (st := s__law_pick) (ps := ["w", "rows"]) X G a9 l9 c9 k9 (fun _ _ _ _ _ _ us hl => match us, hl with | [_, _], _ => rfl)) (FnIn.mk' (st := s_cluster_box) (ps := ["cluster"]) X G a10 l10 c10 k10 (fun _ _ _ _ _ _ us hl => match us, hl with | [_], _ => rfl)) (FnIn.mk' (st := s_joined_at) (ps := ["reports", "one", "other", "hours"]) X G a11 l11 c11 k11 (fun _ _ _ _ _ _ us hl => match us, hl with | [_, _, _, _], _ => rfl)) (FnIn.mk' (st := s_law) (ps := ["script"]) X G a12 l12 c12 k12 (fun _ _ _ _ _ _ us hl => match us, hl with | [_], _ => rfl)) (PySem.W.mg_none_of X G z_abs) (PySem.W.mg_none_of X G z_any) (PySem.W.mg_none_of X G z_bool) (PySem.W.mg_none_of X G z_int) (PySem.W.mg_none_of X G z_isinstance) (PySem.W.mg_none_of X G z_len) (PySem.W.mg_none_of X G z_max) (PySem.W.mg_none_of X G z_min) (PySem.W.mg_none_of X G z_range) (PySem.W.mg_none_of X G z_set) (PySem.W.mg_none_of X G z_sorted) (PySem.W.mg_none_of X G z_str) (PySem.W.mg_none_of X G z_tuple)
end DL
namespace DL
open PySem PySem.Spec L2
open PyProof.Rows hiding St
/-! dicts with keys of one kind, as rows of pairs -/
section
variable {α β : Type} [DecidableEq α] {n : Nat} {e : α → PyData} {f : β → PyData}
def putA (l : List (α × β)) (k : α) (v : β) : List (α × β) := if (l.any fun p => decide (p.1 = k)) = true then l.map (fun p => if p.1 = k then (p.1, v) else p) else l ++ [(k, v)]
def mergeA (ps : List (α × β)) : List (α × β) := ps.foldl (fun acc p => putA acc p.1 p.2) []
def asD (e : α → PyData) (f : β → PyData) (l : List (α × β)) : List (PyData × PyData) := l.map fun p => (e p.1, f p.2)
theorem putA_D (h : Enc n e) {l : List (α × β)} {k : α} {v : β} : putD (asD e f l) (e k) (f v) = asD e f (putA l k v) := by
  unfold putD putA asD
  have e1 : ((l.map fun p => (e p.1, f p.2)).any fun p => PyData.eqv p.1 (e k)) = l.any fun p => decide (p.1 = k) := by
    rw [List.any_map]
    congr 1
    funext p
    exact h.eqv _ _
  rw [e1]
  split
  · rw [List.map_map, List.map_map]
    refine List.map_congr_left fun p _ => ?_
    show (if PyData.eqv (e p.1) (e k) = true then (e p.1, f v) else (e p.1, f p.2)) = (e (if p.1 = k then (p.1, v) else p).1, f (if p.1 = k then (p.1, v) else p).2)
    rw [h.eqv]
    by_cases hk : p.1 = k <;> simp [hk]
  · simp
theorem mergeA_D (h : Enc n e) (ps : List (α × β)) : mergeD (asD e f ps) = asD e f (mergeA ps) := by
  have key : ∀ (ps acc : List (α × β)), (asD e f ps).foldl (fun acc p => putD acc p.1 p.2) (asD e f acc) = asD e f (ps.foldl (fun acc p => putA acc p.1 p.2) acc) := fun ps => by
    induction ps with
    | nil => intro acc; rfl
    | cons p ps ih =>
      intro acc
      show (asD e f ps).foldl _ (putD (asD e f acc) (e p.1) (f p.2)) = _
      rw [putA_D h, ih]
      rfl
  exact key ps []
theorem putA_keys {l : List (α × β)} {k : α} {v : β} : (putA l k v).map (·.1) = if k ∈ l.map (·.1) then l.map (·.1) else l.map (·.1) ++ [k] := by
  unfold putA
  have e1 : (l.any fun p => decide (p.1 = k)) = decide (k ∈ l.map (·.1)) := by
    rw [Bool.eq_iff_iff, List.any_eq_true, decide_eq_true_eq, List.mem_map]
    exact ⟨fun ⟨p, hp, q⟩ => ⟨p, hp, of_decide_eq_true q⟩, fun ⟨p, hp, q⟩ => ⟨p, hp, decide_eq_true q⟩⟩
  rw [e1]
  by_cases hk : k ∈ l.map (·.1)
  · rw [if_pos (decide_eq_true hk), if_pos hk, List.map_map]
    refine List.map_congr_left fun p _ => ?_
    show (if p.1 = k then (p.1, v) else p).1 = p.1
    split <;> rfl
  · rw [if_neg (by simpa using hk), if_neg hk, List.map_append]
    rfl
theorem putA_mem {l : List (α × β)} {k : α} {v : β} {a : α} : a ∈ (putA l k v).map (·.1) ↔ a ∈ l.map (·.1) ∨ a = k := by
  rw [putA_keys]
  split
  · rename_i h
    exact ⟨.inl, fun q => q.elim id fun q => q ▸ h⟩
  · rw [List.mem_append, List.mem_singleton]
theorem putA_nodup {l : List (α × β)} {k : α} {v : β} (h : (l.map (·.1)).Nodup) : ((putA l k v).map (·.1)).Nodup := by
  rw [putA_keys]
  split
  · exact h
  · rename_i hk
    rw [List.nodup_append]
    exact ⟨h, by simp, fun a ha b hb q => by rw [List.mem_singleton] at hb; subst hb; subst q; exact hk ha⟩
theorem mergeA_keys : ∀ {ps : List (α × β)}, ((mergeA ps).map (·.1)).Nodup ∧ ∀ a, a ∈ (mergeA ps).map (·.1) ↔ a ∈ ps.map (·.1) := fun {ps} => by
  have key : ∀ (ps acc : List (α × β)), (acc.map (·.1)).Nodup → ((ps.foldl (fun acc p => putA acc p.1 p.2) acc).map (·.1)).Nodup ∧ ∀ a, a ∈ (ps.foldl (fun acc p => putA acc p.1 p.2) acc).map (·.1) ↔ a ∈ acc.map (·.1) ∨ a ∈ ps.map (·.1) := fun ps => by
    induction ps with
    | nil => intro acc h; exact ⟨h, fun a => by simp⟩
    | cons p ps ih =>
      intro acc h
      obtain ⟨h1, h2⟩ := ih (putA acc p.1 p.2) (putA_nodup h)
      refine ⟨h1, fun a => (h2 a).trans ?_⟩
      rw [putA_mem, List.map_cons, List.mem_cons, or_assoc]
  obtain ⟨h1, h2⟩ := key ps [] (by simp)
  exact ⟨h1, fun a => (h2 a).trans (by simp)⟩
def getA (l : List (α × β)) (k : α) : Option β := (l.find? fun p => decide (p.1 = k)).map (·.2)
theorem getA_put {l : List (α × β)} {k : α} {v : β} {a : α} : getA (putA l k v) a = if a = k then some v else getA l a := by
  unfold getA putA
  have find_none : ∀ {l : List (α × β)} {a : α}, (l.any fun p => decide (p.1 = a)) = false → (l.find? fun p => decide (p.1 = a)) = none := fun {l a} h => by
    rw [List.find?_eq_none]
    intro p hp q
    have : (l.any fun p => decide (p.1 = a)) = true := List.any_eq_true.mpr ⟨p, hp, q⟩
    rw [this] at h; cases h
  cases hk : (l.any fun p => decide (p.1 = k)) with
  | true =>
    rw [if_pos rfl]
    induction l with
    | nil => simp at hk
    | cons p l ih =>
      rw [List.map_cons, List.find?_cons, List.find?_cons]
      by_cases hp : p.1 = k
      · rw [if_pos hp]
        by_cases ha : a = k
        · subst ha; simp [hp]
        · have hpa : ¬ p.1 = a := fun z => ha (z.symm.trans hp)
          simp only [hpa, decide_false, if_neg ha]
          cases hl : (l.any fun p => decide (p.1 = k)) with
          | true => have := ih hl; rwa [if_neg ha] at this
          | false =>
            have : (l.map fun p => if p.1 = k then (p.1, v) else p) = l := by
              refine (List.map_congr_left fun q hq => ?_).trans (List.map_id l)
              have : ¬ q.1 = k := fun z => by
                have : (l.any fun p => decide (p.1 = k)) = true := List.any_eq_true.mpr ⟨q, hq, decide_eq_true z⟩
                rw [this] at hl; cases hl
              rw [if_neg this]; rfl
            rw [this]
      · rw [if_neg hp]
        have hl : (l.any fun p => decide (p.1 = k)) = true := by
          rw [List.any_cons, decide_eq_false hp, Bool.false_or] at hk
          exact hk
        by_cases hpa : p.1 = a
        · have ha : ¬ a = k := fun z => hp (hpa.trans z)
          simp [hpa, ha]
        · have := ih hl
          simp only [hpa, decide_false]
          exact this
  | false =>
    rw [if_neg (by simp), List.find?_append]
    by_cases ha : a = k
    · subst ha
      simp [find_none hk]
    · rw [if_neg ha]
      have : ([(k, v)].find? fun p => decide (p.1 = a)) = none := by
        rw [List.find?_cons, decide_eq_false (fun z : k = a => ha z.symm)]; rfl
      rw [this, Option.or_none]
end

@[simp ↓] theorem w_extL {xs ys : List PyData} {Q : PyData → Prop} : W (extD (.list xs) (.list ys)) Q = (xs.length + ys.length ≤ sizeLine ∧ Q (.list (xs ++ ys))) := W_req
@[simp ↓] theorem w_extT {xs ys : List PyData} {Q : PyData → Prop} : W (extD (.list xs) (.tuple ys)) Q = (xs.length + ys.length ≤ sizeLine ∧ Q (.list (xs ++ ys))) := W_req
theorem Enc.sort_nodup {α : Type} [DecidableEq α] {n : Nat} {e : α → PyData} (h : Enc n e) {ks xs : List α} (h1 : ks.Nodup) (h2 : ∀ a, a ∈ ks ↔ a ∈ xs) : sortE e ks = usetE e xs := by
  refine strict_ext (lt := ltE e) ltE_irrefl (fun _ _ _ => ltE_trans) ?_ h.uset_strict fun a => ?_
  · have hs : (sortE e ks).Pairwise (leE e) := sortE_sorted
    have hn : (sortE e ks).Nodup := sortE_perm.nodup_iff.mpr h1
    refine (hs.and hn).imp fun {a b} q => Classical.byContradiction fun z => q.2 (h.anti q.1 (leE_def.mpr z))
  · rw [sortE_perm.mem_iff, h2, h.uset_mem]
end DL
namespace DL
open PySem PySem.Spec L2
section
variable {α β : Type} [DecidableEq α] {n : Nat} {e : α → PyData} {f : β → PyData}
theorem getA_merge {F : α → β} (l : List α) (a : α) : getA (mergeA (l.map fun c => (c, F c))) a = if a ∈ l then some (F a) else none := by
  have key : ∀ (l : List α) (acc : List (α × β)), getA ((l.map fun c => (c, F c)).foldl (fun acc p => putA acc p.1 p.2) acc) a = if a ∈ l then some (F a) else getA acc a := fun l => by
    induction l with
    | nil => intro acc; simp
    | cons c l ih =>
      intro acc
      rw [List.map_cons, List.foldl_cons, ih, getA_put]
      by_cases h1 : a ∈ l
      · simp [h1]
      · by_cases h2 : a = c
        · subst h2; simp [h1]
        · simp [h1, h2]
  exact key l []
theorem getA_D (h : Enc n e) {l : List (α × β)} {k : α} : getK (asD e f l) (e k) = (getA l k).map f := by
  unfold getK getA asD
  induction l with
  | nil => rfl
  | cons p l ih =>
    rw [List.map_cons, List.find?_cons, List.find?_cons, h.eqv]
    by_cases q : p.1 = k
    · simp [q]
    · simp only [decide_eq_false q]
      exact ih
end
theorem keyOk_pr {β : Type} {f : β → PyData} {l : List ((Int × Int) × β)} {k : Int × Int} : keyOk (asD pr f l) (pr k) = true := by
  have : ((asD pr f l).all fun p => isKT p.1) = true := by
    unfold asD
    rw [List.all_map, List.all_eq_true]
    exact fun _ _ => rfl
  unfold keyOk
  rw [this]
  rfl
theorem ixA_pr {β : Type} {f : β → PyData} {l : List ((Int × Int) × β)} {k : Int × Int} : ixD (.dict (asD pr f l)) (pr k) = (getA l k).map f := by
  show (if keyOk _ _ = true then getK _ _ else none) = _
  rw [if_pos keyOk_pr, getA_D enc_pr]
theorem inA_pr {β : Type} {f : β → PyData} {l : List ((Int × Int) × β)} {k : Int × Int} : inD (pr k) (.dict (asD pr f l)) = some (.bool (getA l k).isSome) := by
  show (if keyOk _ _ = true then some (PyData.bool (getK _ _).isSome) else none) = _
  rw [if_pos keyOk_pr, getA_D enc_pr]
  cases getA l k <;> rfl
end DL
namespace DL
open PySem PySem.Spec L2
open PyProof.Rows hiding St
/-! parts: what lies near each other, link by link -/
section
variable {α : Type} [DecidableEq α] {near : α → α → Bool} {R : List α}
inductive Conn (near : α → α → Bool) (R : List α) (a : α) : α → Prop
  | self : a ∈ R → Conn near R a a
  | step {b c : α} : Conn near R a b → c ∈ R → near b c = true → Conn near R a c
theorem Conn.mem {a b : α} (h : Conn near R a b) : b ∈ R := by
  cases h with
  | self h => exact h
  | step _ h _ => exact h
theorem Conn.mem1 {a b : α} (h : Conn near R a b) : a ∈ R := by
  induction h with
  | self h => exact h
  | step _ _ _ ih => exact ih
theorem Conn.trans {a b c : α} (h : Conn near R a b) (g : Conn near R b c) : Conn near R a c := by
  induction g with
  | self _ => exact h
  | step _ hm hn ih => exact .step ih hm hn
theorem Conn.symm (hs : ∀ a b, near a b = near b a) {a b : α} (h : Conn near R a b) : Conn near R b a := by
  induction h with
  | self h => exact .self h
  | step h1 hm hn ih => exact Conn.trans (.step (.self hm) h1.mem (by rw [hs]; exact hn)) ih
/-- a set with a's links closed holds what a is joined with -/
theorem Conn.closed {a b : α} (h : Conn near R a b) {P : α → Prop} (ha : P a) (hc : ∀ x y, P x → y ∈ R → near x y = true → P y) : P b := by
  induction h with
  | self _ => exact ha
  | step _ hm hn ih => exact hc _ _ ih hm hn
structure Parts (near : α → α → Bool) (R : List α) (G : List (List α)) : Prop where
  ne : ∀ g ∈ G, g ≠ []
  nd : ∀ g ∈ G, g.Nodup
  cov : ∀ x ∈ R, ∃ g ∈ G, x ∈ g
  conn : ∀ g ∈ G, ∀ x ∈ g, ∀ y ∈ g, Conn near R x y
  clo : ∀ g ∈ G, ∀ x ∈ g, ∀ y ∈ R, near x y = true → y ∈ g
  dis : G.Pairwise fun g h => ∀ x ∈ g, x ∉ h
theorem Parts.mem {G : List (List α)} (h : Parts near R G) {g : List α} (hg : g ∈ G) {x : α} (hx : x ∈ g) : x ∈ R := (h.conn g hg x hx x hx).mem
theorem Parts.is {G : List (List α)} (h : Parts near R G) {g : List α} (hg : g ∈ G) {x : α} (hx : x ∈ g) (y : α) : y ∈ g ↔ Conn near R x y := by
  constructor
  · exact h.conn g hg x hx y
  · intro c
    exact c.closed (P := fun z => z ∈ g) hx fun z w hz hw hn => h.clo g hg z hz w hw hn
theorem sort_same {n : Nat} {e : α → PyData} (he : Enc n e) {g h : List α} (n1 : g.Nodup) (n2 : h.Nodup) (hm : ∀ x, x ∈ g ↔ x ∈ h) : sortE e g = sortE e h := by
  rw [he.sort_nodup n1 (xs := h) hm, he.sort_nodup n2 (xs := h) fun _ => Iff.rfl]
theorem sort_mem_iff {e : α → PyData} {g : List α} {x : α} : x ∈ sortE e g ↔ x ∈ g := sortE_mem
/-- the parts, each sorted, and they sorted -/
def canon (e : α → PyData) (G : List (List α)) : List (List α) := sortE (fun g : List α => PyData.tuple (g.map e)) (G.map (sortE e))
theorem canon_nd {e : α → PyData} {G : List (List α)} (h : Parts near R G) : (G.map (sortE e)).Nodup := by
  rw [List.Nodup, List.pairwise_map]
  refine (List.Pairwise.and_mem.mp h.dis).imp ?_
  rintro g k ⟨hg, hk, hd⟩ z
  obtain ⟨x, hx⟩ := List.exists_mem_of_ne_nil _ (h.ne g hg)
  have h1 : x ∈ sortE e g := sortE_mem.mpr hx
  rw [z] at h1
  exact hd x hx (sortE_mem.mp h1)
theorem canon_same {n : Nat} {e : α → PyData} (he : Enc n e) {G K : List (List α)} (h : Parts near R G) (k : Parts near R K) : canon e G = canon e K := by
  have key : ∀ {G K : List (List α)}, Parts near R G → Parts near R K → ∀ s, s ∈ G.map (sortE e) → s ∈ K.map (sortE e) := fun {G K} h k s hs => by
    obtain ⟨g, hg, rfl⟩ := List.mem_map.mp hs
    obtain ⟨x, hx⟩ := List.exists_mem_of_ne_nil _ (h.ne g hg)
    obtain ⟨q, hq, hxq⟩ := k.cov x (h.mem hg hx)
    refine List.mem_map.mpr ⟨q, hq, ?_⟩
    exact sort_same he (k.nd q hq) (h.nd g hg) fun y => (k.is hq hxq y).trans (h.is hg hx y).symm
  unfold canon
  exact sort_same he.tup (canon_nd h) (canon_nd k) fun s => ⟨key h k s, key k h s⟩
end
end DL
namespace DL
open PySem PySem.Spec L2
open PyProof.Rows hiding St
/-! the program's walk over the parts -/
section
variable {α : Type} [DecidableEq α] {near : α → α → Bool} {R : List α}
structure Seg (near : α → α → Bool) (R : List α) (F : List (List α)) (L : List α) : Prop where
  ne : ∀ g ∈ F, g ≠ []
  nd : ∀ g ∈ F, g.Nodup
  conn : ∀ g ∈ F, ∀ x ∈ g, ∀ y ∈ g, Conn near R x y
  clo : ∀ g ∈ F, ∀ x ∈ g, ∀ y ∈ R, near x y = true → y ∈ g
  dis : F.Pairwise fun g h => ∀ x ∈ g, x ∉ h
  ln : L.Nodup
  lr : ∀ y ∈ L, y ∈ R
  cov : ∀ y ∈ R, y ∈ L ∨ ∃ g ∈ F, y ∈ g
  lf : ∀ g ∈ F, ∀ y ∈ g, y ∉ L
structure Grow (near : α → α → Bool) (R : List α) (F : List (List α)) (x : α) (P L : List α) (i : Nat) : Prop where
  seg : Seg near R F (P ++ L)
  hd : x ∈ P
  conn : ∀ y ∈ P, Conn near R x y
  le : i ≤ P.length
  done : ∀ y ∈ P.take i, ∀ z ∈ L, near y z = false
theorem Seg.start (h : R.Nodup) : Seg near R [] R := ⟨by simp, by simp, by simp, by simp, .nil, h, fun _ h => h, fun _ h => .inl h, by simp⟩
theorem Seg.begin {F : List (List α)} {x : α} {L : List α} (h : Seg near R F (x :: L)) : Grow near R F x [x] L 0 :=
  ⟨h, List.mem_cons_self, fun y hy => by rw [List.mem_singleton] at hy; rw [hy]; exact .self (h.lr x List.mem_cons_self), Nat.zero_le _, by simp⟩
theorem Seg.perm {F : List (List α)} {L K : List α} (h : Seg near R F L) (n : K.Nodup) (m : ∀ y, y ∈ K ↔ y ∈ L) : Seg near R F K :=
  ⟨h.ne, h.nd, h.conn, h.clo, h.dis, n, fun y hy => h.lr y ((m y).mp hy), fun y hy => (h.cov y hy).imp (m y).mpr id, fun g hg y hy z => h.lf g hg y hy ((m y).mp z)⟩
theorem Grow.next {F : List (List α)} {x : α} {P L : List α} {i : Nat} (h : Grow near R F x P L i) (hi : i < P.length) :
    Grow near R F x (P ++ L.filter fun z => near P[i] z) (L.filter fun z => !near P[i] z) (i + 1) := by
  have hp : P[i] ∈ P := List.getElem_mem hi
  have hn := h.seg.ln
  rw [List.nodup_append] at hn
  have hall : ∀ y, y ∈ (P ++ L.filter fun z => near P[i] z) ++ (L.filter fun z => !near P[i] z) ↔ y ∈ P ++ L := fun y => by
    simp only [List.mem_append, List.mem_filter]
    cases near P[i] y <;> simp
  refine ⟨h.seg.perm ?_ hall, List.mem_append.mpr (.inl h.hd), fun y hy => ?_, by rw [List.length_append]; omega, fun y hy z hz => ?_⟩
  · rw [List.nodup_append, List.nodup_append]
    refine ⟨⟨hn.1, hn.2.1.filter _, fun a ha b hb => hn.2.2 a ha b (List.mem_filter.mp hb).1⟩, hn.2.1.filter _, fun a ha b hb e => ?_⟩
    subst e
    obtain ⟨b1, b2⟩ := List.mem_filter.mp hb
    rcases List.mem_append.mp ha with ha | ha
    · exact hn.2.2 a ha a b1 rfl
    · have := (List.mem_filter.mp ha).2
      rw [this] at b2
      cases b2
  · rcases List.mem_append.mp hy with hy | hy
    · exact h.conn y hy
    · obtain ⟨y1, y2⟩ := List.mem_filter.mp hy
      exact .step (h.conn _ hp) (h.seg.lr y (List.mem_append.mpr (.inr y1))) y2
  · obtain ⟨z1, z2⟩ := List.mem_filter.mp hz
    rw [List.take_append_of_le_length (by omega), List.take_succ_eq_append_getElem hi] at hy
    rcases List.mem_append.mp hy with hy | hy
    · exact h.done y hy z z1
    · rw [List.mem_singleton] at hy
      rw [hy]
      simpa using z2
theorem Grow.fin (hs : ∀ a b, near a b = near b a) {F : List (List α)} {x : α} {P L : List α} {i : Nat} (h : Grow near R F x P L i) (hi : ¬ i < P.length) : Seg near R (F ++ [P]) L := by
  have hn := h.seg.ln
  rw [List.nodup_append] at hn
  have ht : P.take i = P := List.take_of_length_le (by omega)
  have hd := h.done
  rw [ht] at hd
  have hF : ∀ g ∈ F ++ [P], g ∈ F ∨ g = P := fun g hg => by
    rw [List.mem_append, List.mem_singleton] at hg
    exact hg
  refine ⟨fun g hg => ?_, fun g hg => ?_, fun g hg => ?_, fun g hg => ?_, ?_, hn.2.1, fun y hy => h.seg.lr y (List.mem_append.mpr (.inr hy)), fun y hy => ?_, fun g hg => ?_⟩
  · rcases hF g hg with hg | rfl
    · exact h.seg.ne g hg
    · exact List.ne_nil_of_mem h.hd
  · rcases hF g hg with hg | rfl
    · exact h.seg.nd g hg
    · exact hn.1
  · rcases hF g hg with hg | rfl
    · exact h.seg.conn g hg
    · exact fun a ha b hb => Conn.trans (Conn.symm hs (h.conn a ha)) (h.conn b hb)
  · rcases hF g hg with hg | rfl
    · exact h.seg.clo g hg
    · intro a ha b hb hnr
      rcases h.seg.cov b hb with z | ⟨k, hk, z⟩
      · rcases List.mem_append.mp z with z | z
        · exact z
        · rw [hd a ha b z] at hnr
          cases hnr
      · have := h.seg.clo k hk b z a (h.seg.lr a (List.mem_append.mpr (.inl ha))) (by rw [hs]; exact hnr)
        exact absurd (List.mem_append.mpr (.inl ha)) (h.seg.lf k hk a this)
  · rw [List.pairwise_append]
    refine ⟨h.seg.dis, List.pairwise_singleton _ _, fun g hg k hk y hy z => ?_⟩
    rw [List.mem_singleton] at hk
    subst hk
    exact h.seg.lf g hg y hy (List.mem_append.mpr (.inl z))
  · rcases h.seg.cov y hy with z | ⟨k, hk, z⟩
    · rcases List.mem_append.mp z with z | z
      · exact .inr ⟨P, List.mem_append.mpr (.inr (List.mem_singleton.mpr rfl)), z⟩
      · exact .inl z
    · exact .inr ⟨k, List.mem_append.mpr (.inl hk), z⟩
  · rcases hF g hg with hg | rfl
    · exact fun y hy z => h.seg.lf g hg y hy (List.mem_append.mpr (.inr z))
    · exact fun y hy z => hn.2.2 y hy y z rfl
theorem Seg.fin {F : List (List α)} (h : Seg near R F []) : Parts near R F :=
  ⟨h.ne, h.nd, fun x hx => (h.cov x hx).elim (fun z => by cases z) id, h.conn, h.clo, h.dis⟩
theorem Parts.congr {R' : List α} (m : ∀ y, y ∈ R ↔ y ∈ R') {G : List (List α)} (h : Parts near R G) : Parts near R' G := by
  have hc : ∀ {a b : α}, Conn near R a b → Conn near R' a b := fun {a b} c => by
    induction c with
    | self h => exact .self ((m _).mp h)
    | step _ hm hn ih => exact .step ih ((m _).mp hm) hn
  exact ⟨h.ne, h.nd, fun x hx => h.cov x ((m x).mpr hx), fun g hg x hx y hy => hc (h.conn g hg x hx y hy), fun g hg x hx y hy => h.clo g hg x hx y ((m y).mpr hy), h.dis⟩
end
/-! reports -/
abbrev Rp := (Int × Int) × Int × Int
abbrev rpD (r : Rp) : PyData := .tuple [pr r.1, .int r.2.1, .int r.2.2]
theorem enc_rp : Enc 2 rpD := Enc.trip (enc_pr.up (by decide : 1 ≤ 1)) (enc_int.up (by decide : 0 ≤ 1)) (enc_int.up (by decide : 0 ≤ 1))
def abI (i : Int) : Int := (i.natAbs : Int)
def stp (a b : Rp) : Int := abI (a.1.1 - b.1.1) + abI (a.1.2 - b.1.2)
def nearB (s h : Int) (a b : Rp) : Bool := decide (stp a b ≤ s) && decide (abI (a.2.1 - b.2.1) ≤ h)
theorem near_sym (s h : Int) (a b : Rp) : nearB s h a b = nearB s h b a := by
  have e : ∀ i j : Int, abI (i - j) = abI (j - i) := fun i j => by unfold abI; omega
  unfold nearB stp
  rw [e a.1.1, e a.1.2, e a.2.1]
theorem near_ok {a b : Rp} {s h : Int} : f_are_near [rpD a, rpD b, .int s, .int h] = some (.bool (nearB s h a b)) := by
  suffices H : W (f_are_near [rpD a, rpD b, .int s, .int h]) fun v => v = .bool (nearB s h a b) from W_out H
  unfold f_are_near b_are_near
  rw [w_runP]
  obtain ⟨⟨x, y⟩, u, l⟩ := a
  obtain ⟨⟨p, q⟩, v, m⟩ := b
  have i0 : ∀ a b c : PyData, atI [a, b, c] 0 = some a := fun _ _ _ => rfl
  have i1 : ∀ a b c : PyData, atI [a, b, c] 1 = some b := fun _ _ _ => rfl
  simp [i0, i1, pr, nearB, stp, abI]
  split <;> simp [*]
  exact decide_eq_decide.mpr Iff.rfl
theorem lsteps_ok {a b : Rp} : f__law_steps [rpD a, rpD b] = some (.int (stp a b)) := by
  suffices H : W (f__law_steps [rpD a, rpD b]) fun v => v = .int (stp a b) from W_out H
  unfold f__law_steps b__law_steps
  rw [w_runP]
  obtain ⟨⟨x, y⟩, u, l⟩ := a
  obtain ⟨⟨p, q⟩, v, m⟩ := b
  have i0 : ∀ a b c : PyData, atI [a, b, c] 0 = some a := fun _ _ _ => rfl
  have i1 : ∀ a b : PyData, atI [a, b] 1 = some b := fun _ _ => rfl
  have i2 : ∀ a b : PyData, atI [a, b] 0 = some a := fun _ _ => rfl
  simp [i0, i1, i2, pr, stp, abI]
end DL
namespace DL
open PySem PySem.Spec L2
open PyProof.Rows hiding St
abbrev gpD (g : List Rp) : PyData := .tuple (g.map rpD)
theorem enc_gp : Enc 3 gpD := enc_rp.tup
def foD (F : List (List Rp)) : List PyData := (F.map (sortE rpD)).map gpD
theorem nmem_of {α : Type} [DecidableEq α] {n : Nat} {e : α → PyData} (h : Enc n e) {xs : List α} {x : α} {b : Bool} (hb : x ∈ xs ↔ b = true) (hn : n ≤ 19 := by decide) : notInD (e x) (.list (xs.map e)) = some (.bool (!b)) := by
  rw [h.nmem_l (by omega)]
  congr 3
  rw [Bool.eq_iff_iff, decide_eq_true_eq]
  exact hb
theorem mem_of {α : Type} [DecidableEq α] {n : Nat} {e : α → PyData} (h : Enc n e) {xs : List α} {x : α} {b : Bool} (hb : x ∈ xs ↔ b = true) (hn : n ≤ 19 := by decide) : inD (e x) (.list (xs.map e)) = some (.bool b) := by
  rw [h.mem_l (by omega)]
  congr 2
  rw [Bool.eq_iff_iff, decide_eq_true_eq]
  exact hb
theorem filter_two {α : Type} {p : α → Bool} : ∀ {L : List α}, (L.filter p).length + (L.filter fun z => !p z).length = L.length
  | [] => rfl
  | x :: L => by
    have ih := filter_two (p := p) (L := L)
    rw [List.filter_cons, List.filter_cons]
    cases p x <;> simp <;> omega
theorem clusters_ok {R : List Rp} {s h : Int} (hnd : R.Nodup) (hl : R.length ≤ 20) : ∃ G, f_clusters [.tuple (R.map rpD), .int s, .int h] = some (.tuple ((canon rpD G).map gpD)) ∧ Parts (nearB s h) R G := by
  suffices H : W (f_clusters [.tuple (R.map rpD), .int s, .int h]) fun v => ∃ G, v = .tuple ((canon rpD G).map gpD) ∧ Parts (nearB s h) R G by
    obtain ⟨v, e, G, rfl, h⟩ := H
    exact ⟨G, e, h⟩
  have hz : (sizeLine : Nat) = 16777216 := sizeLine_eq
  unfold f_clusters b_clusters
  rw [w_runP]
  have hso := enc_rp.sorted_t (xs := R)
  have hsn : (sortE rpD R).Nodup := sortE_perm.nodup_iff.mpr hnd
  have hsl : (sortE rpD R).length ≤ 20 := by rw [sortE_len]; exact hl
  have hback : ∀ G, Parts (nearB s h) (sortE rpD R) G → Parts (nearB s h) R G := fun G z => z.congr fun y => sortE_mem
  generalize hTR : PyData.tuple (R.map rpD) = TR at *
  generalize sortE rpD R = R0 at *
  simp [hso]
  refine wh_ind (fun n ρ S => S = [] ∧ ∃ (F : List (List Rp)) (L : List Rp), ρ = [some (.p TR), some (.p (.int s)), some (.p (.int h)), some (.o (.list (L.map rpD))), some (.o (.list (foD F))), none, none, none, none] ∧ Seg (nearB s h) R0 F L ∧ F.length + L.length ≤ 20 ∧ n = L.length) (fun n ρ S hi => ?_) R0.length _ _ ⟨rfl, [], R0, rfl, Seg.start hsn, by simpa using hsl, rfl⟩
  obtain ⟨rfl, F, L, rfl, hS, hFL, rfl⟩ := hi
  have hne := enc_rp.nl0 (xs := L)
  cases L with
  | nil =>
    have hs2 := enc_gp.sorted_l (xs := F.map (sortE rpD))
    have hcan : sortE gpD (F.map (sortE rpD)) = canon rpD F := rfl
    rw [hcan] at hs2
    have hs2 : sortedL [.list (foD F)] = _ := hs2
    generalize foD F = FF at *
    have hne : neD (.list []) (.list []) = some (.bool false) := rfl
    simp [hne, hs2]
    exact ⟨F, rfl, hback F hS.fin⟩
  | cons x L1 =>
    have hne : neD (.list (rpD x :: L1.map rpD)) (.list []) = some (.bool true) := hne
    rw [List.length_cons] at hFL
    have hFFl : (foD F).length = F.length := by unfold foD; rw [List.length_map, List.length_map]
    have hsnoc : ∀ P, foD F ++ [gpD (sortE rpD P)] = foD (F ++ [P]) := fun P => by unfold foD; simp
    generalize hFF : foD F = FF at *
    simp [hne]
    refine wh_ind (fun n ρ S => S = [] ∧ ∃ (P L : List Rp) (i : Nat), ρ = [some (.p TR), some (.p (.int s)), some (.p (.int h)), some (.o (.list (L.map rpD))), some (.o (.list FF)), some (.o (.list (P.map rpD))), some (.p (.int (i : Int))), none, none] ∧ Grow (nearB s h) R0 F x P L i ∧ P.length + L.length = L1.length + 1 ∧ n = P.length + L.length - i) (fun n ρ S hi => ?_) (L1.length + 1) _ _ ⟨rfl, [x], L1, 0, rfl, hS.begin, by simp; omega, by simp; omega⟩
    obtain ⟨rfl, P, L, i, rfl, hG, hPL, rfl⟩ := hi
    by_cases hlt : i < P.length
    · have hix : atI (P.map rpD) (i : Int) = some (rpD P[i]) := by rw [atI_pos, List.getElem?_map, List.getElem?_eq_getElem hlt]; rfl
      have hn := hG.next hlt
      have hnm : ∀ z ∈ L, notInD (rpD z) (.list ((L.filter fun z => nearB s h P[i] z).map rpD)) = some (.bool (!nearB s h P[i] z)) := fun z hz2 => by
        refine nmem_of enc_rp (b := nearB s h P[i] z) ?_
        rw [List.mem_filter]
        exact ⟨fun w => w.2, fun w => ⟨hz2, w⟩⟩
      have hno := fun z => near_ok (a := P[i]) (b := z) (s := s) (h := h)
      have hle : (L.filter fun z => nearB s h P[i] z).length + (L.filter fun z => !nearB s h P[i] z).length = L.length := filter_two
      generalize P[i] = c at *
      generalize hXc : rpD c = Xc at *
      simp [hlt]
      refine ⟨by omega, ?_⟩
      refine w_compL (F := rpD) (fun z => nearB s h c z) rpD rfl (fun z hz2 => by
        have e1 := hno z
        generalize rpD z = Z at *
        simp [hix, e1]) ?_
      generalize hN : (L.filter fun z => nearB s h c z) = N at *
      simp
      refine ⟨by omega, ?_⟩
      refine w_compL (F := rpD) (fun z => !nearB s h c z) rpD rfl (fun z hz2 => by
        have e1 := hnm z hz2
        generalize hbb : nearB s h c z = bb at *
        generalize rpD z = Z at *
        generalize N.map rpD = ND at *
        simp [e1]) ?_
      generalize hM : (L.filter fun z => !nearB s h c z) = M at *
      simp
      have hN2 : (P ++ N).length = P.length + N.length := List.length_append
      exact ⟨by omega, (P ++ N).length + M.length - (i + 1), by omega, P ++ N, M, i + 1, ⟨rfl, by rw [List.map_append], by push_cast; rfl⟩, hn, by omega, rfl⟩
    · have hso2 := enc_rp.sorted_l (xs := P)
      have hfin := hG.fin (near_sym s h) hlt
      have hsn2 := hsnoc P
      have hPpos : 0 < P.length := List.length_pos_iff.mpr (List.ne_nil_of_mem hG.hd)
      have hFl2 : (F ++ [P]).length = F.length + 1 := by simp
      generalize hFP : F ++ [P] = FP at *
      generalize hSP : sortE rpD P = SP at *
      simp [hlt, hso2]
      exact ⟨by omega, L.length, by omega, FP, L, ⟨rfl, hsn2⟩, hfin, by omega, rfl⟩
end DL
namespace DL
open PySem PySem.Spec L2
open PyProof.Rows hiding St
/-! the law's groups, put together pair by pair -/
section
variable {α : Type} [DecidableEq α] {near : α → α → Bool} {R : List α}
structure Mg (near : α → α → Bool) (R : List α) (D : α → α → Prop) (G : List (List α)) : Prop where
  ne : ∀ g ∈ G, g ≠ []
  nd : ∀ g ∈ G, g.Nodup
  cov : ∀ x ∈ R, ∃ g ∈ G, x ∈ g
  conn : ∀ g ∈ G, ∀ x ∈ g, ∀ y ∈ g, Conn near R x y
  dis : G.Pairwise fun g h => ∀ x ∈ g, x ∉ h
  jo : ∀ a b, D a b → near a b = true → ∀ g ∈ G, a ∈ g → b ∈ g
theorem dis_of : ∀ {G : List (List α)}, G.Pairwise (fun g h => ∀ x ∈ g, x ∉ h) → ∀ {g h : List α} {x : α}, g ∈ G → h ∈ G → x ∈ g → x ∈ h → g = h
  | [], _, _, _, _, hg, _, _, _ => by cases hg
  | k :: G, p, g, h, x, hg, hh, xg, xh => by
    rw [List.pairwise_cons] at p
    rcases List.mem_cons.mp hg with rfl | hg1
    · rcases List.mem_cons.mp hh with rfl | hh
      · rfl
      · exact absurd xh (p.1 h hh x xg)
    · rcases List.mem_cons.mp hh with rfl | hh2
      · exact absurd xg (p.1 g (by assumption) x xh)
      · exact dis_of p.2 (by assumption) hh2 xg xh
def bothG (a b : α) (G : List (List α)) : List (List α) := G.filter fun g => decide (a ∈ g) || decide (b ∈ g)
def mergeG (a b : α) (G : List (List α)) : List (List α) := match bothG a b G with
  | [g, h] => (G.filter fun k => !decide (k ∈ [g, h])) ++ [g ++ h]
  | _ => G
theorem both_mem {a b : α} {G : List (List α)} {g : List α} : g ∈ bothG a b G ↔ g ∈ G ∧ (a ∈ g ∨ b ∈ g) := by
  unfold bothG
  rw [List.mem_filter, Bool.or_eq_true, decide_eq_true_eq, decide_eq_true_eq]
theorem Mg.start (h : R.Nodup) : Mg near R (fun _ _ => False) (R.map fun x => [x]) := by
  refine ⟨fun g hg => ?_, fun g hg => ?_, fun x hx => ⟨[x], List.mem_map.mpr ⟨x, hx, rfl⟩, List.mem_singleton.mpr rfl⟩, fun g hg x hx y hy => ?_, ?_, fun a b z => z.elim⟩
  · obtain ⟨x, _, rfl⟩ := List.mem_map.mp hg
    simp
  · obtain ⟨x, _, rfl⟩ := List.mem_map.mp hg
    simp
  · obtain ⟨z, hz, rfl⟩ := List.mem_map.mp hg
    rw [List.mem_singleton] at hx hy
    rw [hx, hy]
    exact .self hz
  · rw [List.pairwise_map]
    exact h.imp fun {x y} hxy z hz => by
      rw [List.mem_singleton] at hz ⊢
      rw [hz]
      exact hxy
theorem Mg.more {D E : α → α → Prop} {G : List (List α)} (h : Mg near R D G) (he : ∀ a b, E a b → D a b) : Mg near R E G := ⟨h.ne, h.nd, h.cov, h.conn, h.dis, fun a b z => h.jo a b (he a b z)⟩
theorem Mg.step (hs : ∀ a b, near a b = near b a) {D : α → α → Prop} {G : List (List α)} (h : Mg near R D G) {a b : α} (ha : a ∈ R) (hb : b ∈ R) (hn : near a b = true) :
    Mg near R (fun c d => D c d ∨ (c = a ∧ d = b)) (mergeG a b G) := by
  obtain ⟨ga, hga, haa⟩ := h.cov a ha
  obtain ⟨gb, hgb, hbb⟩ := h.cov b hb
  have h1 : ga ∈ bothG a b G := both_mem.mpr ⟨hga, .inl haa⟩
  have h2 : gb ∈ bothG a b G := both_mem.mpr ⟨hgb, .inr hbb⟩
  have hbm : ∀ g, g ∈ bothG a b G → g = ga ∨ g = gb := fun g hg => by
    obtain ⟨g1, g2 | g2⟩ := both_mem.mp hg
    · exact .inl (dis_of h.dis g1 hga g2 haa)
    · exact .inr (dis_of h.dis g1 hgb g2 hbb)
  have hbd : (bothG a b G).Pairwise fun g h => ∀ x ∈ g, x ∉ h := h.dis.filter _
  have same : ga = gb → Mg near R (fun c d => D c d ∨ (c = a ∧ d = b)) G := fun e => ⟨h.ne, h.nd, h.cov, h.conn, h.dis, fun c d z hcd g hg hc => by
    rcases z with z | ⟨rfl, rfl⟩
    · exact h.jo c d z hcd g hg hc
    · have := dis_of h.dis hg hga hc haa
      rw [this, e]
      exact hbb⟩
  unfold mergeG
  split
  · rename_i g k hgk
    rw [hgk] at h1 h2 hbm hbd
    have hgG : g ∈ G := (both_mem.mp (by rw [hgk]; exact List.mem_cons_self)).1
    have hkG : k ∈ G := (both_mem.mp (by rw [hgk]; exact List.mem_cons_of_mem _ List.mem_cons_self)).1
    rw [List.pairwise_cons] at hbd
    have hdk : ∀ x ∈ g, x ∉ k := hbd.1 k List.mem_cons_self
    have hne : g ≠ k := fun e => by
      obtain ⟨x, hx⟩ := List.exists_mem_of_ne_nil _ (h.ne g hgG)
      exact hdk x hx (e ▸ hx)
    have hcr : (a ∈ g ∧ b ∈ k) ∨ (a ∈ k ∧ b ∈ g) := by
      have q1 := hbm g List.mem_cons_self
      have q2 := hbm k (List.mem_cons_of_mem _ List.mem_cons_self)
      rcases q1 with q1 | q1
      · rcases q2 with q2 | q2
        · exact absurd (q1.trans q2.symm) hne
        · exact .inl ⟨q1 ▸ haa, q2 ▸ hbb⟩
      · rcases q2 with q2 | q2
        · exact .inr ⟨q2 ▸ haa, q1 ▸ hbb⟩
        · exact absurd (q1.trans q2.symm) hne
    have hcx : ∀ x ∈ g, ∀ y ∈ k, Conn near R x y := fun x hx y hy => by
      rcases hcr with ⟨c1, c2⟩ | ⟨c1, c2⟩
      · exact (Conn.step (h.conn g hgG x hx a c1) hb hn).trans (h.conn k hkG b c2 y hy)
      · exact (Conn.step (h.conn g hgG x hx b c2) ha (by rw [hs]; exact hn)).trans (h.conn k hkG a c1 y hy)
    have hF : ∀ q ∈ (G.filter fun k' => !decide (k' ∈ [g, k])) ++ [g ++ k], (q ∈ G ∧ q ≠ g ∧ q ≠ k) ∨ q = g ++ k := fun q hq => by
      rw [List.mem_append, List.mem_singleton, List.mem_filter] at hq
      refine hq.imp (fun z => ?_) id
      obtain ⟨z1, z2⟩ := z
      have z3 : ¬ q ∈ [g, k] := by simpa using z2
      exact ⟨z1, fun e => z3 (by rw [e]; exact List.mem_cons_self), fun e => z3 (by rw [e]; exact List.mem_cons_of_mem _ List.mem_cons_self)⟩
    refine ⟨fun q hq => ?_, fun q hq => ?_, fun x hx => ?_, fun q hq x hx y hy => ?_, ?_, fun c d z hcd q hq hc => ?_⟩
    · rcases hF q hq with z | rfl
      · exact h.ne q z.1
      · simp [h.ne g hgG]
    · rcases hF q hq with z | rfl
      · exact h.nd q z.1
      · rw [List.nodup_append]
        exact ⟨h.nd g hgG, h.nd k hkG, fun x hx y hy e => hdk x hx (e ▸ hy)⟩
    · obtain ⟨q, hq, hxq⟩ := h.cov x hx
      by_cases e : q ∈ [g, k]
      · refine ⟨g ++ k, List.mem_append.mpr (.inr (List.mem_singleton.mpr rfl)), ?_⟩
        rcases List.mem_cons.mp e with rfl | e
        · exact List.mem_append.mpr (.inl hxq)
        · rw [List.mem_singleton] at e
          exact List.mem_append.mpr (.inr (e ▸ hxq))
      · exact ⟨q, List.mem_append.mpr (.inl (List.mem_filter.mpr ⟨hq, by simpa using e⟩)), hxq⟩
    · rcases hF q hq with z | rfl
      · exact h.conn q z.1 x hx y hy
      · rcases List.mem_append.mp hx with hx | hx <;> rcases List.mem_append.mp hy with hy | hy
        · exact h.conn g hgG x hx y hy
        · exact hcx x hx y hy
        · exact Conn.symm hs (hcx y hy x hx)
        · exact h.conn k hkG x hx y hy
    · rw [List.pairwise_append]
      refine ⟨h.dis.filter _, List.pairwise_singleton _ _, fun q hq m hm x hx z => ?_⟩
      rw [List.mem_singleton] at hm
      subst hm
      obtain ⟨q1, q2⟩ := List.mem_filter.mp hq
      have q3 : ¬ q ∈ [g, k] := by simpa using q2
      rcases List.mem_append.mp z with z | z
      · exact q3 (by rw [dis_of h.dis q1 hgG hx z]; exact List.mem_cons_self)
      · exact q3 (by rw [dis_of h.dis q1 hkG hx z]; exact List.mem_cons_of_mem _ List.mem_cons_self)
    · rcases z with z | ⟨rfl, rfl⟩
      · rcases hF q hq with w | rfl
        · exact h.jo c d z hcd q w.1 hc
        · rcases List.mem_append.mp hc with hc | hc
          · exact List.mem_append.mpr (.inl (h.jo c d z hcd g hgG hc))
          · exact List.mem_append.mpr (.inr (h.jo c d z hcd k hkG hc))
      · rcases hF q hq with w | rfl
        · have q1 := dis_of h.dis w.1 hga hc haa
          have q2 : ga = g ∨ ga = k := by
            rcases List.mem_cons.mp h1 with e | e
            · exact .inl e
            · exact .inr (List.mem_singleton.mp e)
          rcases q2 with e | e
          · exact absurd (q1.trans e) w.2.1
          · exact absurd (q1.trans e) w.2.2
        · rcases hcr with ⟨_, c2⟩ | ⟨_, c2⟩
          · exact List.mem_append.mpr (.inr c2)
          · exact List.mem_append.mpr (.inl c2)
  · rename_i hno
    refine same (Classical.byContradiction fun hne => ?_)
    have hnd : (bothG a b G).Nodup := (List.Pairwise.and_mem.mp hbd).imp fun {x y} z e => by
      obtain ⟨w, hw⟩ := List.exists_mem_of_ne_nil _ (h.ne x (both_mem.mp z.1).1)
      exact z.2.2 w hw (e ▸ hw)
    have hle := hnd.length_le_of_subset (l₂ := [ga, gb]) fun g hg => by
      rcases hbm g hg with rfl | rfl <;> simp
    match hB : bothG a b G with
    | [] => rw [hB] at h1; cases h1
    | [g] =>
      rw [hB, List.mem_singleton] at h1 h2
      exact hne (h1.trans h2.symm)
    | [g, k] => exact hno g k hB
    | g :: k :: m :: r =>
      rw [hB] at hle
      simp at hle
theorem Mg.fin {D : α → α → Prop} {G : List (List α)} (h : Mg near R D G) (hd : ∀ a ∈ R, ∀ b ∈ R, D a b) : Parts near R G :=
  ⟨h.ne, h.nd, h.cov, h.conn, fun g hg x hx y hy hn => h.jo x y (hd x (h.conn g hg x hx x hx).mem y hy) hn g hg hx, h.dis⟩
end
end DL
namespace DL
open PySem PySem.Spec L2
open PyProof.Rows hiding St
/-! the law's groups -/
theorem Enc.lst {α : Type} [DecidableEq α] {n : Nat} {e : α → PyData} (h : Enc n e) : Enc (n + 1) (fun xs : List α => PyData.list (xs.map e)) :=
  ⟨fun xs => h.all (Nat.le_refl _) xs, fun xs ys => by show PyData.eqvAll _ _ = _; exact h.eqvAll xs ys, fun xs ys => by show PySem.W.alikeAll _ _ = true; exact h.alkAll xs ys, fun _ => rfl, .inr fun _ => rfl⟩
abbrev glD (g : List Rp) : PyData := .list (g.map rpD)
theorem enc_gl : Enc 3 glD := enc_rp.lst
theorem merge_len {α : Type} [DecidableEq α] {a b : α} {G : List (List α)} : (mergeG a b G).length ≤ G.length := by
  unfold mergeG
  split
  · rename_i g k hgk
    have h2 := filter_two (p := fun g => decide (a ∈ g) || decide (b ∈ g)) (L := G)
    have h3 : (G.filter fun g => decide (a ∈ g) || decide (b ∈ g)).length = 2 := by
      have : bothG a b G = G.filter fun g => decide (a ∈ g) || decide (b ∈ g) := rfl
      rw [← this, hgk]
      rfl
    have h4 : (G.filter fun k' => !decide (k' ∈ [g, k])) = G.filter fun g => !(decide (a ∈ g) || decide (b ∈ g)) := by
      refine List.filter_congr fun q hq => ?_
      have : q ∈ [g, k] ↔ (decide (a ∈ q) || decide (b ∈ q)) = true := by
        rw [← hgk, both_mem, Bool.or_eq_true, decide_eq_true_eq, decide_eq_true_eq]
        exact ⟨fun z => z.2, fun z => ⟨hq, z⟩⟩
      congr 1
      rw [Bool.eq_iff_iff, decide_eq_true_eq]
      exact this
    rw [List.length_append, h4]
    show _ + 1 ≤ _
    omega
  · exact Nat.le_refl _
def isIn {α : Type} [DecidableEq α] (a : α) (g : List α) : Bool := decide (a ∈ g)
theorem isIn_iff {α : Type} [DecidableEq α] {a : α} {g : List α} : a ∈ g ↔ isIn a g = true := by unfold isIn; rw [decide_eq_true_eq]
theorem both_is {α : Type} [DecidableEq α] {a b : α} {G : List (List α)} : (G.filter fun g => isIn a g || isIn b g) = bothG a b G := rfl
theorem merge_is {α : Type} [DecidableEq α] {a b : α} {G : List (List α)} : mergeG a b G = match bothG a b G with
  | [g, h] => (G.filter fun k => !isIn k [g, h]) ++ [g ++ h]
  | _ => G := by
  unfold mergeG
  cases bothG a b G with
  | nil => rfl
  | cons g r =>
    cases r with
    | nil => rfl
    | cons k r =>
      cases r with
      | cons _ _ => rfl
      | nil =>
        show (G.filter fun q => !decide (q ∈ [g, k])) ++ [g ++ k] = (G.filter fun q => !isIn q [g, k]) ++ [g ++ k]
        congr 1
        refine List.filter_congr fun q _ => ?_
        congr 1
        rw [Bool.eq_iff_iff, ← isIn_iff, decide_eq_true_eq]
theorem lclusters_ok {R : List Rp} {s h : Int} (hnd : R.Nodup) (hl : R.length ≤ 20) : ∃ G, f__law_clusters [.tuple (R.map rpD), .int s, .int h] = some (.tuple ((canon rpD G).map gpD)) ∧ Parts (nearB s h) R G := by
  suffices H : W (f__law_clusters [.tuple (R.map rpD), .int s, .int h]) fun v => ∃ G, v = .tuple ((canon rpD G).map gpD) ∧ Parts (nearB s h) R G by
    obtain ⟨v, e, G, rfl, h⟩ := H
    exact ⟨G, e, h⟩
  have hz : (sizeLine : Nat) = 16777216 := sizeLine_eq
  unfold f__law_clusters b__law_clusters
  rw [w_runP]
  have hg0 := Mg.start (near := nearB s h) hnd
  simp
  refine ⟨by omega, ?_⟩
  refine w_compA (F := rpD) (fun x => glD [x]) (fun x hx => by simp) ?_
  have hm : (R.map fun x => glD [x]) = (R.map fun x => [x]).map glD := by rw [List.map_map]; rfl
  rw [hm]
  have hgl : (R.map fun x => [x]).length ≤ 20 := by rw [List.length_map]; exact hl
  generalize (R.map fun x => [x]) = G0 at *
  simp
  refine ⟨by omega, ?_⟩
  refine forL_ix (F := rpD) (fun j ρ S => S = [] ∧ j ≤ R.length ∧ ∃ G : List (List Rp), ρ = [some (.p (.tuple (R.map rpD))), some (.p (.int s)), some (.p (.int h)), some (.p (.list (G.map glD))), none, none, none, none] ∧ Mg (nearB s h) R (fun c d => c ∈ R.take j ∧ d ∈ R) G ∧ G.length ≤ 20) (fun j hj ρ S hi => ?_) (fun ρ S hi => ?_) ⟨rfl, Nat.zero_le _, G0, rfl, hg0.more fun a b z => by simp at z, hgl⟩
  · obtain ⟨rfl, hjl, G, rfl, hG, hGl⟩ := hi
    have ha : R[j] ∈ R := List.getElem_mem hj
    have htk : ∀ p, p ∈ R.take (j + 1) ↔ p ∈ R.take j ∨ p = R[j] := fun p => by
      rw [List.take_succ_eq_append_getElem hj, List.mem_append, List.mem_singleton]
    generalize hra : R[j] = a at *
    generalize R.take j = T at *
    generalize R.take (j + 1) = T1 at *
    simp
    refine ⟨by omega, ?_⟩
    refine forL_ix (F := rpD) (fun i ρ S => S = [] ∧ i ≤ R.length ∧ ∃ G : List (List Rp), ρ = [some (.p (.tuple (R.map rpD))), some (.p (.int s)), some (.p (.int h)), some (.p (.list (G.map glD))), some (.p (rpD a)), none, none, none] ∧ Mg (nearB s h) R (fun c d => (c ∈ T ∧ d ∈ R) ∨ (c = a ∧ d ∈ R.take i)) G ∧ G.length ≤ 20) (fun i hi2 ρ S hi => ?_) (fun ρ S hi => ?_) ⟨rfl, Nat.zero_le _, G, rfl, hG.more fun c d z => by simpa using z, hGl⟩
    · obtain ⟨rfl, hil, G, rfl, hG, hGl⟩ := hi
      have hb : R[i] ∈ R := List.getElem_mem hi2
      have htk2 : ∀ p, p ∈ R.take (i + 1) ↔ p ∈ R.take i ∨ p = R[i] := fun p => by
        rw [List.take_succ_eq_append_getElem hi2, List.mem_append, List.mem_singleton]
      generalize hrb : R[i] = b at *
      generalize R.take i = U at *
      generalize R.take (i + 1) = U1 at *
      have hst := lsteps_ok (a := a) (b := b)
      have hnear : nearB s h a b = (decide (stp a b ≤ s) && decide (abI (a.2.1 - b.2.1) ≤ h)) := rfl
      have e1 : ixD (rpD a) (.int 1) = some (.int a.2.1) := rfl
      have e2 : ixD (rpD b) (.int 1) = some (.int b.2.1) := rfl
      have e3 : absD [.int (a.2.1 - b.2.1)] = some (.int (abI (a.2.1 - b.2.1))) := by simp [abI]
      have hstep := fun z => hG.step (near_sym s h) ha hb z
      have hskip : nearB s h a b = false → Mg (nearB s h) R (fun c d => (c ∈ T ∧ d ∈ R) ∨ (c = a ∧ d ∈ U1)) G := fun z => ⟨hG.ne, hG.nd, hG.cov, hG.conn, hG.dis, fun c d w hcd => by
        rcases w with w | ⟨rfl, w⟩
        · exact hG.jo c d (.inl w) hcd
        · rcases (htk2 d).mp w with w | rfl
          · exact hG.jo c d (.inr ⟨rfl, w⟩) hcd
          · rw [z] at hcd; cases hcd⟩
      have hdone : nearB s h a b = true → Mg (nearB s h) R (fun c d => (c ∈ T ∧ d ∈ R) ∨ (c = a ∧ d ∈ U1)) (mergeG a b G) := fun z => (hstep z).more fun c d w => by
        rcases w with w | ⟨rfl, w⟩
        · exact .inl (.inl w)
        · rcases (htk2 d).mp w with w | rfl
          · exact .inl (.inr ⟨rfl, w⟩)
          · exact .inr ⟨rfl, rfl⟩
      have hml := merge_len (a := a) (b := b) (G := G)
      by_cases hn1 : stp a b ≤ s
      · by_cases hn2 : abI (a.2.1 - b.2.1) ≤ h
        · have hnt : nearB s h a b = true := by rw [hnear, decide_eq_true hn1, decide_eq_true hn2]; rfl
          have hd := hdone hnt
          have hbe : (G.filter fun g => isIn a g || isIn b g) = bothG a b G := both_is
          have hma : ∀ g : List Rp, inD (rpD a) (glD g) = some (.bool (isIn a g)) := fun g => mem_of enc_rp isIn_iff
          have hmb : ∀ g : List Rp, inD (rpD b) (glD g) = some (.bool (isIn b g)) := fun g => mem_of enc_rp isIn_iff
          have hmg := merge_is (a := a) (b := b) (G := G)
          have hsub : ∀ g ∈ bothG a b G, g ∈ G := fun g hg => (both_mem.mp hg).1
          have hgl2 : ∀ g ∈ G, g.length ≤ 20 := fun g hg => Nat.le_trans ((hG.nd g hg).length_le_of_subset fun x hx => (hG.conn g hg x hx x hx).mem) hl
          generalize bothG a b G = BB at *
          generalize mergeG a b G = MG at *
          generalize stp a b = ST at *
          generalize abI (a.2.1 - b.2.1) = AB at *
          generalize a.2.1 = a1 at *
          generalize b.2.1 = b1 at *
          generalize hA : rpD a = A at *
          generalize hB : rpD b = B at *
          simp [hst, e1, e2, e3, hn1, hn2]
          refine ⟨by omega, ?_⟩
          refine w_compL (F := glD) (fun g => isIn a g || isIn b g) glD hbe (fun g hg => by
            have f1 := hma g
            have f2 := hmb g
            generalize isIn a g = p at *
            generalize isIn b g = q at *
            generalize glD g = Z at *
            cases p <;> simp [f1, f2]) ?_
          match BB, hbe, hsub, hmg with
          | [g, k], hbe, hsub, hmg =>
            have hmg : MG = (G.filter fun q => !isIn q [g, k]) ++ [g ++ k] := hmg
            have hg1 := hgl2 g (hsub g (by simp))
            have hk1 := hgl2 k (hsub k (by simp))
            have hnm : ∀ q : List Rp, notInD (glD q) (.list [glD g, glD k]) = some (.bool (!isIn q [g, k])) := fun q => nmem_of enc_gl (xs := [g, k]) isIn_iff
            have i0 : ∀ x y : PyData, atI [x, y] 0 = some x := fun _ _ => rfl
            have i1 : ∀ x y : PyData, atI [x, y] 1 = some y := fun _ _ => rfl
            have hcat : PyData.list (g.map rpD ++ k.map rpD) = glD (g ++ k) := by simp only [glD, List.map_append]
            have hgle : (g.map rpD).length + (k.map rpD).length ≤ 40 := by rw [List.length_map, List.length_map]; omega
            have hfl : (G.filter fun q => !isIn q [g, k]).length ≤ 20 := Nat.le_trans (List.length_filter_le _ _) hGl
            simp [i0, i1]
            refine ⟨by omega, ?_⟩
            refine w_compL (F := glD) (fun q => !isIn q [g, k]) glD rfl (fun q hq => by
              have f := hnm q
              generalize isIn q [g, k] = bb at *
              generalize glD q = Z at *
              simp [f]) ?_
            generalize (G.filter fun q => !isIn q [g, k]) = FG at *
            have hml2 : FG.length + 1 = MG.length := by rw [hmg, List.length_append]; rfl
            simp
            rw [hcat]
            exact ⟨by omega, by omega, by omega, MG, by rw [hmg, List.map_append]; rfl, hd, by omega⟩
          | [], hbe, hsub, hmg =>
            have hmg : MG = G := hmg
            subst hmg
            simp
            exact ⟨by omega, MG, rfl, hd, hGl⟩
          | [g], hbe, hsub, hmg =>
            have hmg : MG = G := hmg
            subst hmg
            simp
            exact ⟨by omega, MG, rfl, hd, hGl⟩
          | g :: k :: m :: r, hbe, hsub, hmg =>
            have hmg : MG = G := hmg
            subst hmg
            have h3 : ¬ ((r.length : Int) + 1 + 1 + 1 = 2) := by omega
            simp [h3]
            exact ⟨by omega, MG, rfl, hd, hGl⟩
        · have hs2 := hskip (by rw [hnear, decide_eq_false hn2, Bool.and_false])
          generalize stp a b = ST at *
          generalize abI (a.2.1 - b.2.1) = AB at *
          generalize a.2.1 = a1 at *
          generalize b.2.1 = b1 at *
          generalize hA : rpD a = A at *
          generalize hB : rpD b = B at *
          simp [hst, e1, e2, e3, hn1, hn2]
          exact ⟨by omega, G, rfl, hs2, hGl⟩
      · have hs2 := hskip (by rw [hnear, decide_eq_false hn1, Bool.false_and])
        generalize stp a b = ST at *
        generalize hA : rpD a = A at *
        generalize hB : rpD b = B at *
        simp [hst, hn1]
        exact ⟨by omega, G, rfl, hs2, hGl⟩
    · obtain ⟨rfl, hil, G, rfl, hG, hGl⟩ := hi
      rw [List.take_length] at hG
      have hG2 : Mg (nearB s h) R (fun c d => c ∈ T1 ∧ d ∈ R) G := hG.more fun c d z => by
        rcases (htk c).mp z.1 with w | w
        · exact .inl ⟨w, z.2⟩
        · exact .inr ⟨w, z.2⟩
      simp
      exact ⟨by omega, G, rfl, hG2, hGl⟩
  · obtain ⟨rfl, hjl, G, rfl, hG, hGl⟩ := hi
    rw [List.take_length] at hG
    have hP := hG.fin fun a ha b hb => ⟨ha, hb⟩
    have hs2 := enc_gp.sorted_l (xs := G.map (sortE rpD))
    have hcan : sortE gpD (G.map (sortE rpD)) = canon rpD G := rfl
    rw [hcan] at hs2
    simp
    refine ⟨by omega, ?_⟩
    refine w_compA (F := glD) (fun g => gpD (sortE rpD g)) (fun g hg => by
      have := enc_rp.sorted_l (xs := g)
      generalize sortE rpD g = SG at *
      simp [this]) ?_
    have hmm : (G.map fun g => gpD (sortE rpD g)) = (G.map (sortE rpD)).map gpD := by rw [List.map_map]; rfl
    rw [hmm]
    generalize (G.map (sortE rpD)).map gpD = FF at *
    simp [hs2]
    exact ⟨G, rfl, hP⟩
end DL
namespace DL
open PySem PySem.Spec L2
open PyProof.Rows hiding St
/-! the box of a cluster, all steps -/
def stepsL (R : List Rp) : List Int := R.flatMap fun a => R.map fun b => stp a b
theorem steps_ok {R : List Rp} (hl : R.length ≤ 20) : f_all_steps [.tuple (R.map rpD)] = some (.list ((usetE PyData.int (0 :: stepsL R)).map .int)) := by
  suffices H : W (f_all_steps [.tuple (R.map rpD)]) fun v => v = .list ((usetE PyData.int (0 :: stepsL R)).map .int) from W_out H
  have hz : (sizeLine : Nat) = 16777216 := sizeLine_eq
  unfold f_all_steps b_all_steps
  rw [w_runP]
  simp
  refine ⟨by omega, ?_⟩
  have hlen : ∀ T : List Rp, T.length ≤ 20 → (T.flatMap fun a => R.map fun b => stp a b).length ≤ 400 := fun T hT => by
    have : ∀ T : List Rp, (T.flatMap fun a => R.map fun b => stp a b).length = T.length * R.length := fun T => by
      induction T with
      | nil => simp
      | cons x T ih => rw [List.flatMap_cons, List.length_append, ih, List.length_map, List.length_cons, Nat.add_mul]; omega
    rw [this]
    exact Nat.mul_le_mul hT hl
  have h0 : PyData.list [PyData.int 0] = .list ((0 :: ([] : List Rp).flatMap fun a => R.map fun b => stp a b).map .int) := rfl
  rw [h0]
  refine forL_ix (F := rpD) (fun j ρ S => S = [] ∧ j ≤ R.length ∧ ρ = [some (.p (.tuple (R.map rpD))), some (.o (.list ((0 :: (R.take j).flatMap fun a => R.map fun b => stp a b).map .int))), none, none]) (fun j hj ρ S hi => ?_) (fun ρ S hi => ?_) ⟨rfl, Nat.zero_le _, rfl⟩
  · obtain ⟨rfl, hjl, rfl⟩ := hi
    have hstep : ((R.take (j + 1)).flatMap fun a => R.map fun b => stp a b) = ((R.take j).flatMap fun a => R.map fun b => stp a b) ++ R.map fun b => stp R[j] b := by
      rw [List.take_succ_eq_append_getElem hj, List.flatMap_append]
      simp
    have hLl := hlen (R.take j) (by rw [List.length_take]; omega)
    rw [hstep]
    generalize ((R.take j).flatMap fun a => R.map fun b => stp a b) = L at *
    generalize R[j] = a at *
    simp
    refine ⟨by omega, ?_⟩
    refine w_compA (F := rpD) (fun b => .int (stp a b)) (fun b hb => ?_) ?_
    · have i0 : ∀ p q r : PyData, atI [p, q, r] 0 = some p := fun _ _ _ => rfl
      have j0 : ∀ p q : PyData, atI [p, q] 0 = some p := fun _ _ => rfl
      have j1 : ∀ p q : PyData, atI [p, q] 1 = some q := fun _ _ => rfl
      obtain ⟨⟨x, y⟩, u, l⟩ := a
      obtain ⟨⟨p, q⟩, v, m⟩ := b
      simp [i0, j0, j1, pr, stp, abI]
    · have hm : (R.map fun b => PyData.int (stp a b)) = (R.map fun b => stp a b).map .int := by rw [List.map_map]; rfl
      rw [hm]
      have hml : (R.map fun b => stp a b).length ≤ 20 := by rw [List.length_map]; exact hl
      generalize hN : (R.map fun b => stp a b) = N at *
      simp
      exact ⟨by omega, by omega, by rw [← hN, List.map_map]⟩
  · obtain ⟨rfl, hjl, rfl⟩ := hi
    rw [List.take_length]
    have hLl := hlen R hl
    have hs := enc_int.soset_l (xs := 0 :: stepsL R) (setB_int (by show _ + 1 < _; have : (stepsL R).length ≤ 400 := hLl; omega))
    have e : (R.flatMap fun a => R.map fun b => stp a b) = stepsL R := rfl
    rw [e]
    generalize usetE PyData.int (0 :: stepsL R) = U at *
    have hs : soSetL [.list (.int 0 :: (stepsL R).map .int)] = some (U.map .int) := hs
    simp [hs]
def mn : List Int → Int
  | [] => 0
  | x :: xs => minE PyData.int x xs
def mx : List Int → Int
  | [] => 0
  | x :: xs => maxE PyData.int x xs
theorem mn_ok {xs : List Int} (h : xs ≠ []) : minD [.list (xs.map .int)] = some (.int (mn xs)) := by
  cases xs with
  | nil => exact absurd rfl h
  | cons x xs => exact enc_int.min_l
theorem mx_ok {xs : List Int} (h : xs ≠ []) : maxD [.list (xs.map .int)] = some (.int (mx xs)) := by
  cases xs with
  | nil => exact absurd rfl h
  | cons x xs => exact enc_int.max_l
def boxV (g : List Rp) : PyData := .tuple [.tuple [.int (mn (g.map (·.1.1))), .int (mn (g.map (·.1.2)))], .tuple [.int (mx (g.map (·.1.1))), .int (mx (g.map (·.1.2)))], .int (mn (g.map (·.2.1))), .int (mx (g.map (·.2.1)) + 1), .int (mx (g.map (·.2.2)))]
theorem box_ok {g : List Rp} (hg : g ≠ []) (hl : g.length ≤ 20) : f_cluster_box [gpD g] = some (boxV g) := by
  suffices H : W (f_cluster_box [gpD g]) fun v => v = boxV g from W_out H
  have hz : (sizeLine : Nat) = 16777216 := sizeLine_eq
  unfold f_cluster_box b_cluster_box
  rw [w_runP]
  have hne : ∀ f : Rp → Int, g.map f ≠ [] := fun f z => hg (List.map_eq_nil_iff.mp z)
  have a1 := mn_ok (hne (·.1.1))
  have a2 := mn_ok (hne (·.1.2))
  have a3 := mx_ok (hne (·.1.1))
  have a4 := mx_ok (hne (·.1.2))
  have a5 := mn_ok (hne (·.2.1))
  have a6 := mx_ok (hne (·.2.1))
  have a7 := mx_ok (hne (·.2.2))
  have m1 : (g.map fun r => PyData.int r.1.1) = (g.map (·.1.1)).map .int := by rw [List.map_map]; rfl
  have m2 : (g.map fun r => PyData.int r.1.2) = (g.map (·.1.2)).map .int := by rw [List.map_map]; rfl
  have m3 : (g.map fun r => PyData.int r.2.1) = (g.map (·.2.1)).map .int := by rw [List.map_map]; rfl
  have m4 : (g.map fun r => PyData.int r.2.2) = (g.map (·.2.2)).map .int := by rw [List.map_map]; rfl
  have j0 : ∀ p q : PyData, atI [p, q] 0 = some p := fun _ _ => rfl
  have j1 : ∀ p q : PyData, atI [p, q] 1 = some q := fun _ _ => rfl
  unfold boxV
  simp
  refine ⟨by omega, ?_⟩
  refine w_compA (F := rpD) (fun r => .int r.1.1) (fun r hr => by simp [pr, j0]) ?_
  rw [m1]
  generalize g.map (·.1.1) = X at *
  simp
  refine ⟨by omega, ?_⟩
  refine w_compA (F := rpD) (fun r => .int r.1.2) (fun r hr => by simp [pr, j1]) ?_
  rw [m2]
  generalize g.map (·.1.2) = Y at *
  simp
  refine ⟨by omega, ?_⟩
  refine w_compA (F := rpD) (fun r => .int r.2.1) (fun r hr => by simp) ?_
  rw [m3]
  generalize g.map (·.2.1) = T at *
  simp
  refine ⟨by omega, ?_⟩
  refine w_compA (F := rpD) (fun r => .int r.2.2) (fun r hr => by simp) ?_
  rw [m4]
  generalize g.map (·.2.2) = V at *
  simp [a1, a2, a3, a4, a5, a6, a7]
end DL
namespace DL
open PySem PySem.Spec L2
open PyProof.Rows hiding St
/-! where the parts change -/
theorem near_prev {R : List Rp} {s h : Int} (hs : ∀ a ∈ R, ∀ b ∈ R, stp a b ≠ s) {a b : Rp} (ha : a ∈ R) (hb : b ∈ R) : nearB s h a b = nearB (s - 1) h a b := by
  unfold nearB
  have := hs a ha b hb
  have e : decide (stp a b ≤ s) = decide (stp a b ≤ s - 1) := decide_eq_decide.mpr (by omega)
  rw [e]
theorem conn_prev {R : List Rp} {n1 n2 : Rp → Rp → Bool} (hn : ∀ a ∈ R, ∀ b ∈ R, n1 a b = n2 a b) {x y : Rp} (c : Conn n1 R x y) : Conn n2 R x y := by
  induction c with
  | self h => exact .self h
  | step h1 hm hh ih => exact .step ih hm (by rw [← hn _ h1.mem _ hm]; exact hh)
theorem parts_prev {R : List Rp} {n1 n2 : Rp → Rp → Bool} (hn : ∀ a ∈ R, ∀ b ∈ R, n1 a b = n2 a b) {G : List (List Rp)} (h : Parts n1 R G) : Parts n2 R G :=
  ⟨h.ne, h.nd, h.cov, fun g hg x hx y hy => conn_prev hn (h.conn g hg x hx y hy), fun g hg x hx y hy z => h.clo g hg x hx y hy (by rw [hn x (h.mem hg hx) y hy]; exact z), h.dis⟩
/-- the fold of merges, and the law's filter -/
def addTn (c : Nat → Nat) (l : List (Nat × Nat)) (k : Nat) : List (Nat × Nat) := if l = [] ∨ (l.getLast?.map (·.2)) ≠ some (c k) then l ++ [(k, c k)] else l
def turns (c : Nat → Nat) (n : Nat) : List (Nat × Nat) := ((List.range n).filter fun k => decide (k = 0) || decide (c k ≠ c (k - 1))).map fun k => (k, c k)
theorem turns_fold {c : Nat → Nat} {S : Nat → Bool} (h0 : S 0 = true) (hS : ∀ k, 0 < k → S k = false → c k = c (k - 1)) : ∀ n, (((List.range n).filter S).foldl (addTn c) [] = turns c n) ∧ (0 < n → (turns c n).getLast?.map (·.2) = some (c (n - 1)))
  | 0 => ⟨rfl, fun z => absurd z (by omega)⟩
  | n + 1 => by
    obtain ⟨ih1, ih2⟩ := turns_fold h0 hS n
    have hr : (List.range (n + 1)).filter S = (List.range n).filter S ++ if S n = true then [n] else [] := by rw [List.range_succ, List.filter_append, List.filter_cons, List.filter_nil]
    have ht : turns c (n + 1) = turns c n ++ if (decide (n = 0) || decide (c n ≠ c (n - 1))) = true then [(n, c n)] else [] := by
      unfold turns
      rw [List.range_succ, List.filter_append, List.map_append, List.filter_cons, List.filter_nil]
      split <;> rfl
    rw [hr, List.foldl_append, ih1, ht]
    by_cases hn : n = 0
    · subst hn
      rw [if_pos h0, if_pos (by rfl)]
      exact ⟨rfl, fun _ => rfl⟩
    · have hpos : 0 < n := by omega
      have hl := ih2 hpos
      have hne : turns c n ≠ [] := fun z => by rw [z] at hl; cases hl
      have hdn : decide (n = 0) = false := decide_eq_false hn
      rw [hdn, Bool.false_or]
      by_cases hc : c n = c (n - 1)
      · have h2 : addTn c (turns c n) n = turns c n := by
          unfold addTn
          rw [if_neg]
          rintro (z | z)
          · exact hne z
          · rw [hl, hc] at z
            exact z rfl
        have hd : decide (c n ≠ c (n - 1)) = false := decide_eq_false fun z => z hc
        rw [hd, if_neg Bool.false_ne_true, List.append_nil]
        refine ⟨?_, fun _ => by rw [hl]; show some (c (n - 1)) = some (c n); rw [hc]⟩
        split
        · exact h2
        · rfl
      · have hSn : S n = true := by
          cases q : S n with
          | true => rfl
          | false => exact absurd (hS n hpos q) hc
        have h2 : addTn c (turns c n) n = turns c n ++ [(n, c n)] := by
          unfold addTn
          rw [if_pos]
          right
          rw [hl]
          intro z
          exact hc (Option.some.inj z).symm
        have hd : decide (c n ≠ c (n - 1)) = true := decide_eq_true hc
        rw [hd, if_pos rfl, if_pos hSn]
        exact ⟨h2, fun _ => by rw [List.getLast?_append]; rfl⟩
end DL
namespace DL
open PySem PySem.Spec L2
open PyProof.Rows hiding St
theorem both_ok {R : List Rp} (hnd : R.Nodup) (hl : R.length ≤ 20) (h s : Int) : ∃ C : List (List Rp), f_clusters [.tuple (R.map rpD), .int s, .int h] = some (.tuple (C.map gpD)) ∧ f__law_clusters [.tuple (R.map rpD), .int s, .int h] = some (.tuple (C.map gpD)) ∧ ∃ G, C = canon rpD G ∧ Parts (nearB s h) R G := by
  obtain ⟨G, e1, p1⟩ := clusters_ok (s := s) (h := h) hnd hl
  obtain ⟨K, e2, p2⟩ := lclusters_ok (s := s) (h := h) hnd hl
  exact ⟨canon rpD G, e1, by rw [e2, canon_same enc_rp p2 p1], G, rfl, p1⟩
structure IsCl (R : List Rp) (h : Int) (C : Int → List (List Rp)) : Prop where
  pro : ∀ s, f_clusters [.tuple (R.map rpD), .int s, .int h] = some (.tuple ((C s).map gpD))
  law : ∀ s, f__law_clusters [.tuple (R.map rpD), .int s, .int h] = some (.tuple ((C s).map gpD))
  is : ∀ s, ∃ G, C s = canon rpD G ∧ Parts (nearB s h) R G
theorem cl_ex {R : List Rp} (hnd : R.Nodup) (hl : R.length ≤ 20) (h : Int) : ∃ C, IsCl R h C :=
  ⟨fun s => Classical.choose (both_ok hnd hl h s), fun s => (Classical.choose_spec (both_ok hnd hl h s)).1, fun s => (Classical.choose_spec (both_ok hnd hl h s)).2.1, fun s => (Classical.choose_spec (both_ok hnd hl h s)).2.2⟩
theorem IsCl.prev {R : List Rp} {h : Int} {C : Int → List (List Rp)} (i : IsCl R h C) {s : Int} (hs : ∀ a ∈ R, ∀ b ∈ R, stp a b ≠ s) : C s = C (s - 1) := by
  obtain ⟨G, e1, p1⟩ := i.is s
  obtain ⟨K, e2, p2⟩ := i.is (s - 1)
  rw [e1, e2]
  exact canon_same enc_rp (parts_prev (fun a ha b hb => near_prev hs ha hb) p1) p2
/-- the steps that occur, as numbers -/
def stS (R : List Rp) (k : Nat) : Bool := decide ((k : Int) ∈ 0 :: stepsL R)
theorem stS_0 {R : List Rp} : stS R 0 = true := by unfold stS; exact decide_eq_true List.mem_cons_self
theorem steps_nat {R : List Rp} (h : ∀ a ∈ R, ∀ b ∈ R, stp a b ≤ 13) : (usetE PyData.int (0 :: stepsL R)).map PyData.int = ((List.range 14).filter (stS R)).map fun k : Nat => PyData.int (k : Int) := by
  have e : usetE PyData.int (0 :: stepsL R) = ((List.range 14).filter (stS R)).map fun k : Nat => (k : Int) := by
    refine enc_int.uset_of ?_ fun x => ?_
    · rw [List.pairwise_map]
      have hp : (List.range 14).Pairwise (· < ·) := List.pairwise_lt_range
      refine (hp.filter _).imp fun {a b} q => ?_
      have : ltE PyData.int (a : Int) (b : Int) ↔ (a : Int) < b := lt_int
      rw [this]
      omega
    · rw [List.mem_map]
      constructor
      · rintro ⟨k, hk, rfl⟩
        have := (List.mem_filter.mp hk).2
        exact of_decide_eq_true this
      · intro hx
        have hb : 0 ≤ x ∧ x ≤ 13 := by
          rcases List.mem_cons.mp hx with rfl | hx
          · exact ⟨by omega, by omega⟩
          · obtain ⟨a, ha, hx⟩ := List.mem_flatMap.mp hx
            obtain ⟨b, hb, rfl⟩ := List.mem_map.mp hx
            refine ⟨?_, h a ha b hb⟩
            unfold stp abI
            omega
        refine ⟨x.toNat, List.mem_filter.mpr ⟨List.mem_range.mpr (by omega), ?_⟩, by omega⟩
        unfold stS
        exact decide_eq_true (by rw [Int.toNat_of_nonneg hb.1]; exact hx)
  rw [e, List.map_map]
  rfl
theorem stS_no {R : List Rp} {k : Nat} (h : stS R k = false) : ∀ a ∈ R, ∀ b ∈ R, stp a b ≠ (k : Int) := fun a ha b hb e => by
  have := of_decide_eq_false h
  exact this (List.mem_cons_of_mem _ (List.mem_flatMap.mpr ⟨a, ha, List.mem_map.mpr ⟨b, hb, e⟩⟩))
abbrev npD (p : Nat × Nat) : PyData := .tuple [.int (p.1 : Int), .int (p.2 : Int)]
theorem enc_np : Enc 1 npD := enc_nat.pair enc_nat
theorem merges_ok {R : List Rp} {h : Int} {C : Int → List (List Rp)} (hl : R.length ≤ 20) (i : IsCl R h C) (hs : ∀ a ∈ R, ∀ b ∈ R, stp a b ≤ 13) :
    f_merges [.tuple (R.map rpD), .int h] = some (.tuple ((turns (fun k => (C (k : Int)).length) 14).map npD)) := by
  suffices H : W (f_merges [.tuple (R.map rpD), .int h]) fun v => v = .tuple ((turns (fun k => (C (k : Int)).length) 14).map npD) from W_out H
  have hz : (sizeLine : Nat) = 16777216 := sizeLine_eq
  unfold f_merges b_merges
  rw [w_runP]
  have hst := steps_ok hl
  rw [steps_nat hs] at hst
  have hfold := (turns_fold (c := fun k => (C (k : Int)).length) (S := stS R) stS_0 (fun k hk q => by
    show (C (k : Int)).length = (C ((k - 1 : Nat) : Int)).length
    rw [i.prev (stS_no q), show (k : Int) - 1 = ((k - 1 : Nat) : Int) by omega]) 14).1
  have hpro := i.pro
  have hLl : ((List.range 14).filter (stS R)).length ≤ 14 := Nat.le_trans (List.length_filter_le _ _) (by rw [List.length_range]; omega)
  generalize (List.range 14).filter (stS R) = L at *
  generalize PyData.tuple (R.map rpD) = TR at *
  simp [hst]
  refine ⟨by omega, ?_⟩
  refine forL_ix (F := fun k : Nat => PyData.int (k : Int)) (fun j ρ S => S = [] ∧ j ≤ L.length ∧ ρ = [some (.p TR), some (.p (.int h)), some (.o (.list (((L.take j).foldl (addTn fun k => (C (k : Int)).length) []).map npD))), none, none] ∧ ((L.take j).foldl (addTn fun k => (C (k : Int)).length) []).length ≤ j) (fun j hj ρ S hi => ?_) (fun ρ S hi => ?_) ⟨rfl, Nat.zero_le _, rfl, Nat.le_refl _⟩
  · obtain ⟨rfl, hjl, rfl, hfl⟩ := hi
    have hstep : (L.take (j + 1)).foldl (addTn fun k => (C (k : Int)).length) [] = addTn (fun k => (C (k : Int)).length) ((L.take j).foldl (addTn fun k => (C (k : Int)).length) []) L[j] := by
      rw [List.take_succ_eq_append_getElem hj, List.foldl_append]
      rfl
    rw [hstep]
    generalize (L.take j).foldl (addTn fun k => (C (k : Int)).length) [] = T at *
    generalize L[j] = k at *
    have hp := hpro (k : Int)
    have hCl : ((C (k : Int)).map gpD).length = (C (k : Int)).length := List.length_map ..
    have hadd : addTn (fun k => (C (k : Int)).length) T k = if T = [] ∨ (T.getLast?.map (·.2)) ≠ some (C (k : Int)).length then T ++ [(k, (C (k : Int)).length)] else T := rfl
    generalize (C (k : Int)).map gpD = CD at *
    generalize (C (k : Int)).length = m at *
    cases hT : T with
    | nil =>
      subst hT
      rw [if_pos (.inl rfl)] at hadd
      rw [hadd]
      have hq : eqD (.list []) (.list []) = some (.bool true) := rfl
      simp [hp, hCl, hq]
      simp at hfl
      omega
    | cons p0 T0 =>
      rw [← hT]
      have hne : T ≠ [] := by rw [hT]; exact List.cons_ne_nil _ _
      obtain ⟨p, hlast⟩ : ∃ p, T.getLast? = some p := ⟨_, List.getLast?_eq_some_getLast hne⟩
      have hl0 := enc_np.l0 (xs := T)
      have hie : T.isEmpty = false := by rw [hT]; rfl
      rw [hie] at hl0
      have hat : atI (T.map npD) (-1) = some (.tuple [.int (p.1 : Int), .int (p.2 : Int)]) := by
        rw [atI_m1, List.getLast?_map, hlast]
        rfl
      have i1 : ∀ x y : PyData, atI [x, y] 1 = some y := fun _ _ => rfl
      rw [hlast] at hadd
      clear hT
      by_cases hpm : p.2 = m
      · rw [if_neg (by
          rintro (z | z)
          · exact hne z
          · exact z (by show some p.2 = some m; rw [hpm]))] at hadd
        rw [hadd]
        generalize T.map npD = TD at *
        simp [hp, hCl, hl0, hat, i1, hpm]
        omega
      · rw [if_pos (.inr (by
          intro z
          have : some p.2 = some m := z
          exact hpm (Option.some.inj this)))] at hadd
        rw [hadd, List.map_append, List.length_append]
        have hTl : (T.map npD).length = T.length := List.length_map ..
        generalize T.map npD = TD at *
        have hpm2 : ¬ ((p.2 : Int) = (m : Int)) := by omega
        simp [hp, hCl, hl0, hat, i1, hpm2]
        omega
  · obtain ⟨rfl, hjl, rfl, hfl⟩ := hi
    rw [List.take_length, hfold]
    generalize (turns (fun k => (C (k : Int)).length) 14).map npD = TT at *
    simp
end DL
namespace DL
open PySem PySem.Spec L2
open PyProof.Rows hiding St
theorem find_turn {S B : Nat → Bool} (h0 : S 0 = true) (hS : ∀ k, 0 < k → S k = false → B k = B (k - 1)) : ∀ n, ((List.range n).filter S).find? B = (List.range n).find? B
  | 0 => rfl
  | n + 1 => by
    have ih := find_turn h0 hS n
    rw [List.range_succ, List.filter_append, List.find?_append, List.find?_append, ih]
    cases hf : (List.range n).find? B with
    | some k => rfl
    | none =>
      rw [Option.none_or, Option.none_or, List.filter_cons, List.filter_nil]
      cases q : S n with
      | true => rfl
      | false =>
        have hn : 0 < n := by
          rcases Nat.eq_zero_or_pos n with z | z
          · rw [z, h0] at q; cases q
          · exact z
        have hb : B n = false := by
          rw [hS n hn q]
          have := List.find?_eq_none.mp hf (n - 1) (List.mem_range.mpr (by omega))
          simpa using this
        rw [if_neg Bool.false_ne_true, List.find?_cons, hb]
theorem Parts.len {α : Type} [DecidableEq α] [Inhabited α] {near : α → α → Bool} {R : List α} {G : List (List α)} (h : Parts near R G) : G.length ≤ R.length := by
  have hd : ∀ g ∈ G, g.headD default ∈ g := fun g hg => by
    cases g with
    | nil => exact absurd rfl (h.ne _ hg)
    | cons x g => exact List.mem_cons_self
  have nd : (G.map fun g => g.headD default).Nodup := by
    rw [List.Nodup, List.pairwise_map]
    refine (List.Pairwise.and_mem.mp h.dis).imp ?_
    rintro x y ⟨z1, z2, z3⟩ e
    have q := hd y z2
    rw [← e] at q
    exact z3 _ (hd x z1) q
  have := nd.length_le_of_subset (l₂ := R) fun x hx => by
    obtain ⟨g, hg, rfl⟩ := List.mem_map.mp hx
    exact h.mem hg (hd g hg)
  rwa [List.length_map] at this
theorem IsCl.len {R : List Rp} {h : Int} {C : Int → List (List Rp)} (i : IsCl R h C) (s : Int) : (C s).length ≤ R.length := by
  obtain ⟨G, e, p⟩ := i.is s
  rw [e]
  unfold canon
  rw [sortE_len, List.length_map]
  exact p.len
def inOne (one other : Rp) (C : List (List Rp)) : Bool := C.any fun g => isIn one g && isIn other g
def sayN : Option Nat → PyData
  | none => .none
  | some k => .int (k : Int)
theorem joined_ok {R : List Rp} {h : Int} {C : Int → List (List Rp)} (hl : R.length ≤ 20) (i : IsCl R h C) (hs : ∀ a ∈ R, ∀ b ∈ R, stp a b ≤ 13) (one other : Rp) :
    f_joined_at [.tuple (R.map rpD), rpD one, rpD other, .int h] = some (sayN ((List.range 14).find? fun k => inOne one other (C (k : Int)))) := by
  suffices H : W (f_joined_at [.tuple (R.map rpD), rpD one, rpD other, .int h]) fun v => v = sayN ((List.range 14).find? fun k => inOne one other (C (k : Int))) from W_out H
  have hz : (sizeLine : Nat) = 16777216 := sizeLine_eq
  unfold f_joined_at b_joined_at
  rw [w_runP]
  have hst := steps_ok hl
  rw [steps_nat hs] at hst
  have hfind := find_turn (B := fun k => inOne one other (C (k : Int))) (S := stS R) stS_0 (fun k hk q => by
    show inOne one other (C (k : Int)) = inOne one other (C ((k - 1 : Nat) : Int))
    rw [i.prev (stS_no q), show (k : Int) - 1 = ((k - 1 : Nat) : Int) by omega]) 14
  rw [← hfind]
  have hpro := i.pro
  have hm1 : ∀ g : List Rp, inD (rpD one) (gpD g) = some (.bool (isIn one g)) := fun g => mem_of enc_rp isIn_iff
  have hm2 : ∀ g : List Rp, inD (rpD other) (gpD g) = some (.bool (isIn other g)) := fun g => mem_of enc_rp isIn_iff
  have hio : ∀ D, inOne one other D = D.any fun g => isIn one g && isIn other g := fun _ => rfl
  have hLl : ((List.range 14).filter (stS R)).length ≤ 14 := Nat.le_trans (List.length_filter_le _ _) (by rw [List.length_range]; omega)
  generalize (List.range 14).filter (stS R) = L at *
  generalize hTR : PyData.tuple (R.map rpD) = TR at *
  generalize hO : rpD one = O at *
  generalize hP : rpD other = P at *
  simp [hst]
  refine ⟨by omega, ?_⟩
  refine forL_ix (F := fun k : Nat => PyData.int (k : Int)) (fun j ρ S => S = [] ∧ j ≤ L.length ∧ ρ = [some (.p TR), some (.p O), some (.p P), some (.p (.int h)), none, none] ∧ ∀ k ∈ L.take j, inOne one other (C (k : Int)) = false) (fun j hj ρ S hi => ?_) (fun ρ S hi => ?_) ⟨rfl, Nat.zero_le _, rfl, by simp⟩
  · obtain ⟨rfl, hjl, rfl, hno⟩ := hi
    have htk : L.take (j + 1) = L.take j ++ [L[j]] := List.take_succ_eq_append_getElem hj
    have hfd : inOne one other (C (L[j] : Int)) = true → L.find? (fun k : Nat => inOne one other (C (k : Int))) = some L[j] := fun z => by
      rw [List.find?_eq_some_iff_getElem]
      refine ⟨z, j, hj, rfl, fun q hq => ?_⟩
      have hmm : L[q] ∈ L.take j := by
        rw [List.mem_take_iff_getElem]
        exact ⟨q, by omega, rfl⟩
      rw [hno _ hmm]
      rfl
    rw [htk]
    generalize L[j] = k at *
    generalize L.take j = T at *
    have hp := hpro (k : Int)
    have hk := hio (C (k : Int))
    have hnx : inOne one other (C (k : Int)) = false → ∀ q ∈ T ++ [k], inOne one other (C (q : Int)) = false := fun z q hq => by
      rcases List.mem_append.mp hq with hq | hq
      · exact hno q hq
      · rw [List.mem_singleton] at hq; rw [hq]; exact z
    have hCl := i.len (k : Int)
    generalize C (k : Int) = CK at *
    rw [hk] at hfd hnx
    simp [hp]
    refine ⟨by omega, ?_⟩
    refine w_compA (F := gpD) (fun g => .bool (isIn one g && isIn other g)) (fun g hg => by
      have f1 := hm1 g
      have f2 := hm2 g
      generalize isIn one g = p at *
      generalize isIn other g = q at *
      generalize gpD g = Z at *
      cases p <;> simp [f1, f2]) ?_
    have han := anyD_l (xs := CK) (G := fun g => isIn one g && isIn other g)
    generalize (CK.map fun g => PyData.bool (isIn one g && isIn other g)) = BL at *
    generalize (CK.any fun g => isIn one g && isIn other g) = bb at *
    cases bb with
    | true =>
      rw [hfd rfl]
      simp [han, sayN]
    | false =>
      have h2 := hnx rfl
      simp only [List.mem_append, List.mem_singleton] at h2
      simp [han]
      exact ⟨by omega, h2⟩
  · obtain ⟨rfl, hjl, rfl, hno⟩ := hi
    rw [List.take_length] at hno
    have : L.find? (fun k : Nat => inOne one other (C (k : Int))) = none := by
      rw [List.find?_eq_none]
      intro k hk z
      rw [hno k hk] at z
      cases z
    rw [this]
    simp [sayN]
end DL
namespace DL
open PySem PySem.Spec L2
open PyProof.Rows hiding St
abbrev DoneK (ns' ds : List Int) (Q : Out → Prop) : Prop := ∀ a z2 z3 z4 z5 z6 z7 z8 z9 z10 z11 z12 z13 z14 z15 z16 z17, Q (.nx [some (.f (.list (ns'.map .int))), some (.c 0), z2, z3, z4, z5, z6, z7, z8, z9, z10, z11, z12, z13, z14, z15, z16, z17, none] [some (.d (Wd ds a))])
theorem isIn_mem {a : Rp} {g : List Rp} : isIn a g = true ↔ a ∈ g := isIn_iff.symm
/-- able: the steps at which two reports lie in one part -/
theorem c1_ok {ns' ds : List Int} {a : Nat} {R : List Rp} {h : Int} {C : Int → List (List Rp)} (hl : R.length ≤ 20) (i : IsCl R h C) (hs : ∀ a ∈ R, ∀ b ∈ R, stp a b ≤ 13)
    {y2 y4 y5 y8 y9 y10 y11 y12 y13 y14 y15 : Option D} {Q : Out → Prop} (hQ : DoneK ns' ds Q) :
    W (b_law_c1 [some (.f (.list (ns'.map .int))), some (.c 0), y2, some (.p (.list (R.map rpD))), y4, y5, some (.p (.tuple (R.map rpD))), some (.p (.int h)), y8, y9, y10, y11, y12, y13, y14, y15, none, none, none] [some (.d (Wd ds a))]) Q := by
  unfold b_law_c1
  have hz : (sizeLine : Nat) = 16777216 := sizeLine_eq
  have hl0 := enc_rp.nl0 (xs := R)
  have hjo := fun one other => joined_ok hl i hs one other
  have hla := i.law
  have hCl := i.len
  have hm : ∀ (one : Rp) (g : List Rp), inD (rpD one) (gpD g) = some (.bool (isIn one g)) := fun one g => mem_of enc_rp isIn_iff
  cases hR : R with
  | nil =>
    have hne : neD (.list []) (.list []) = some (.bool false) := rfl
    simp [hne]
    exact hQ _ _ _ _ _ _ _ _ _ _ _ _ _ _ _ _ _
  | cons r0 R0 =>
    rw [← hR]
    have hne2 : R ≠ [] := by rw [hR]; exact List.cons_ne_nil _ _
    have hie : R.isEmpty = false := by rw [hR]; rfl
    rw [hie] at hl0
    clear hR
    generalize hTR : PyData.tuple (R.map rpD) = TR at *
    have hRl : R.map rpD ≠ [] := fun z => hne2 (List.map_eq_nil_iff.mp z)
    have hmem : ∀ x ∈ R.map rpD, ∃ r ∈ R, rpD r = x := fun x hx => List.mem_map.mp hx
    generalize R.map rpD = RD at *
    simp [hl0]
    refine w_pick_l hRl fun x a2 hx => ?_
    obtain ⟨one, _, rfl⟩ := hmem x hx
    simp
    refine w_pick_l hRl fun x a3 hx => ?_
    obtain ⟨other, _, rfl⟩ := hmem x hx
    have hm1 := hm one
    have hm2 := hm other
    have hj := hjo one other
    generalize rpD one = O at *
    generalize rpD other = P at *
    simp
    rw [rng_0]
    have hB : ∀ k : Nat, (C (k : Int)).length ≤ sizeLine := fun k => by have := hCl (k : Int); omega
    refine w_compL (F := fun k : Nat => PyData.int (k : Int)) (fun k => inOne one other (C (k : Int))) (fun k : Nat => PyData.int (k : Int)) rfl (fun k hk => ?_) ?_
    · have hp := hla (k : Int)
      have hBk := hB k
      have hio : inOne one other (C (k : Int)) = (C (k : Int)).any fun g => isIn one g && isIn other g := rfl
      generalize C (k : Int) = CK at *
      rw [hio]
      simp [hp, hBk]
      refine w_compL (F := gpD) (fun g => isIn one g && isIn other g) gpD rfl (fun g hg => by
        have f1 := hm1 g
        have f2 := hm2 g
        generalize isIn one g = p at *
        generalize isIn other g = q at *
        generalize gpD g = Z at *
        cases p <;> simp [f1, f2]) ?_
      have hnl := enc_gp.nl0 (xs := CK.filter fun g => isIn one g && isIn other g)
      have hany : (CK.any fun g => isIn one g && isIn other g) = !(CK.filter fun g => isIn one g && isIn other g).isEmpty := by
        rw [Bool.eq_iff_iff, List.any_eq_true, Bool.not_eq_true', List.isEmpty_eq_false_iff_exists_mem]
        exact ⟨fun ⟨g, h1, h2⟩ => ⟨g, List.mem_filter.mpr ⟨h1, h2⟩⟩, fun ⟨g, hg⟩ => ⟨g, (List.mem_filter.mp hg).1, (List.mem_filter.mp hg).2⟩⟩
      rw [hany]
      generalize (CK.filter fun g => isIn one g && isIn other g) = FL at *
      have hnl : neD (.list (FL.map gpD)) (.list []) = some (.bool (!FL.isEmpty)) := hnl
      generalize FL.map gpD = FD1 at *
      generalize (!FL.isEmpty) = bb at *
      simp [hnl]
    · have hfi : (List.range 14).find? (fun k : Nat => inOne one other (C (k : Int))) = ((List.range 14).filter fun k : Nat => inOne one other (C (k : Int))).head? := (List.head?_filter ..).symm
      rw [hfi] at hj
      generalize (List.range 14).filter (fun k : Nat => inOne one other (C (k : Int))) = AB at *
      cases AB with
      | nil =>
        have hj : f_joined_at [TR, O, P, .int h] = some .none := hj
        have hne : neD (.list []) (.list []) = some (.bool false) := rfl
        have hal : f__law_same 6 [.none, .none] = some (.bool true) := same_ok rfl
        simp [hne, hj, hal]
        exact hQ _ _ _ _ _ _ _ _ _ _ _ _ _ _ _ _ _
      | cons k AB =>
        have hj : f_joined_at [TR, O, P, .int h] = some (.int (k : Int)) := hj
        have hne := enc_nat.nl0 (xs := k :: AB)
        have hne : neD (.list (.int (k : Int) :: AB.map fun k : Nat => PyData.int (k : Int))) (.list []) = some (.bool true) := hne
        have hal : f__law_same 6 [.int (k : Int), .int (k : Int)] = some (.bool true) := same_ok rfl
        simp [hne, hj, hal]
        exact hQ _ _ _ _ _ _ _ _ _ _ _ _ _ _ _ _ _
end DL
namespace DL
open PySem PySem.Spec L2
open PyProof.Rows hiding St
theorem IsCl.part {R : List Rp} {h : Int} {C : Int → List (List Rp)} (i : IsCl R h C) (s : Int) {g : List Rp} (hg : g ∈ C s) : g ≠ [] ∧ g.length ≤ R.length := by
  obtain ⟨G, e, p⟩ := i.is s
  rw [e] at hg
  unfold canon at hg
  obtain ⟨q, hq, rfl⟩ := List.mem_map.mp (sortE_mem.mp hg)
  constructor
  · intro z
    have := congrArg List.length z
    rw [sortE_len] at this
    exact p.ne q hq (List.length_eq_zero_iff.mp this)
  · rw [sortE_len]
    exact (p.nd q hq).length_le_of_subset fun x hx => p.mem hq hx
set_option maxHeartbeats 0 in
theorem c2_ok {ns' ds : List Int} {a : Nat} {R : List Rp} {h s : Int} {C : Int → List (List Rp)} (hl : R.length ≤ 20) (i : IsCl R h C) (hs : ∀ a ∈ R, ∀ b ∈ R, stp a b ≤ 13)
    {y2 y4 y5 y8 : Option D} {Q : Out → Prop} (hQ : DoneK ns' ds Q) :
    W (b_law_c2 [some (.f (.list (ns'.map .int))), some (.c 0), y2, some (.p (.list (R.map rpD))), y4, y5, some (.p (.tuple (R.map rpD))), some (.p (.int h)), y8, some (.p (.tuple ((C s).map gpD))), none, none, none, none, none, none, none, none, none] [some (.d (Wd ds a))]) Q := by
  unfold b_law_c2
  have hz : (sizeLine : Nat) = 16777216 := sizeLine_eq
  have hc1 := fun y2 y4 y5 y8 y9 y10 y11 y12 y13 y14 y15 => c1_ok (ns' := ns') (ds := ds) (a := a) (y2 := y2) (y4 := y4) (y5 := y5) (y8 := y8) (y9 := y9) (y10 := y10) (y11 := y11) (y12 := y12) (y13 := y13) (y14 := y14) (y15 := y15) (Q := Q) hl i hs hQ
  have hme := merges_ok hl i hs
  have hla := i.law
  have hCl := i.len
  have hpa := fun g hg => i.part s (g := g) hg
  have hCs := hCl s
  generalize C s = CS at *
  generalize hTR : PyData.tuple (R.map rpD) = TR at *
  generalize hRD : PyData.list (R.map rpD) = RD at *
  simp
  refine ⟨by omega, ?_⟩
  refine forL_ix (F := gpD) (fun j ρ S => S = [some (.d (Wd ds a))] ∧ j ≤ CS.length ∧ ρ = [some (.f (.list (ns'.map .int))), some (.c 0), y2, some (.p RD), y4, y5, some (.p TR), some (.p (.int h)), y8, some (.p (.tuple (CS.map gpD))), none, none, none, none, none, none, none, none, none]) (fun j hj ρ S hi => ?_) (fun ρ S hi => ?_) ⟨rfl, Nat.zero_le _, rfl⟩
  · obtain ⟨rfl, hjl, rfl⟩ := hi
    obtain ⟨gne, gle⟩ := hpa _ (List.getElem_mem hj)
    generalize CS[j] = g at *
    have hbo := box_ok gne (by omega)
    have hne : ∀ f : Rp → Int, g.map f ≠ [] := fun f z => gne (List.map_eq_nil_iff.mp z)
    have a1 := mn_ok (hne (·.1.1))
    have a2 := mn_ok (hne (·.1.2))
    have a3 := mx_ok (hne (·.1.1))
    have a4 := mx_ok (hne (·.1.2))
    have a5 := mn_ok (hne (·.2.1))
    have a6 := mx_ok (hne (·.2.1))
    have a7 := mx_ok (hne (·.2.2))
    have m1 : (g.map fun r => PyData.int r.1.1) = (g.map (·.1.1)).map .int := by rw [List.map_map]; rfl
    have m2 : (g.map fun r => PyData.int r.1.2) = (g.map (·.1.2)).map .int := by rw [List.map_map]; rfl
    have m3 : (g.map fun r => PyData.int r.2.1) = (g.map (·.2.1)).map .int := by rw [List.map_map]; rfl
    have m4 : (g.map fun r => PyData.int r.2.2) = (g.map (·.2.2)).map .int := by rw [List.map_map]; rfl
    have j0 : ∀ p q : PyData, atI [p, q] 0 = some p := fun _ _ => rfl
    have j1 : ∀ p q : PyData, atI [p, q] 1 = some q := fun _ _ => rfl
    have t0 : ∀ p q r : PyData, atI [p, q, r] 0 = some p := fun _ _ _ => rfl
    have t1 : ∀ p q r : PyData, atI [p, q, r] 1 = some q := fun _ _ _ => rfl
    have t2 : ∀ p q r : PyData, atI [p, q, r] 2 = some r := fun _ _ _ => rfl
    have hal : f__law_same 6 [boxV g, boxV g] = some (.bool true) := same_ok rfl
    unfold boxV at hbo hal
    simp
    refine ⟨by omega, ?_⟩
    refine w_compA (F := rpD) (fun r => .int r.1.1) (fun r hr => by simp [pr, t0, j0]) ?_
    rw [m1]
    generalize g.map (·.1.1) = X at *
    simp
    refine ⟨by omega, ?_⟩
    refine w_compA (F := rpD) (fun r => .int r.1.2) (fun r hr => by simp [pr, t0, j1]) ?_
    rw [m2]
    generalize g.map (·.1.2) = Y at *
    simp
    refine ⟨by omega, ?_⟩
    refine w_compA (F := rpD) (fun r => .int r.2.1) (fun r hr => by simp [t1]) ?_
    rw [m3]
    generalize g.map (·.2.1) = T at *
    simp [a1, a2, a3, a4, a5, a6]
    refine ⟨by omega, ?_⟩
    refine w_compA (F := rpD) (fun r => .int r.2.2) (fun r hr => by simp [t2]) ?_
    rw [m4]
    generalize g.map (·.2.2) = V at *
    simp [a7, hbo, hal]
    omega
  · obtain ⟨rfl, hjl, rfl⟩ := hi
    simp
    rw [rng_0]
    refine w_compA (F := fun k : Nat => PyData.int (k : Int)) (fun k : Nat => PyData.int ((C (k : Int)).length : Int)) (fun k hk => by
      have := hla (k : Int)
      have h2 : ((C (k : Int)).map gpD).length = (C (k : Int)).length := List.length_map ..
      generalize (C (k : Int)).map gpD = CD at *
      simp [this, h2]) ?_
    have hat : ∀ k : Nat, k < 14 → atI ((List.range 14).map fun k : Nat => PyData.int ((C (k : Int)).length : Int)) (k : Int) = some (.int ((C (k : Int)).length : Int)) := fun k hk => by
      rw [atI_pos, List.getElem?_map, List.getElem?_range hk]
      rfl
    generalize ((List.range 14).map fun k : Nat => PyData.int ((C (k : Int)).length : Int)) = CN at *
    simp [hme]
    refine w_compL (F := fun k : Nat => PyData.int (k : Int)) (fun k : Nat => decide (k = 0) || decide ((C (k : Int)).length ≠ (C ((k - 1 : Nat) : Int)).length)) (fun k : Nat => npD (k, (C (k : Int)).length)) rfl (fun k hk => ?_) ?_
    · rw [List.mem_range] at hk
      have f1 := hat k hk
      by_cases hk0 : k = 0
      · subst hk0
        have f1 : atI CN 0 = some (.int ((C 0).length : Int)) := f1
        simp [f1]
      · have f2 := hat (k - 1) (by omega)
        have hkk : ((k - 1 : Nat) : Int) = (k : Int) - 1 := by omega
        rw [hkk] at f2 ⊢
        have hk1 : ¬ ((k : Int) = 0) := by omega
        generalize (C (k : Int)).length = m at *
        generalize (C ((k : Int) - 1)).length = m1 at *
        have hmm : ((m : Int) = (m1 : Int)) ↔ m = m1 := by omega
        by_cases hq : m = m1
        · simp [f1, f2, hk0, hk1, hq]
        · have hq2 : ¬ ((m : Int) = (m1 : Int)) := by omega
          simp [f1, f2, hk0, hk1, hq, hq2]
    · have htn : (((List.range 14).filter fun k : Nat => decide (k = 0) || decide ((C (k : Int)).length ≠ (C ((k - 1 : Nat) : Int)).length)).map fun k : Nat => npD (k, (C (k : Int)).length)) = (turns (fun k => (C (k : Int)).length) 14).map npD := by
        unfold turns
        rw [List.map_map]
        rfl
      rw [htn]
      have htl : (turns (fun k => (C (k : Int)).length) 14).length ≤ 14 := by
        unfold turns
        rw [List.length_map]
        exact Nat.le_trans (List.length_filter_le _ _) (by rw [List.length_range]; omega)
      generalize turns (fun k => (C (k : Int)).length) 14 = TN at *
      have hal : f__law_same 6 [.tuple (TN.map npD), .tuple (TN.map npD)] = some (.bool true) := same_ok (by
        show (decide ((TN.map npD).length ≤ 100000) && (TN.map npD).all (okS 5)) = true
        rw [List.length_map, decide_eq_true (by omega), Bool.true_and, List.all_map, List.all_eq_true]
        exact fun _ _ => rfl)
      generalize TN.map npD = TD at *
      simp [hal]
      exact hc1 _ _ _ _ _ _ _ _ _ _ _
end DL
namespace DL
open PySem PySem.Spec L2
open PyProof.Rows hiding St
def inGrid (r : Rp) : Prop := -2 ≤ r.1.1 ∧ r.1.1 ≤ 4 ∧ -1 ≤ r.1.2 ∧ r.1.2 ≤ 3
theorem grid_stp {a b : Rp} (ha : inGrid a) (hb : inGrid b) : stp a b ≤ 13 := by
  unfold inGrid at ha hb
  unfold stp abI
  omega
set_option maxHeartbeats 0 in
theorem law_true : lawOk f_law := by
  intro ns' hn
  suffices H : W (f_law [.f (.list (ns'.map .int))] []) fun q => ∃ S, q = (.p (.bool true), S) by
    obtain ⟨_, e, S, rfl⟩ := H
    exact ⟨S, e⟩
  obtain ⟨ds, hd⟩ := draws_ok (m := 400) (by decide) (by decide) ns' hn []
  have hz : (sizeLine : Nat) = 16777216 := sizeLine_eq
  unfold f_law b_law
  simp [hd]
  refine forL_rng (fun k ρ S => Stw ds S ∧ ρ = [some (.f (.list (ns'.map .int))), some (.c 0), none, none, none, none, none, none, none, none, none, none, none, none, none, none, none, none, none]) (fun x hx ρ S hi => ?_) (fun ρ S hi => ?_) ⟨⟨0, rfl⟩, rfl⟩
  · obtain ⟨⟨a, rfl⟩, rfl⟩ := hi
    simp
    refine w_next (by omega) fun r a1 r0 r1 => ?_
    obtain ⟨m, rfl⟩ : ∃ k : Nat, r = k := ⟨r.toNat, by omega⟩
    simp
    have h0 : PyData.list [] = .list (([] : List Rp).map rpD) := rfl
    rw [h0]
    refine ⟨by omega, ?_⟩
    refine forL_rng (fun k ρ S => Stw ds S ∧ k ≤ m ∧ ∃ R : List Rp, ρ = [some (.f (.list (ns'.map .int))), some (.c 0), some (.p (.int (x : Int))), some (.p (.list (R.map rpD))), none, none, none, none, none, none, none, none, none, none, none, none, none, none, none] ∧ R.Nodup ∧ R.length ≤ k ∧ ∀ q ∈ R, inGrid q) (fun k hk ρ S hi => ?_) (fun ρ S hi => ?_) ⟨⟨_, rfl⟩, Nat.zero_le _, [], rfl, .nil, Nat.le_refl _, by simp⟩
    · obtain ⟨⟨a2, rfl⟩, hkl, R, rfl, hR, hRl, hRg⟩ := hi
      simp
      refine w_next (by omega) fun px a3 x0 x1 => ?_
      simp
      refine w_next (by omega) fun py a4 y0 y1 => ?_
      simp
      refine w_next (by omega) fun u a5 u0 u1 => ?_
      simp
      refine w_next (by omega) fun l a6 l0 l1 => ?_
      have hone : PyData.tuple [.tuple [.int (px - 2), .int (py - 1)], .int u, .int (1 + l)] = rpD ((px - 2, py - 1), u, 1 + l) := rfl
      have hg : inGrid ((px - 2, py - 1), u, 1 + l) := ⟨by show -2 ≤ px - 2; omega, by show px - 2 ≤ 4; omega, by show -1 ≤ py - 1; omega, by show py - 1 ≤ 3; omega⟩
      simp
      rw [hone]
      generalize ((px - 2, py - 1), u, 1 + l) = one at *
      have hni : notInD (rpD one) (.list (R.map rpD)) = some (.bool (!isIn one R)) := nmem_of enc_rp isIn_iff
      have hap : R.map rpD ++ [rpD one] = (R ++ [one]).map rpD := by rw [List.map_append]; rfl
      cases hq : isIn one R with
      | true =>
        rw [hq] at hni
        simp [hni]
        exact ⟨by omega, ⟨_, rfl⟩, by omega, R, rfl, hR, by omega, fun a b c d z => hRg _ z⟩
      | false =>
        rw [hq] at hni
        have hnin : one ∉ R := fun z => by rw [isIn_iff.mp z] at hq; cases hq
        have hnd2 : (R ++ [one]).Nodup := by
          rw [List.nodup_append]
          refine ⟨hR, by simp, fun q hq2 w hw e => ?_⟩
          rw [List.mem_singleton] at hw
          exact hnin (by rw [← hw, ← e]; exact hq2)
        have hgg : ∀ q ∈ R ++ [one], inGrid q := fun q z => by
          rcases List.mem_append.mp z with z | z
          · exact hRg q z
          · rw [List.mem_singleton] at z; rw [z]; exact hg
        have hlen2 : (R ++ [one]).length = R.length + 1 := by simp
        generalize hRR : R ++ [one] = RR at *
        simp [hni]
        exact ⟨by omega, ⟨_, rfl⟩, by omega, RR, hap, hnd2, by omega, fun a b c d z => hgg _ z⟩
    · obtain ⟨⟨a2, rfl⟩, hkl, R, rfl, hR, hRl, hRg⟩ := hi
      simp
      refine w_next (by omega) fun h a3 x0 x1 => ?_
      simp
      refine w_next (by omega) fun s a4 y0 y1 => ?_
      obtain ⟨C, hC⟩ := cl_ex hR (by omega) h
      have hc2 := fun y2 y4 y5 y8 Q (hQ : DoneK ns' ds Q) => c2_ok (a := a4) (s := s) (y2 := y2) (y4 := y4) (y5 := y5) (y8 := y8) (Q := Q) (by omega) hC (fun a ha b hb => grid_stp (hRg a ha) (hRg b hb)) hQ
      have e1 := hC.pro s
      have e2 := hC.law s
      have hCl := hC.len s
      have hpa := fun g hg => hC.part s (g := g) hg
      have hal : f__law_same 6 [.tuple ((C s).map gpD), .tuple ((C s).map gpD)] = some (.bool true) := same_ok (by
        show (decide (((C s).map gpD).length ≤ 100000) && ((C s).map gpD).all (okS 5)) = true
        rw [List.length_map, decide_eq_true (by omega), Bool.true_and, List.all_map, List.all_eq_true]
        intro g hg
        have := (hpa g hg).2
        show (decide ((g.map rpD).length ≤ 100000) && (g.map rpD).all (okS 4)) = true
        rw [List.length_map, decide_eq_true (by omega), Bool.true_and, List.all_map, List.all_eq_true]
        exact fun _ _ => rfl)
      generalize hTR : PyData.tuple (R.map rpD) = TR at *
      generalize hRD : PyData.list (R.map rpD) = RD at *
      generalize hCS : PyData.tuple ((C s).map gpD) = CS at *
      have htu : tupleD [RD] = some TR := by rw [← hRD, ← hTR]; rfl
      simp [htu, e1, e2, hal]
      refine hc2 _ _ _ _ _ ?_
      intro a' z2 z3 z4 z5 z6 z7 z8 z9 z10 z11 z12 z13 z14 z15 z16 z17
      simp
      exact ⟨_, rfl⟩
  · simp
end DL
open PySem PySem.W PyProof.Rows
set_option maxHeartbeats 0 in
theorem PySem.Challenge.cw_forewarned_k86_reports_that_lie_near_holds : PySem.Challenge.rw_forewarned_k86_reports_that_lie_near.Holds := by
  w_on; o_law; k_head; (case hw => w_witness2)
  k_fill
  refine L2.walk_of (l := PySem.Challenge.rw_forewarned_k86_reports_that_lie_near) (n := 63) (k := 7) (x := "script") (CX := fun _ => L2.CX0) (sp := fun w => DL.spLaw _) rfl (by decide) rfl ⟨rfl, by decide, by decide⟩ (fun w h Y => PySem.W.kIn_of Y) ?F (fun _ _ a ns hl _ hS => ⟨a, ns, rfl, hS, hl, fun _ => rfl⟩) (fun _ _ _ _ _ h => h)
  case F =>
    intro w mg fa h KX G hmg
    refine' DL.all_mk KX G hmg DL.law_true ?a0 ?l0 ?c0 ?k0 ?a1 ?l1 ?c1 ?k1 ?a2 ?l2 ?c2 ?k2 ?a3 ?l3 ?c3 ?k3 ?a4 ?l4 ?c4 ?k4 ?a5 ?l5 ?c5 ?k5 ?a6 ?l6 ?c6 ?k6 ?a7 ?l7 ?c7 ?k7 ?a8 ?l8 ?c8 ?k8 ?a9 ?l9 ?c9 ?k9 ?a10 ?l10 ?c10 ?k10 ?a11 ?l11 ?c11 ?k11 ?a12 ?l12 ?c12 ?k12 ?z_abs ?z_any ?z_bool ?z_int ?z_isinstance ?z_len ?z_max ?z_min ?z_range ?z_set ?z_sorted ?z_str ?z_tuple
    (case a0 => k_is); (case l0 => k_is); (case c0 => k_is); (case k0 => k_is); (case a1 => k_is); (case l1 => k_is); (case c1 => k_is); (case k1 => k_is); (case a2 => k_is); (case l2 => k_is); (case c2 => k_is); (case k2 => k_is); (case a3 => k_is); (case l3 => k_is); (case c3 => k_is); (case k3 => k_is); (case a4 => k_is); (case l4 => k_is); (case c4 => k_is); (case k4 => k_is); (case a5 => k_is); (case l5 => k_is); (case c5 => k_is); (case k5 => k_is); (case a6 => k_is); (case l6 => k_is); (case c6 => k_is); (case k6 => k_is); (case a7 => k_is); (case l7 => k_is); (case c7 => k_is); (case k7 => k_is); (case a8 => k_is); (case l8 => k_is); (case c8 => k_is); (case k8 => k_is); (case a9 => k_is); (case l9 => k_is); (case c9 => k_is); (case k9 => k_is); (case a10 => k_is); (case l10 => k_is); (case c10 => k_is); (case k10 => k_is); (case a11 => k_is); (case l11 => k_is); (case c11 => k_is); (case k11 => k_is); (case a12 => k_is); (case l12 => k_is); (case c12 => k_is); (case k12 => k_is); (case z_abs => k_is); (case z_any => k_is); (case z_bool => k_is); (case z_int => k_is); (case z_isinstance => k_is); (case z_len => k_is); (case z_max => k_is); (case z_min => k_is); (case z_range => k_is); (case z_set => k_is); (case z_sorted => k_is); (case z_str => k_is); (case z_tuple => k_is)
